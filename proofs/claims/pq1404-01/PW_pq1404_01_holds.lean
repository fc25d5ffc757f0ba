import PyProof.Rows.All
import Wide.All
import OpenK.AllK
import Wide.FinOn
import Lean
import PySem.Challenge.RW_pq1404_01
open PySem PySem.W PyProof.Rows PySem.Calls PySem.Spec
set_option Elab.async false
set_option maxRecDepth 100000
set_option linter.unusedVariables false
set_option linter.unusedSimpArgs false
set_option compiler.extract_closed false
namespace Mine
section
/-! the head: what the program's top leaves, written out; its run, in pieces -/
noncomputable abbrev pw : Program := PySem.Challenge.pw_pq1404_01
noncomputable def c (i : Nat) : Stmt := (pw.main.body[i]?).getD default
noncomputable def kB : Stmt → List Stmt
  | .ClassDef _ _ _ b .. => b
  | _ => []
noncomputable def d (i j : Nat) : Stmt := ((kB (c i))[j]?).getD default
noncomputable def fA : Stmt → Arguments
  | .FunctionDef _ a .. => a
  | _ => { posonlyargs := [], args := [], vararg := none, kwonlyargs := [], kw_defaults := [], kwarg := none, defaults := [] }
noncomputable def fB : Stmt → List Stmt
  | .FunctionDef _ _ b .. => b
  | _ => []
noncomputable def fS : Stmt → Scope
  | .FunctionDef _ _ _ _ _ _ s .. => s
  | _ => { kind := .module, names := [], isGenerator := false, isCoroutine := false, more := [] }

noncomputable def o43 (P : Params) : Obj := (Obj.mk (Value.type "tuple") none (Data.seq #[] 0) #[])
noncomputable def o44 (P : Params) : Obj := (Obj.mk Value.none none (Data.fields #[]) #[])
noncomputable def o45 (P : Params) : Obj := (Obj.mk (Value.type "code") none (Data.fields #[(Value.str (Str.ofString "<module>") 182), (Value.str (Str.ofString "<module>") 183), (Value.str (Str.ofString "/claim/cut.py") 184), (Value.int 1 0), (Value.int 0 0), (Value.int 0 0), (Value.int 0 0), (Value.int 0 0), (Value.ref 11), (Value.bool Bool.false), (Value.int 181 0), (Value.ref 12), Value.none, Value.none, Value.none, Value.none, (Value.int 185 0), (Value.int 1 0), (Value.str (Str.ofString "/claim/cut.py") 186)]) #[])
noncomputable def o46 (P : Params) : Obj := (Obj.mk (Value.type "frame") none Data.plain #[(some (Value.ref 13)), (some (Value.ref 3)), (some (Value.ref 3)), none, (some (Value.str (Str.ofString "__main__") 164)), none, (some (Value.ref 0))])
noncomputable def o49 (P : Params) : Obj := (Obj.mk Value.none none (Data.dict #[(DictEntry.mk (PyData.keyHash P (Str.ofString "type.__subclasses__.Exception.0")) (Value.str (Str.ofString "type.__subclasses__.Exception.0") 230) (Value.int 45 0)), (DictEntry.mk (PyData.keyHash P (Str.ofString "type.__subclasses__.Exception.n")) (Value.str (Str.ofString "type.__subclasses__.Exception.n") 231) (Value.int 1 0))] 2) #[])
noncomputable def o50 (P : Params) : Obj := (Obj.mk (Value.type "dict") none (Data.dict #[(DictEntry.mk (PyData.keyHash P (Str.ofString "__name__")) (Value.str (Str.ofString "__name__") 165) (Value.str (Str.ofString "vectorcove.errors") 212)), (DictEntry.mk (PyData.keyHash P (Str.ofString "__doc__")) (Value.str (Str.ofString "__doc__") 166) Value.none), (DictEntry.mk (PyData.keyHash P (Str.ofString "__package__")) (Value.str (Str.ofString "__package__") 167) Value.none), (DictEntry.mk (PyData.keyHash P (Str.ofString "__loader__")) (Value.str (Str.ofString "__loader__") 168) (Value.builtin "__main__.__loader__#opaque")), (DictEntry.mk (PyData.keyHash P (Str.ofString "__spec__")) (Value.str (Str.ofString "__spec__") 169) Value.none), (DictEntry.mk (PyData.keyHash P (Str.ofString "__annotations__")) (Value.str (Str.ofString "__annotations__") 170) (Value.ref 6)), (DictEntry.mk (PyData.keyHash P (Str.ofString "__builtins__")) (Value.str (Str.ofString "__builtins__") 171) (Value.ref 4)), (DictEntry.mk (PyData.keyHash P (Str.ofString "__file__")) (Value.str (Str.ofString "__file__") 173) (Value.str (Str.ofString "/claim/cut.py") 172)), (DictEntry.mk (PyData.keyHash P (Str.ofString "__cached__")) (Value.str (Str.ofString "__cached__") 174) Value.none), (DictEntry.mk (PyData.keyHash P (Str.ofString "_wall")) (Value.str (Str.ofString "_wall") 193) (Value.ref 21)), (DictEntry.mk (PyData.keyHash P (Str.ofString "recycle_length")) (Value.str (Str.ofString "recycle_length") 203) (Value.ref 28)), (DictEntry.mk (PyData.keyHash P (Str.ofString "keep_all")) (Value.str (Str.ofString "keep_all") 211) (Value.ref 35)), (DictEntry.mk (PyData.keyHash P (Str.ofString "CoveError")) (Value.str (Str.ofString "CoveError") 233) (Value.ref 45))] 13) #[])
noncomputable def o51 (P : Params) : Obj := (Obj.mk Value.none none (Data.fields #[(Value.int 1 0), (Value.int 0 0), (Value.ref 20), (Value.int 5 0), (Value.int 0 0), (Value.ref 27), (Value.int 9 0), (Value.int 0 0), (Value.ref 34), (Value.int 14 0), (Value.int 0 0), (Value.ref 41)]) #[])
noncomputable def o52 (P : Params) : Obj := (Obj.mk (Value.type "tuple") none (Data.seq #[] 0) #[])
noncomputable def o53 (P : Params) : Obj := (Obj.mk Value.none none (Data.fields #[]) #[])
noncomputable def o54 (P : Params) : Obj := (Obj.mk (Value.type "tuple") none (Data.seq #[(Value.str (Str.ofString "k") 190)] 0) #[])
noncomputable def o55 (P : Params) : Obj := (Obj.mk (Value.type "tuple") none (Data.seq #[] 0) #[])
noncomputable def o56 (P : Params) : Obj := (Obj.mk Value.none none (Data.func (FuncData.mk (Str.ofString "_wall") (Str.ofString "_wall") (fA (c 0)) (FuncBody.stmts (fB (c 0))) (fS (c 0)) 0 [] Value.none Value.none Value.none Value.none none Value.none Value.none 0)) #[])
noncomputable def o57 (P : Params) : Obj := (Obj.mk (Value.type "code") none (Data.fields #[(Value.str (Str.ofString "_wall") 187), (Value.str (Str.ofString "_wall") 188), (Value.str (Str.ofString "/claim/cut.py") 189), (Value.int 1 0), (Value.int 1 0), (Value.int 0 0), (Value.int 0 0), (Value.int 3 0), (Value.ref 15), (Value.bool Bool.true), (Value.int 181 0), (Value.ref 16), Value.none, (Value.ref 17), (Value.ref 18), (Value.ref 19), (Value.int 191 0), (Value.int 1 0), (Value.str (Str.ofString "/claim/cut.py") 192)]) #[])
noncomputable def o58 (P : Params) : Obj := (Obj.mk (Value.type "function") none (Data.func (FuncData.mk (Str.ofString "_wall") (Str.ofString "_wall") (fA (c 0)) (FuncBody.stmts (fB (c 0))) (fS (c 0)) 3 [] Value.none Value.none Value.none (Value.str (Str.ofString "__main__") 164) none (Value.ref 20) Value.none 0)) #[])
noncomputable def o59 (P : Params) : Obj := (Obj.mk (Value.type "tuple") none (Data.seq #[] 0) #[])
noncomputable def o60 (P : Params) : Obj := (Obj.mk Value.none none (Data.fields #[]) #[])
noncomputable def o61 (P : Params) : Obj := (Obj.mk (Value.type "tuple") none (Data.seq #[(Value.str (Str.ofString "n") 199), (Value.str (Str.ofString "m") 200)] 0) #[])
noncomputable def o62 (P : Params) : Obj := (Obj.mk (Value.type "tuple") none (Data.seq #[] 0) #[])
noncomputable def o63 (P : Params) : Obj := (Obj.mk Value.none none (Data.func (FuncData.mk (Str.ofString "recycle_length") (Str.ofString "recycle_length") (fA (c 2)) (FuncBody.stmts (fB (c 2))) (fS (c 2)) 0 [] Value.none Value.none Value.none Value.none none Value.none Value.none 0)) #[])
noncomputable def o64 (P : Params) : Obj := (Obj.mk (Value.type "code") none (Data.fields #[(Value.str (Str.ofString "recycle_length") 196), (Value.str (Str.ofString "recycle_length") 197), (Value.str (Str.ofString "/claim/cut.py") 198), (Value.int 5 0), (Value.int 2 0), (Value.int 0 0), (Value.int 0 0), (Value.int 3 0), (Value.ref 22), (Value.bool Bool.true), (Value.int 181 0), (Value.ref 23), Value.none, (Value.ref 24), (Value.ref 25), (Value.ref 26), (Value.int 201 0), (Value.int 5 0), (Value.str (Str.ofString "/claim/cut.py") 202)]) #[])
noncomputable def o65 (P : Params) : Obj := (Obj.mk (Value.type "function") none (Data.func (FuncData.mk (Str.ofString "recycle_length") (Str.ofString "recycle_length") (fA (c 2)) (FuncBody.stmts (fB (c 2))) (fS (c 2)) 3 [] Value.none Value.none Value.none (Value.str (Str.ofString "vectorcove.arith") 194) none (Value.ref 27) Value.none 0)) #[])
noncomputable def o66 (P : Params) : Obj := (Obj.mk (Value.type "tuple") none (Data.seq #[] 0) #[])
noncomputable def o67 (P : Params) : Obj := (Obj.mk Value.none none (Data.fields #[]) #[])
noncomputable def o68 (P : Params) : Obj := (Obj.mk (Value.type "tuple") none (Data.seq #[(Value.str (Str.ofString "v") 207), (Value.str (Str.ofString "result") 208)] 0) #[])
noncomputable def o69 (P : Params) : Obj := (Obj.mk (Value.type "tuple") none (Data.seq #[] 0) #[])
noncomputable def o70 (P : Params) : Obj := (Obj.mk Value.none none (Data.func (FuncData.mk (Str.ofString "keep_all") (Str.ofString "keep_all") (fA (c 3)) (FuncBody.stmts (fB (c 3))) (fS (c 3)) 0 [] Value.none Value.none Value.none Value.none none Value.none Value.none 0)) #[])
noncomputable def o71 (P : Params) : Obj := (Obj.mk (Value.type "code") none (Data.fields #[(Value.str (Str.ofString "keep_all") 204), (Value.str (Str.ofString "keep_all") 205), (Value.str (Str.ofString "/claim/cut.py") 206), (Value.int 9 0), (Value.int 2 0), (Value.int 0 0), (Value.int 0 0), (Value.int 3 0), (Value.ref 29), (Value.bool Bool.true), (Value.int 181 0), (Value.ref 30), Value.none, (Value.ref 31), (Value.ref 32), (Value.ref 33), (Value.int 209 0), (Value.int 9 0), (Value.str (Str.ofString "/claim/cut.py") 210)]) #[])
noncomputable def o72 (P : Params) : Obj := (Obj.mk (Value.type "function") none (Data.func (FuncData.mk (Str.ofString "keep_all") (Str.ofString "keep_all") (fA (c 3)) (FuncBody.stmts (fB (c 3))) (fS (c 3)) 3 [] Value.none Value.none Value.none (Value.str (Str.ofString "vectorcove.arith") 194) none (Value.ref 34) Value.none 0)) #[])
noncomputable def o73 (P : Params) : Obj := (Obj.mk (Value.type "tuple") none (Data.seq #[(Value.type "Exception")] 0) #[])
noncomputable def o74 (P : Params) : Obj := (Obj.mk (Value.type "builtin_function_or_method") none (Data.fields #[(Value.builtin "type.__prepare__"), (Value.type "type")]) #[])
noncomputable def o75 (P : Params) : Obj := (Obj.mk (Value.type "dict") none (Data.dict #[(DictEntry.mk (PyData.keyHash P (Str.ofString "__module__")) (Value.str (Str.ofString "__module__") 221) (Value.str (Str.ofString "vectorcove.errors") 212)), (DictEntry.mk (PyData.keyHash P (Str.ofString "__qualname__")) (Value.str (Str.ofString "__qualname__") 223) (Value.str (Str.ofString "CoveError") 222)), (DictEntry.mk (PyData.keyHash P (Str.ofString "__firstlineno__")) (Value.str (Str.ofString "__firstlineno__") 225) (Value.int 14 224)), (DictEntry.mk (PyData.keyHash P (Str.ofString "__static_attributes__")) (Value.str (Str.ofString "__static_attributes__") 226) (Value.ref 43))] 4) #[])
noncomputable def o76 (P : Params) : Obj := (Obj.mk (Value.type "tuple") none (Data.seq #[] 0) #[])
noncomputable def o77 (P : Params) : Obj := (Obj.mk Value.none none (Data.fields #[]) #[])
noncomputable def o78 (P : Params) : Obj := (Obj.mk (Value.type "code") none (Data.fields #[(Value.str (Str.ofString "CoveError") 216), (Value.str (Str.ofString "CoveError") 217), (Value.str (Str.ofString "/claim/cut.py") 218), (Value.int 14 0), (Value.int 0 0), (Value.int 0 0), (Value.int 0 0), (Value.int 0 0), (Value.ref 39), (Value.bool Bool.false), (Value.int 181 0), (Value.ref 40), Value.none, Value.none, Value.none, Value.none, (Value.int 219 0), (Value.int 14 0), (Value.str (Str.ofString "/claim/cut.py") 220)]) #[])
noncomputable def o79 (P : Params) : Obj := (Obj.mk (Value.type "frame") none Data.plain #[(some (Value.ref 41)), (some (Value.ref 3)), (some (Value.ref 38)), none, (some (Value.str (Str.ofString "vectorcove.errors") 212)), none, (some (Value.ref 0))])
noncomputable def o80 (P : Params) : Obj := (Obj.mk (Value.type "tuple") none (Data.seq #[] 0) #[])
noncomputable def o81 (P : Params) : Obj := (Obj.mk (Value.type "dict") none (Data.dict #[(DictEntry.mk (PyData.keyHash P (Str.ofString "__module__")) (Value.str (Str.ofString "__module__") 221) (Value.str (Str.ofString "vectorcove.errors") 212)), (DictEntry.mk (PyData.keyHash P (Str.ofString "__firstlineno__")) (Value.str (Str.ofString "__firstlineno__") 225) (Value.int 14 224)), (DictEntry.mk (PyData.keyHash P (Str.ofString "__static_attributes__")) (Value.str (Str.ofString "__static_attributes__") 226) (Value.ref 43)), (DictEntry.mk (PyData.keyHash P (Str.ofString "__weakref__")) (Value.str (Str.ofString "__weakref__") 228) (Value.ref 46)), (DictEntry.mk (PyData.keyHash P (Str.ofString "__doc__")) (Value.str (Str.ofString "__doc__") 229) Value.none)] 3) #[])
noncomputable def o82 (P : Params) : Obj := (Obj.mk (Value.type "type") none (Data.cls (ClassData.mk (Str.ofString "CoveError") [(Value.type "Exception")] [(Value.ref 45), (Value.type "Exception"), (Value.type "BaseException"), (Value.type "object")] 44 (Str.ofString "CoveError") Bool.true [] [] Bool.false none Bool.false)) #[(some (Value.ref 36)), none, (some (Value.str (Str.ofString "CoveError") 214)), (some (Value.str (Str.ofString "CoveError") 222)), (some (Value.builtin "Exception.__new__")), (some (Value.bool Bool.true))])
noncomputable def o83 (P : Params) : Obj := (Obj.mk (Value.type "getset_descriptor") none (Data.fields #[(Value.str (Str.ofString "__weakref__") 227), (Value.ref 45), (Value.builtin "ExceptionGroup.__weakref__"), Value.none]) #[])
noncomputable def o84 (P : Params) : Obj := (Obj.mk (Value.type "super") none (Data.fields #[(Value.ref 45), (Value.ref 45), (Value.ref 45)]) #[])
noncomputable def o85 (P : Params) : Obj := (Obj.mk (Value.type "builtin_function_or_method") none (Data.fields #[(Value.builtin "object.__init_subclass__"), (Value.ref 45)]) #[])
noncomputable def o86 (P : Params) : Obj := (Obj.mk (Value.type "dict") none (Data.dict #[(DictEntry.mk (PyData.keyHash P (Str.ofString "__name__")) (Value.str (Str.ofString "__name__") 165) (Value.str (Str.ofString "vectorcove.values") 259)), (DictEntry.mk (PyData.keyHash P (Str.ofString "__doc__")) (Value.str (Str.ofString "__doc__") 166) Value.none), (DictEntry.mk (PyData.keyHash P (Str.ofString "__package__")) (Value.str (Str.ofString "__package__") 167) Value.none), (DictEntry.mk (PyData.keyHash P (Str.ofString "__loader__")) (Value.str (Str.ofString "__loader__") 168) (Value.builtin "__main__.__loader__#opaque")), (DictEntry.mk (PyData.keyHash P (Str.ofString "__spec__")) (Value.str (Str.ofString "__spec__") 169) Value.none), (DictEntry.mk (PyData.keyHash P (Str.ofString "__annotations__")) (Value.str (Str.ofString "__annotations__") 170) (Value.ref 6)), (DictEntry.mk (PyData.keyHash P (Str.ofString "__builtins__")) (Value.str (Str.ofString "__builtins__") 171) (Value.ref 4)), (DictEntry.mk (PyData.keyHash P (Str.ofString "__file__")) (Value.str (Str.ofString "__file__") 173) (Value.str (Str.ofString "/claim/cut.py") 172)), (DictEntry.mk (PyData.keyHash P (Str.ofString "__cached__")) (Value.str (Str.ofString "__cached__") 174) Value.none), (DictEntry.mk (PyData.keyHash P (Str.ofString "_wall")) (Value.str (Str.ofString "_wall") 193) (Value.ref 21)), (DictEntry.mk (PyData.keyHash P (Str.ofString "recycle_length")) (Value.str (Str.ofString "recycle_length") 203) (Value.ref 28)), (DictEntry.mk (PyData.keyHash P (Str.ofString "keep_all")) (Value.str (Str.ofString "keep_all") 211) (Value.ref 35)), (DictEntry.mk (PyData.keyHash P (Str.ofString "CoveError")) (Value.str (Str.ofString "CoveError") 233) (Value.ref 45)), (DictEntry.mk (PyData.keyHash P (Str.ofString "Refusal")) (Value.str (Str.ofString "Refusal") 258) (Value.ref 65))] 14) #[])
noncomputable def o87 (P : Params) : Obj := (Obj.mk Value.none none (Data.fields #[(Value.int 1 0), (Value.int 0 0), (Value.ref 20), (Value.int 5 0), (Value.int 0 0), (Value.ref 27), (Value.int 9 0), (Value.int 0 0), (Value.ref 34), (Value.int 14 0), (Value.int 0 0), (Value.ref 41), (Value.int 16 0), (Value.int 0 0), (Value.ref 54)]) #[])
noncomputable def o88 (P : Params) : Obj := (Obj.mk (Value.type "type") none (Data.cls (ClassData.mk (Str.ofString "CoveError") [(Value.type "Exception")] [(Value.ref 45), (Value.type "Exception"), (Value.type "BaseException"), (Value.type "object")] 44 (Str.ofString "CoveError") Bool.true [] [(Value.ref 65)] Bool.false none Bool.false)) #[(some (Value.ref 36)), none, (some (Value.str (Str.ofString "CoveError") 214)), (some (Value.str (Str.ofString "CoveError") 222)), (some (Value.builtin "Exception.__new__")), (some (Value.bool Bool.true))])
noncomputable def o89 (P : Params) : Obj := (Obj.mk (Value.type "tuple") none (Data.seq #[(Value.ref 45)] 0) #[])
noncomputable def o90 (P : Params) : Obj := (Obj.mk (Value.type "builtin_function_or_method") none (Data.fields #[(Value.builtin "type.__prepare__"), (Value.type "type")]) #[])
noncomputable def o91 (P : Params) : Obj := (Obj.mk (Value.type "dict") none (Data.dict #[(DictEntry.mk (PyData.keyHash P (Str.ofString "__module__")) (Value.str (Str.ofString "__module__") 241) (Value.str (Str.ofString "vectorcove.errors") 212)), (DictEntry.mk (PyData.keyHash P (Str.ofString "__qualname__")) (Value.str (Str.ofString "__qualname__") 243) (Value.str (Str.ofString "Refusal") 242)), (DictEntry.mk (PyData.keyHash P (Str.ofString "__firstlineno__")) (Value.str (Str.ofString "__firstlineno__") 245) (Value.int 16 244)), (DictEntry.mk (PyData.keyHash P (Str.ofString "__init__")) (Value.str (Str.ofString "__init__") 253) (Value.ref 62)), (DictEntry.mk (PyData.keyHash P (Str.ofString "__static_attributes__")) (Value.str (Str.ofString "__static_attributes__") 255) (Value.ref 63))] 5) #[])
noncomputable def o92 (P : Params) : Obj := (Obj.mk (Value.type "tuple") none (Data.seq #[] 0) #[])
noncomputable def o93 (P : Params) : Obj := (Obj.mk Value.none none (Data.fields #[(Value.int 18 0), (Value.int 4 0), (Value.ref 61)]) #[])
noncomputable def o94 (P : Params) : Obj := (Obj.mk (Value.type "code") none (Data.fields #[(Value.str (Str.ofString "Refusal") 236), (Value.str (Str.ofString "Refusal") 237), (Value.str (Str.ofString "/claim/cut.py") 238), (Value.int 16 0), (Value.int 0 0), (Value.int 0 0), (Value.int 0 0), (Value.int 0 0), (Value.ref 52), (Value.bool Bool.false), (Value.int 181 0), (Value.ref 53), Value.none, Value.none, Value.none, Value.none, (Value.int 239 0), (Value.int 16 0), (Value.str (Str.ofString "/claim/cut.py") 240)]) #[])
noncomputable def o95 (P : Params) : Obj := (Obj.mk (Value.type "frame") none Data.plain #[(some (Value.ref 54)), (some (Value.ref 3)), (some (Value.ref 51)), none, (some (Value.str (Str.ofString "vectorcove.errors") 212)), none, (some (Value.ref 0))])
noncomputable def o96 (P : Params) : Obj := (Obj.mk (Value.type "tuple") none (Data.seq #[] 0) #[])
noncomputable def o97 (P : Params) : Obj := (Obj.mk Value.none none (Data.fields #[]) #[])
noncomputable def o98 (P : Params) : Obj := (Obj.mk (Value.type "tuple") none (Data.seq #[(Value.str (Str.ofString "self") 249), (Value.str (Str.ofString "message") 250)] 0) #[])
noncomputable def o99 (P : Params) : Obj := (Obj.mk (Value.type "tuple") none (Data.seq #[] 0) #[])
noncomputable def o100 (P : Params) : Obj := (Obj.mk Value.none none (Data.func (FuncData.mk (Str.ofString "__init__") (Str.ofString "Refusal.__init__") (fA (d 6 0)) (FuncBody.stmts (fB (d 6 0))) (fS (d 6 0)) 0 [] Value.none Value.none Value.none Value.none none Value.none Value.none 0)) #[])
noncomputable def o101 (P : Params) : Obj := (Obj.mk (Value.type "code") none (Data.fields #[(Value.str (Str.ofString "__init__") 246), (Value.str (Str.ofString "Refusal.__init__") 247), (Value.str (Str.ofString "/claim/cut.py") 248), (Value.int 18 0), (Value.int 2 0), (Value.int 0 0), (Value.int 0 0), (Value.int 3 0), (Value.ref 56), (Value.bool Bool.true), (Value.int 181 0), (Value.ref 57), Value.none, (Value.ref 58), (Value.ref 59), (Value.ref 60), (Value.int 251 0), (Value.int 18 0), (Value.str (Str.ofString "/claim/cut.py") 252)]) #[])
noncomputable def o102 (P : Params) : Obj := (Obj.mk (Value.type "function") none (Data.func (FuncData.mk (Str.ofString "__init__") (Str.ofString "Refusal.__init__") (fA (d 6 0)) (FuncBody.stmts (fB (d 6 0))) (fS (d 6 0)) 3 [] Value.none Value.none Value.none (Value.str (Str.ofString "vectorcove.errors") 212) none (Value.ref 61) Value.none 0)) #[])
noncomputable def o103 (P : Params) : Obj := (Obj.mk (Value.type "tuple") none (Data.seq #[(Value.str (Str.ofString "message") 254)] 0) #[])
noncomputable def o104 (P : Params) : Obj := (Obj.mk (Value.type "dict") none (Data.dict #[(DictEntry.mk (PyData.keyHash P (Str.ofString "__module__")) (Value.str (Str.ofString "__module__") 241) (Value.str (Str.ofString "vectorcove.errors") 212)), (DictEntry.mk (PyData.keyHash P (Str.ofString "__firstlineno__")) (Value.str (Str.ofString "__firstlineno__") 245) (Value.int 16 244)), (DictEntry.mk (PyData.keyHash P (Str.ofString "__init__")) (Value.str (Str.ofString "__init__") 253) (Value.ref 62)), (DictEntry.mk (PyData.keyHash P (Str.ofString "__static_attributes__")) (Value.str (Str.ofString "__static_attributes__") 255) (Value.ref 63)), (DictEntry.mk (PyData.keyHash P (Str.ofString "__doc__")) (Value.str (Str.ofString "__doc__") 256) Value.none)] 2) #[])
noncomputable def o105 (P : Params) : Obj := (Obj.mk (Value.type "type") none (Data.cls (ClassData.mk (Str.ofString "Refusal") [(Value.ref 45)] [(Value.ref 65), (Value.ref 45), (Value.type "Exception"), (Value.type "BaseException"), (Value.type "object")] 64 (Str.ofString "Refusal") Bool.true [] [] Bool.false none Bool.false)) #[(some (Value.ref 49)), none, (some (Value.str (Str.ofString "Refusal") 234)), (some (Value.str (Str.ofString "Refusal") 242)), (some (Value.builtin "Exception.__new__")), (some (Value.bool Bool.true))])
noncomputable def o106 (P : Params) : Obj := (Obj.mk (Value.type "super") none (Data.fields #[(Value.ref 65), (Value.ref 65), (Value.ref 65)]) #[])
noncomputable def o107 (P : Params) : Obj := (Obj.mk (Value.type "builtin_function_or_method") none (Data.fields #[(Value.builtin "object.__init_subclass__"), (Value.ref 65)]) #[])
noncomputable def o108 (P : Params) : Obj := (Obj.mk (Value.type "dict") none (Data.dict #[(DictEntry.mk (PyData.keyHash P (Str.ofString "__name__")) (Value.str (Str.ofString "__name__") 165) (Value.str (Str.ofString "vectorcove.callargs") 303)), (DictEntry.mk (PyData.keyHash P (Str.ofString "__doc__")) (Value.str (Str.ofString "__doc__") 166) Value.none), (DictEntry.mk (PyData.keyHash P (Str.ofString "__package__")) (Value.str (Str.ofString "__package__") 167) Value.none), (DictEntry.mk (PyData.keyHash P (Str.ofString "__loader__")) (Value.str (Str.ofString "__loader__") 168) (Value.builtin "__main__.__loader__#opaque")), (DictEntry.mk (PyData.keyHash P (Str.ofString "__spec__")) (Value.str (Str.ofString "__spec__") 169) Value.none), (DictEntry.mk (PyData.keyHash P (Str.ofString "__annotations__")) (Value.str (Str.ofString "__annotations__") 170) (Value.ref 6)), (DictEntry.mk (PyData.keyHash P (Str.ofString "__builtins__")) (Value.str (Str.ofString "__builtins__") 171) (Value.ref 4)), (DictEntry.mk (PyData.keyHash P (Str.ofString "__file__")) (Value.str (Str.ofString "__file__") 173) (Value.str (Str.ofString "/claim/cut.py") 172)), (DictEntry.mk (PyData.keyHash P (Str.ofString "__cached__")) (Value.str (Str.ofString "__cached__") 174) Value.none), (DictEntry.mk (PyData.keyHash P (Str.ofString "_wall")) (Value.str (Str.ofString "_wall") 193) (Value.ref 21)), (DictEntry.mk (PyData.keyHash P (Str.ofString "recycle_length")) (Value.str (Str.ofString "recycle_length") 203) (Value.ref 28)), (DictEntry.mk (PyData.keyHash P (Str.ofString "keep_all")) (Value.str (Str.ofString "keep_all") 211) (Value.ref 35)), (DictEntry.mk (PyData.keyHash P (Str.ofString "CoveError")) (Value.str (Str.ofString "CoveError") 233) (Value.ref 45)), (DictEntry.mk (PyData.keyHash P (Str.ofString "Refusal")) (Value.str (Str.ofString "Refusal") 258) (Value.ref 65)), (DictEntry.mk (PyData.keyHash P (Str.ofString "Vector")) (Value.str (Str.ofString "Vector") 302) (Value.ref 92))] 15) #[])
noncomputable def o109 (P : Params) : Obj := (Obj.mk Value.none none (Data.fields #[(Value.int 1 0), (Value.int 0 0), (Value.ref 20), (Value.int 5 0), (Value.int 0 0), (Value.ref 27), (Value.int 9 0), (Value.int 0 0), (Value.ref 34), (Value.int 14 0), (Value.int 0 0), (Value.ref 41), (Value.int 16 0), (Value.int 0 0), (Value.ref 54), (Value.int 21 0), (Value.int 0 0), (Value.ref 73)]) #[])
noncomputable def o110 (P : Params) : Obj := (Obj.mk (Value.type "tuple") none (Data.seq #[] 0) #[])
noncomputable def o111 (P : Params) : Obj := (Obj.mk (Value.type "builtin_function_or_method") none (Data.fields #[(Value.builtin "type.__prepare__"), (Value.type "type")]) #[])
noncomputable def o112 (P : Params) : Obj := (Obj.mk (Value.type "dict") none (Data.dict #[(DictEntry.mk (PyData.keyHash P (Str.ofString "__module__")) (Value.str (Str.ofString "__module__") 268) (Value.str (Str.ofString "vectorcove.values") 259)), (DictEntry.mk (PyData.keyHash P (Str.ofString "__qualname__")) (Value.str (Str.ofString "__qualname__") 270) (Value.str (Str.ofString "Vector") 269)), (DictEntry.mk (PyData.keyHash P (Str.ofString "__firstlineno__")) (Value.str (Str.ofString "__firstlineno__") 272) (Value.int 21 271)), (DictEntry.mk (PyData.keyHash P (Str.ofString "__init__")) (Value.str (Str.ofString "__init__") 282) (Value.ref 82)), (DictEntry.mk (PyData.keyHash P (Str.ofString "copy")) (Value.str (Str.ofString "copy") 289) (Value.ref 89)), (DictEntry.mk (PyData.keyHash P (Str.ofString "__static_attributes__")) (Value.str (Str.ofString "__static_attributes__") 295) (Value.ref 90))] 6) #[])
noncomputable def o113 (P : Params) : Obj := (Obj.mk (Value.type "tuple") none (Data.seq #[] 0) #[])
noncomputable def o114 (P : Params) : Obj := (Obj.mk Value.none none (Data.fields #[(Value.int 23 0), (Value.int 4 0), (Value.ref 81), (Value.int 30 0), (Value.int 4 0), (Value.ref 88)]) #[])
noncomputable def o115 (P : Params) : Obj := (Obj.mk (Value.type "code") none (Data.fields #[(Value.str (Str.ofString "Vector") 263), (Value.str (Str.ofString "Vector") 264), (Value.str (Str.ofString "/claim/cut.py") 265), (Value.int 21 0), (Value.int 0 0), (Value.int 0 0), (Value.int 0 0), (Value.int 0 0), (Value.ref 71), (Value.bool Bool.false), (Value.int 181 0), (Value.ref 72), Value.none, Value.none, Value.none, Value.none, (Value.int 266 0), (Value.int 21 0), (Value.str (Str.ofString "/claim/cut.py") 267)]) #[])
noncomputable def o116 (P : Params) : Obj := (Obj.mk (Value.type "frame") none Data.plain #[(some (Value.ref 73)), (some (Value.ref 3)), (some (Value.ref 70)), none, (some (Value.str (Str.ofString "vectorcove.values") 259)), none, (some (Value.ref 0))])
noncomputable def o117 (P : Params) : Obj := (Obj.mk (Value.type "tuple") none (Data.seq #[Value.none] 0) #[])
noncomputable def o118 (P : Params) : Obj := (Obj.mk (Value.type "tuple") none (Data.seq #[] 0) #[])
noncomputable def o119 (P : Params) : Obj := (Obj.mk Value.none none (Data.fields #[]) #[])
noncomputable def o120 (P : Params) : Obj := (Obj.mk (Value.type "tuple") none (Data.seq #[(Value.str (Str.ofString "self") 276), (Value.str (Str.ofString "kind") 277), (Value.str (Str.ofString "items") 278), (Value.str (Str.ofString "attrs") 279)] 0) #[])
noncomputable def o121 (P : Params) : Obj := (Obj.mk (Value.type "tuple") none (Data.seq #[] 0) #[])
noncomputable def o122 (P : Params) : Obj := (Obj.mk Value.none none (Data.func (FuncData.mk (Str.ofString "__init__") (Str.ofString "Vector.__init__") (fA (d 8 0)) (FuncBody.stmts (fB (d 8 0))) (fS (d 8 0)) 0 [] Value.none Value.none Value.none Value.none none Value.none Value.none 0)) #[])
noncomputable def o123 (P : Params) : Obj := (Obj.mk (Value.type "code") none (Data.fields #[(Value.str (Str.ofString "__init__") 273), (Value.str (Str.ofString "Vector.__init__") 274), (Value.str (Str.ofString "/claim/cut.py") 275), (Value.int 23 0), (Value.int 4 0), (Value.int 0 0), (Value.int 0 0), (Value.int 3 0), (Value.ref 76), (Value.bool Bool.true), (Value.int 181 0), (Value.ref 77), Value.none, (Value.ref 78), (Value.ref 79), (Value.ref 80), (Value.int 280 0), (Value.int 23 0), (Value.str (Str.ofString "/claim/cut.py") 281)]) #[])
noncomputable def o124 (P : Params) : Obj := (Obj.mk (Value.type "function") none (Data.func (FuncData.mk (Str.ofString "__init__") (Str.ofString "Vector.__init__") (fA (d 8 0)) (FuncBody.stmts (fB (d 8 0))) (fS (d 8 0)) 3 [] (Value.ref 75) Value.none Value.none (Value.str (Str.ofString "vectorcove.values") 259) none (Value.ref 81) Value.none 0)) #[])
noncomputable def o125 (P : Params) : Obj := (Obj.mk (Value.type "tuple") none (Data.seq #[] 0) #[])
noncomputable def o126 (P : Params) : Obj := (Obj.mk Value.none none (Data.fields #[]) #[])
noncomputable def o127 (P : Params) : Obj := (Obj.mk (Value.type "tuple") none (Data.seq #[(Value.str (Str.ofString "self") 286)] 0) #[])
noncomputable def o128 (P : Params) : Obj := (Obj.mk (Value.type "tuple") none (Data.seq #[] 0) #[])
noncomputable def o129 (P : Params) : Obj := (Obj.mk Value.none none (Data.func (FuncData.mk (Str.ofString "copy") (Str.ofString "Vector.copy") (fA (d 8 1)) (FuncBody.stmts (fB (d 8 1))) (fS (d 8 1)) 0 [] Value.none Value.none Value.none Value.none none Value.none Value.none 0)) #[])
noncomputable def o130 (P : Params) : Obj := (Obj.mk (Value.type "code") none (Data.fields #[(Value.str (Str.ofString "copy") 283), (Value.str (Str.ofString "Vector.copy") 284), (Value.str (Str.ofString "/claim/cut.py") 285), (Value.int 30 0), (Value.int 1 0), (Value.int 0 0), (Value.int 0 0), (Value.int 3 0), (Value.ref 83), (Value.bool Bool.true), (Value.int 181 0), (Value.ref 84), Value.none, (Value.ref 85), (Value.ref 86), (Value.ref 87), (Value.int 287 0), (Value.int 30 0), (Value.str (Str.ofString "/claim/cut.py") 288)]) #[])
noncomputable def o131 (P : Params) : Obj := (Obj.mk (Value.type "function") none (Data.func (FuncData.mk (Str.ofString "copy") (Str.ofString "Vector.copy") (fA (d 8 1)) (FuncBody.stmts (fB (d 8 1))) (fS (d 8 1)) 3 [] Value.none Value.none Value.none (Value.str (Str.ofString "vectorcove.values") 259) none (Value.ref 88) Value.none 0)) #[])
noncomputable def o132 (P : Params) : Obj := (Obj.mk (Value.type "tuple") none (Data.seq #[(Value.str (Str.ofString "attrs") 290), (Value.str (Str.ofString "items") 291), (Value.str (Str.ofString "kind") 292), (Value.str (Str.ofString "loose") 293), (Value.str (Str.ofString "shared") 294)] 0) #[])
noncomputable def o133 (P : Params) : Obj := (Obj.mk (Value.type "dict") none (Data.dict #[(DictEntry.mk (PyData.keyHash P (Str.ofString "__module__")) (Value.str (Str.ofString "__module__") 268) (Value.str (Str.ofString "vectorcove.values") 259)), (DictEntry.mk (PyData.keyHash P (Str.ofString "__firstlineno__")) (Value.str (Str.ofString "__firstlineno__") 272) (Value.int 21 271)), (DictEntry.mk (PyData.keyHash P (Str.ofString "__init__")) (Value.str (Str.ofString "__init__") 282) (Value.ref 82)), (DictEntry.mk (PyData.keyHash P (Str.ofString "copy")) (Value.str (Str.ofString "copy") 289) (Value.ref 89)), (DictEntry.mk (PyData.keyHash P (Str.ofString "__static_attributes__")) (Value.str (Str.ofString "__static_attributes__") 295) (Value.ref 90)), (DictEntry.mk (PyData.keyHash P (Str.ofString "__dict__")) (Value.str (Str.ofString "__dict__") 297) (Value.ref 93)), (DictEntry.mk (PyData.keyHash P (Str.ofString "__weakref__")) (Value.str (Str.ofString "__weakref__") 299) (Value.ref 94)), (DictEntry.mk (PyData.keyHash P (Str.ofString "__doc__")) (Value.str (Str.ofString "__doc__") 300) Value.none)] 4) #[])
noncomputable def o134 (P : Params) : Obj := (Obj.mk (Value.type "type") none (Data.cls (ClassData.mk (Str.ofString "Vector") [(Value.type "object")] [(Value.ref 92), (Value.type "object")] 91 (Str.ofString "Vector") Bool.true [] [] Bool.false none Bool.false)) #[none, none, (some (Value.str (Str.ofString "Vector") 261)), (some (Value.str (Str.ofString "Vector") 269)), (some (Value.builtin "object.__new__")), (some (Value.bool Bool.true))])
noncomputable def o135 (P : Params) : Obj := (Obj.mk (Value.type "getset_descriptor") none (Data.fields #[(Value.str (Str.ofString "__dict__") 296), (Value.ref 92), (Value.builtin "function.__dict__"), (Value.builtin "function.__dict__#set")]) #[])
noncomputable def o136 (P : Params) : Obj := (Obj.mk (Value.type "getset_descriptor") none (Data.fields #[(Value.str (Str.ofString "__weakref__") 298), (Value.ref 92), (Value.builtin "ExceptionGroup.__weakref__"), Value.none]) #[])
noncomputable def o137 (P : Params) : Obj := (Obj.mk (Value.type "super") none (Data.fields #[(Value.ref 92), (Value.ref 92), (Value.ref 92)]) #[])
noncomputable def o138 (P : Params) : Obj := (Obj.mk (Value.type "builtin_function_or_method") none (Data.fields #[(Value.builtin "object.__init_subclass__"), (Value.ref 92)]) #[])
noncomputable def o139 (P : Params) : Obj := (Obj.mk (Value.type "dict") none (Data.dict #[(DictEntry.mk (PyData.keyHash P (Str.ofString "__name__")) (Value.str (Str.ofString "__name__") 165) (Value.str (Str.ofString "vectorcove.callargs") 303)), (DictEntry.mk (PyData.keyHash P (Str.ofString "__doc__")) (Value.str (Str.ofString "__doc__") 166) Value.none), (DictEntry.mk (PyData.keyHash P (Str.ofString "__package__")) (Value.str (Str.ofString "__package__") 167) Value.none), (DictEntry.mk (PyData.keyHash P (Str.ofString "__loader__")) (Value.str (Str.ofString "__loader__") 168) (Value.builtin "__main__.__loader__#opaque")), (DictEntry.mk (PyData.keyHash P (Str.ofString "__spec__")) (Value.str (Str.ofString "__spec__") 169) Value.none), (DictEntry.mk (PyData.keyHash P (Str.ofString "__annotations__")) (Value.str (Str.ofString "__annotations__") 170) (Value.ref 6)), (DictEntry.mk (PyData.keyHash P (Str.ofString "__builtins__")) (Value.str (Str.ofString "__builtins__") 171) (Value.ref 4)), (DictEntry.mk (PyData.keyHash P (Str.ofString "__file__")) (Value.str (Str.ofString "__file__") 173) (Value.str (Str.ofString "/claim/cut.py") 172)), (DictEntry.mk (PyData.keyHash P (Str.ofString "__cached__")) (Value.str (Str.ofString "__cached__") 174) Value.none), (DictEntry.mk (PyData.keyHash P (Str.ofString "_wall")) (Value.str (Str.ofString "_wall") 193) (Value.ref 21)), (DictEntry.mk (PyData.keyHash P (Str.ofString "recycle_length")) (Value.str (Str.ofString "recycle_length") 203) (Value.ref 28)), (DictEntry.mk (PyData.keyHash P (Str.ofString "keep_all")) (Value.str (Str.ofString "keep_all") 211) (Value.ref 35)), (DictEntry.mk (PyData.keyHash P (Str.ofString "CoveError")) (Value.str (Str.ofString "CoveError") 233) (Value.ref 45)), (DictEntry.mk (PyData.keyHash P (Str.ofString "Refusal")) (Value.str (Str.ofString "Refusal") 258) (Value.ref 65)), (DictEntry.mk (PyData.keyHash P (Str.ofString "Vector")) (Value.str (Str.ofString "Vector") 302) (Value.ref 92)), (DictEntry.mk (PyData.keyHash P (Str.ofString "Matching")) (Value.str (Str.ofString "Matching") 387) (Value.ref 153))] 16) #[])
noncomputable def o140 (P : Params) : Obj := (Obj.mk Value.none none (Data.fields #[(Value.int 1 0), (Value.int 0 0), (Value.ref 20), (Value.int 5 0), (Value.int 0 0), (Value.ref 27), (Value.int 9 0), (Value.int 0 0), (Value.ref 34), (Value.int 14 0), (Value.int 0 0), (Value.ref 41), (Value.int 16 0), (Value.int 0 0), (Value.ref 54), (Value.int 21 0), (Value.int 0 0), (Value.ref 73), (Value.int 33 0), (Value.int 0 0), (Value.ref 102)]) #[])
noncomputable def o141 (P : Params) : Obj := (Obj.mk (Value.type "tuple") none (Data.seq #[] 0) #[])
noncomputable def o142 (P : Params) : Obj := (Obj.mk (Value.type "builtin_function_or_method") none (Data.fields #[(Value.builtin "type.__prepare__"), (Value.type "type")]) #[])
noncomputable def o143 (P : Params) : Obj := (Obj.mk (Value.type "dict") none (Data.dict #[(DictEntry.mk (PyData.keyHash P (Str.ofString "__module__")) (Value.str (Str.ofString "__module__") 312) (Value.str (Str.ofString "vectorcove.callargs") 303)), (DictEntry.mk (PyData.keyHash P (Str.ofString "__qualname__")) (Value.str (Str.ofString "__qualname__") 314) (Value.str (Str.ofString "Matching") 313)), (DictEntry.mk (PyData.keyHash P (Str.ofString "__firstlineno__")) (Value.str (Str.ofString "__firstlineno__") 316) (Value.int 33 315)), (DictEntry.mk (PyData.keyHash P (Str.ofString "__init__")) (Value.str (Str.ofString "__init__") 325) (Value.ref 110)), (DictEntry.mk (PyData.keyHash P (Str.ofString "exact")) (Value.str (Str.ofString "exact") 334) (Value.ref 117)), (DictEntry.mk (PyData.keyHash P (Str.ofString "partial")) (Value.str (Str.ofString "partial") 342) (Value.ref 124)), (DictEntry.mk (PyData.keyHash P (Str.ofString "partial_of")) (Value.str (Str.ofString "partial_of") 352) (Value.ref 131)), (DictEntry.mk (PyData.keyHash P (Str.ofString "positional")) (Value.str (Str.ofString "positional") 361) (Value.ref 138)), (DictEntry.mk (PyData.keyHash P (Str.ofString "is_free")) (Value.str (Str.ofString "is_free") 369) (Value.ref 145)), (DictEntry.mk (PyData.keyHash P (Str.ofString "rest")) (Value.str (Str.ofString "rest") 375) (Value.ref 150)), (DictEntry.mk (PyData.keyHash P (Str.ofString "__static_attributes__")) (Value.str (Str.ofString "__static_attributes__") 380) (Value.ref 151))] 11) #[])
noncomputable def o144 (P : Params) : Obj := (Obj.mk (Value.type "tuple") none (Data.seq #[] 0) #[])
noncomputable def o145 (P : Params) : Obj := (Obj.mk Value.none none (Data.fields #[(Value.int 35 0), (Value.int 4 0), (Value.ref 109), (Value.int 41 0), (Value.int 4 0), (Value.ref 116), (Value.int 51 0), (Value.int 4 0), (Value.ref 123), (Value.int 58 0), (Value.int 4 0), (Value.ref 130), (Value.int 69 0), (Value.int 4 0), (Value.ref 137), (Value.int 81 0), (Value.int 4 0), (Value.ref 144), (Value.int 84 0), (Value.int 4 0), (Value.ref 149)]) #[])
noncomputable def o146 (P : Params) : Obj := (Obj.mk (Value.type "code") none (Data.fields #[(Value.str (Str.ofString "Matching") 307), (Value.str (Str.ofString "Matching") 308), (Value.str (Str.ofString "/claim/cut.py") 309), (Value.int 33 0), (Value.int 0 0), (Value.int 0 0), (Value.int 0 0), (Value.int 0 0), (Value.ref 100), (Value.bool Bool.false), (Value.int 181 0), (Value.ref 101), Value.none, Value.none, Value.none, Value.none, (Value.int 310 0), (Value.int 33 0), (Value.str (Str.ofString "/claim/cut.py") 311)]) #[])
noncomputable def o147 (P : Params) : Obj := (Obj.mk (Value.type "frame") none Data.plain #[(some (Value.ref 102)), (some (Value.ref 3)), (some (Value.ref 99)), none, (some (Value.str (Str.ofString "vectorcove.callargs") 303)), none, (some (Value.ref 0))])
noncomputable def o148 (P : Params) : Obj := (Obj.mk (Value.type "tuple") none (Data.seq #[] 0) #[])
noncomputable def o149 (P : Params) : Obj := (Obj.mk Value.none none (Data.fields #[]) #[])
noncomputable def o150 (P : Params) : Obj := (Obj.mk (Value.type "tuple") none (Data.seq #[(Value.str (Str.ofString "self") 320), (Value.str (Str.ofString "formals") 321), (Value.str (Str.ofString "tags") 322)] 0) #[])
noncomputable def o151 (P : Params) : Obj := (Obj.mk (Value.type "tuple") none (Data.seq #[] 0) #[])
noncomputable def o152 (P : Params) : Obj := (Obj.mk Value.none none (Data.func (FuncData.mk (Str.ofString "__init__") (Str.ofString "Matching.__init__") (fA (d 10 0)) (FuncBody.stmts (fB (d 10 0))) (fS (d 10 0)) 0 [] Value.none Value.none Value.none Value.none none Value.none Value.none 0)) #[])
noncomputable def o153 (P : Params) : Obj := (Obj.mk (Value.type "code") none (Data.fields #[(Value.str (Str.ofString "__init__") 317), (Value.str (Str.ofString "Matching.__init__") 318), (Value.str (Str.ofString "/claim/cut.py") 319), (Value.int 35 0), (Value.int 3 0), (Value.int 0 0), (Value.int 0 0), (Value.int 3 0), (Value.ref 104), (Value.bool Bool.true), (Value.int 181 0), (Value.ref 105), Value.none, (Value.ref 106), (Value.ref 107), (Value.ref 108), (Value.int 323 0), (Value.int 35 0), (Value.str (Str.ofString "/claim/cut.py") 324)]) #[])
noncomputable def o154 (P : Params) : Obj := (Obj.mk (Value.type "function") none (Data.func (FuncData.mk (Str.ofString "__init__") (Str.ofString "Matching.__init__") (fA (d 10 0)) (FuncBody.stmts (fB (d 10 0))) (fS (d 10 0)) 3 [] Value.none Value.none Value.none (Value.str (Str.ofString "vectorcove.callargs") 303) none (Value.ref 109) Value.none 0)) #[])
noncomputable def o155 (P : Params) : Obj := (Obj.mk (Value.type "tuple") none (Data.seq #[] 0) #[])
noncomputable def o156 (P : Params) : Obj := (Obj.mk Value.none none (Data.fields #[]) #[])
noncomputable def o157 (P : Params) : Obj := (Obj.mk (Value.type "tuple") none (Data.seq #[(Value.str (Str.ofString "self") 329), (Value.str (Str.ofString "name") 330), (Value.str (Str.ofString "place") 331)] 0) #[])
noncomputable def o158 (P : Params) : Obj := (Obj.mk (Value.type "tuple") none (Data.seq #[] 0) #[])
noncomputable def o159 (P : Params) : Obj := (Obj.mk Value.none none (Data.func (FuncData.mk (Str.ofString "exact") (Str.ofString "Matching.exact") (fA (d 10 1)) (FuncBody.stmts (fB (d 10 1))) (fS (d 10 1)) 0 [] Value.none Value.none Value.none Value.none none Value.none Value.none 0)) #[])
noncomputable def o160 (P : Params) : Obj := (Obj.mk (Value.type "code") none (Data.fields #[(Value.str (Str.ofString "exact") 326), (Value.str (Str.ofString "Matching.exact") 327), (Value.str (Str.ofString "/claim/cut.py") 328), (Value.int 41 0), (Value.int 1 0), (Value.int 0 0), (Value.int 0 0), (Value.int 3 0), (Value.ref 111), (Value.bool Bool.true), (Value.int 181 0), (Value.ref 112), Value.none, (Value.ref 113), (Value.ref 114), (Value.ref 115), (Value.int 332 0), (Value.int 41 0), (Value.str (Str.ofString "/claim/cut.py") 333)]) #[])
noncomputable def o161 (P : Params) : Obj := (Obj.mk (Value.type "function") none (Data.func (FuncData.mk (Str.ofString "exact") (Str.ofString "Matching.exact") (fA (d 10 1)) (FuncBody.stmts (fB (d 10 1))) (fS (d 10 1)) 3 [] Value.none Value.none Value.none (Value.str (Str.ofString "vectorcove.callargs") 303) none (Value.ref 116) Value.none 0)) #[])
noncomputable def o162 (P : Params) : Obj := (Obj.mk (Value.type "tuple") none (Data.seq #[] 0) #[])
noncomputable def o163 (P : Params) : Obj := (Obj.mk Value.none none (Data.fields #[]) #[])
noncomputable def o164 (P : Params) : Obj := (Obj.mk (Value.type "tuple") none (Data.seq #[(Value.str (Str.ofString "self") 338), (Value.str (Str.ofString "name") 339)] 0) #[])
noncomputable def o165 (P : Params) : Obj := (Obj.mk (Value.type "tuple") none (Data.seq #[] 0) #[])
noncomputable def o166 (P : Params) : Obj := (Obj.mk Value.none none (Data.func (FuncData.mk (Str.ofString "partial") (Str.ofString "Matching.partial") (fA (d 10 2)) (FuncBody.stmts (fB (d 10 2))) (fS (d 10 2)) 0 [] Value.none Value.none Value.none Value.none none Value.none Value.none 0)) #[])
noncomputable def o167 (P : Params) : Obj := (Obj.mk (Value.type "code") none (Data.fields #[(Value.str (Str.ofString "partial") 335), (Value.str (Str.ofString "Matching.partial") 336), (Value.str (Str.ofString "/claim/cut.py") 337), (Value.int 51 0), (Value.int 1 0), (Value.int 0 0), (Value.int 0 0), (Value.int 3 0), (Value.ref 118), (Value.bool Bool.true), (Value.int 181 0), (Value.ref 119), Value.none, (Value.ref 120), (Value.ref 121), (Value.ref 122), (Value.int 340 0), (Value.int 51 0), (Value.str (Str.ofString "/claim/cut.py") 341)]) #[])
noncomputable def o168 (P : Params) : Obj := (Obj.mk (Value.type "function") none (Data.func (FuncData.mk (Str.ofString "partial") (Str.ofString "Matching.partial") (fA (d 10 2)) (FuncBody.stmts (fB (d 10 2))) (fS (d 10 2)) 3 [] Value.none Value.none Value.none (Value.str (Str.ofString "vectorcove.callargs") 303) none (Value.ref 123) Value.none 0)) #[])
noncomputable def o169 (P : Params) : Obj := (Obj.mk (Value.type "tuple") none (Data.seq #[] 0) #[])
noncomputable def o170 (P : Params) : Obj := (Obj.mk Value.none none (Data.fields #[]) #[])
noncomputable def o171 (P : Params) : Obj := (Obj.mk (Value.type "tuple") none (Data.seq #[(Value.str (Str.ofString "self") 346), (Value.str (Str.ofString "name") 347), (Value.str (Str.ofString "place") 348), (Value.str (Str.ofString "tag") 349)] 0) #[])
noncomputable def o172 (P : Params) : Obj := (Obj.mk (Value.type "tuple") none (Data.seq #[] 0) #[])
noncomputable def o173 (P : Params) : Obj := (Obj.mk Value.none none (Data.func (FuncData.mk (Str.ofString "partial_of") (Str.ofString "Matching.partial_of") (fA (d 10 3)) (FuncBody.stmts (fB (d 10 3))) (fS (d 10 3)) 0 [] Value.none Value.none Value.none Value.none none Value.none Value.none 0)) #[])
noncomputable def o174 (P : Params) : Obj := (Obj.mk (Value.type "code") none (Data.fields #[(Value.str (Str.ofString "partial_of") 343), (Value.str (Str.ofString "Matching.partial_of") 344), (Value.str (Str.ofString "/claim/cut.py") 345), (Value.int 58 0), (Value.int 2 0), (Value.int 0 0), (Value.int 0 0), (Value.int 3 0), (Value.ref 125), (Value.bool Bool.true), (Value.int 181 0), (Value.ref 126), Value.none, (Value.ref 127), (Value.ref 128), (Value.ref 129), (Value.int 350 0), (Value.int 58 0), (Value.str (Str.ofString "/claim/cut.py") 351)]) #[])
noncomputable def o175 (P : Params) : Obj := (Obj.mk (Value.type "function") none (Data.func (FuncData.mk (Str.ofString "partial_of") (Str.ofString "Matching.partial_of") (fA (d 10 3)) (FuncBody.stmts (fB (d 10 3))) (fS (d 10 3)) 3 [] Value.none Value.none Value.none (Value.str (Str.ofString "vectorcove.callargs") 303) none (Value.ref 130) Value.none 0)) #[])
noncomputable def o176 (P : Params) : Obj := (Obj.mk (Value.type "tuple") none (Data.seq #[] 0) #[])
noncomputable def o177 (P : Params) : Obj := (Obj.mk Value.none none (Data.fields #[]) #[])
noncomputable def o178 (P : Params) : Obj := (Obj.mk (Value.type "tuple") none (Data.seq #[(Value.str (Str.ofString "self") 356), (Value.str (Str.ofString "place") 357), (Value.str (Str.ofString "name") 358)] 0) #[])
noncomputable def o179 (P : Params) : Obj := (Obj.mk (Value.type "tuple") none (Data.seq #[] 0) #[])
noncomputable def o180 (P : Params) : Obj := (Obj.mk Value.none none (Data.func (FuncData.mk (Str.ofString "positional") (Str.ofString "Matching.positional") (fA (d 10 4)) (FuncBody.stmts (fB (d 10 4))) (fS (d 10 4)) 0 [] Value.none Value.none Value.none Value.none none Value.none Value.none 0)) #[])
noncomputable def o181 (P : Params) : Obj := (Obj.mk (Value.type "code") none (Data.fields #[(Value.str (Str.ofString "positional") 353), (Value.str (Str.ofString "Matching.positional") 354), (Value.str (Str.ofString "/claim/cut.py") 355), (Value.int 69 0), (Value.int 1 0), (Value.int 0 0), (Value.int 0 0), (Value.int 3 0), (Value.ref 132), (Value.bool Bool.true), (Value.int 181 0), (Value.ref 133), Value.none, (Value.ref 134), (Value.ref 135), (Value.ref 136), (Value.int 359 0), (Value.int 69 0), (Value.str (Str.ofString "/claim/cut.py") 360)]) #[])
noncomputable def o182 (P : Params) : Obj := (Obj.mk (Value.type "function") none (Data.func (FuncData.mk (Str.ofString "positional") (Str.ofString "Matching.positional") (fA (d 10 4)) (FuncBody.stmts (fB (d 10 4))) (fS (d 10 4)) 3 [] Value.none Value.none Value.none (Value.str (Str.ofString "vectorcove.callargs") 303) none (Value.ref 137) Value.none 0)) #[])
noncomputable def o183 (P : Params) : Obj := (Obj.mk (Value.type "tuple") none (Data.seq #[] 0) #[])
noncomputable def o184 (P : Params) : Obj := (Obj.mk Value.none none (Data.fields #[]) #[])
noncomputable def o185 (P : Params) : Obj := (Obj.mk (Value.type "tuple") none (Data.seq #[(Value.str (Str.ofString "self") 365), (Value.str (Str.ofString "place") 366)] 0) #[])
noncomputable def o186 (P : Params) : Obj := (Obj.mk (Value.type "tuple") none (Data.seq #[] 0) #[])
noncomputable def o187 (P : Params) : Obj := (Obj.mk Value.none none (Data.func (FuncData.mk (Str.ofString "is_free") (Str.ofString "Matching.is_free") (fA (d 10 5)) (FuncBody.stmts (fB (d 10 5))) (fS (d 10 5)) 0 [] Value.none Value.none Value.none Value.none none Value.none Value.none 0)) #[])
noncomputable def o188 (P : Params) : Obj := (Obj.mk (Value.type "code") none (Data.fields #[(Value.str (Str.ofString "is_free") 362), (Value.str (Str.ofString "Matching.is_free") 363), (Value.str (Str.ofString "/claim/cut.py") 364), (Value.int 81 0), (Value.int 2 0), (Value.int 0 0), (Value.int 0 0), (Value.int 3 0), (Value.ref 139), (Value.bool Bool.true), (Value.int 181 0), (Value.ref 140), Value.none, (Value.ref 141), (Value.ref 142), (Value.ref 143), (Value.int 367 0), (Value.int 81 0), (Value.str (Str.ofString "/claim/cut.py") 368)]) #[])
noncomputable def o189 (P : Params) : Obj := (Obj.mk (Value.type "function") none (Data.func (FuncData.mk (Str.ofString "is_free") (Str.ofString "Matching.is_free") (fA (d 10 5)) (FuncBody.stmts (fB (d 10 5))) (fS (d 10 5)) 3 [] Value.none Value.none Value.none (Value.str (Str.ofString "vectorcove.callargs") 303) none (Value.ref 144) Value.none 0)) #[])
noncomputable def o190 (P : Params) : Obj := (Obj.mk (Value.type "tuple") none (Data.seq #[] 0) #[])
noncomputable def o191 (P : Params) : Obj := (Obj.mk Value.none none (Data.fields #[]) #[])
noncomputable def o192 (P : Params) : Obj := (Obj.mk Value.none none (Data.func (FuncData.mk (Str.ofString "rest") (Str.ofString "Matching.rest") (fA (d 10 6)) (FuncBody.stmts (fB (d 10 6))) (fS (d 10 6)) 0 [] Value.none Value.none Value.none Value.none none Value.none Value.none 0)) #[])
noncomputable def o193 (P : Params) : Obj := (Obj.mk (Value.type "code") none (Data.fields #[(Value.str (Str.ofString "rest") 370), (Value.str (Str.ofString "Matching.rest") 371), (Value.str (Str.ofString "/claim/cut.py") 372), (Value.int 84 0), (Value.int 1 0), (Value.int 0 0), (Value.int 0 0), (Value.int 3 0), (Value.ref 146), (Value.bool Bool.true), (Value.int 181 0), (Value.ref 147), Value.none, Value.none, Value.none, (Value.ref 148), (Value.int 373 0), (Value.int 84 0), (Value.str (Str.ofString "/claim/cut.py") 374)]) #[])
noncomputable def o194 (P : Params) : Obj := (Obj.mk (Value.type "function") none (Data.func (FuncData.mk (Str.ofString "rest") (Str.ofString "Matching.rest") (fA (d 10 6)) (FuncBody.stmts (fB (d 10 6))) (fS (d 10 6)) 3 [] Value.none Value.none Value.none (Value.str (Str.ofString "vectorcove.callargs") 303) none (Value.ref 149) Value.none 0)) #[])
noncomputable def o195 (P : Params) : Obj := (Obj.mk (Value.type "tuple") none (Data.seq #[(Value.str (Str.ofString "formals") 376), (Value.str (Str.ofString "places") 377), (Value.str (Str.ofString "tags") 378), (Value.str (Str.ofString "used") 379)] 0) #[])
noncomputable def o196 (P : Params) : Obj := (Obj.mk (Value.type "dict") none (Data.dict #[(DictEntry.mk (PyData.keyHash P (Str.ofString "__module__")) (Value.str (Str.ofString "__module__") 312) (Value.str (Str.ofString "vectorcove.callargs") 303)), (DictEntry.mk (PyData.keyHash P (Str.ofString "__firstlineno__")) (Value.str (Str.ofString "__firstlineno__") 316) (Value.int 33 315)), (DictEntry.mk (PyData.keyHash P (Str.ofString "__init__")) (Value.str (Str.ofString "__init__") 325) (Value.ref 110)), (DictEntry.mk (PyData.keyHash P (Str.ofString "exact")) (Value.str (Str.ofString "exact") 334) (Value.ref 117)), (DictEntry.mk (PyData.keyHash P (Str.ofString "partial")) (Value.str (Str.ofString "partial") 342) (Value.ref 124)), (DictEntry.mk (PyData.keyHash P (Str.ofString "partial_of")) (Value.str (Str.ofString "partial_of") 352) (Value.ref 131)), (DictEntry.mk (PyData.keyHash P (Str.ofString "positional")) (Value.str (Str.ofString "positional") 361) (Value.ref 138)), (DictEntry.mk (PyData.keyHash P (Str.ofString "is_free")) (Value.str (Str.ofString "is_free") 369) (Value.ref 145)), (DictEntry.mk (PyData.keyHash P (Str.ofString "rest")) (Value.str (Str.ofString "rest") 375) (Value.ref 150)), (DictEntry.mk (PyData.keyHash P (Str.ofString "__static_attributes__")) (Value.str (Str.ofString "__static_attributes__") 380) (Value.ref 151)), (DictEntry.mk (PyData.keyHash P (Str.ofString "__dict__")) (Value.str (Str.ofString "__dict__") 382) (Value.ref 154)), (DictEntry.mk (PyData.keyHash P (Str.ofString "__weakref__")) (Value.str (Str.ofString "__weakref__") 384) (Value.ref 155)), (DictEntry.mk (PyData.keyHash P (Str.ofString "__doc__")) (Value.str (Str.ofString "__doc__") 385) Value.none)] 4) #[])
noncomputable def o197 (P : Params) : Obj := (Obj.mk (Value.type "type") none (Data.cls (ClassData.mk (Str.ofString "Matching") [(Value.type "object")] [(Value.ref 153), (Value.type "object")] 152 (Str.ofString "Matching") Bool.true [] [] Bool.false none Bool.false)) #[none, none, (some (Value.str (Str.ofString "Matching") 305)), (some (Value.str (Str.ofString "Matching") 313)), (some (Value.builtin "object.__new__")), (some (Value.bool Bool.true))])
noncomputable def o198 (P : Params) : Obj := (Obj.mk (Value.type "getset_descriptor") none (Data.fields #[(Value.str (Str.ofString "__dict__") 381), (Value.ref 153), (Value.builtin "function.__dict__"), (Value.builtin "function.__dict__#set")]) #[])
noncomputable def o199 (P : Params) : Obj := (Obj.mk (Value.type "getset_descriptor") none (Data.fields #[(Value.str (Str.ofString "__weakref__") 383), (Value.ref 153), (Value.builtin "ExceptionGroup.__weakref__"), Value.none]) #[])
noncomputable def o200 (P : Params) : Obj := (Obj.mk (Value.type "super") none (Data.fields #[(Value.ref 153), (Value.ref 153), (Value.ref 153)]) #[])
noncomputable def o201 (P : Params) : Obj := (Obj.mk (Value.type "builtin_function_or_method") none (Data.fields #[(Value.builtin "object.__init_subclass__"), (Value.ref 153)]) #[])
noncomputable def o202 (P : Params) : Obj := (Obj.mk (Value.type "dict") none (Data.dict #[(DictEntry.mk (PyData.keyHash P (Str.ofString "__name__")) (Value.str (Str.ofString "__name__") 165) (Value.str (Str.ofString "vectorcove.rational") 441)), (DictEntry.mk (PyData.keyHash P (Str.ofString "__doc__")) (Value.str (Str.ofString "__doc__") 166) Value.none), (DictEntry.mk (PyData.keyHash P (Str.ofString "__package__")) (Value.str (Str.ofString "__package__") 167) Value.none), (DictEntry.mk (PyData.keyHash P (Str.ofString "__loader__")) (Value.str (Str.ofString "__loader__") 168) (Value.builtin "__main__.__loader__#opaque")), (DictEntry.mk (PyData.keyHash P (Str.ofString "__spec__")) (Value.str (Str.ofString "__spec__") 169) Value.none), (DictEntry.mk (PyData.keyHash P (Str.ofString "__annotations__")) (Value.str (Str.ofString "__annotations__") 170) (Value.ref 6)), (DictEntry.mk (PyData.keyHash P (Str.ofString "__builtins__")) (Value.str (Str.ofString "__builtins__") 171) (Value.ref 4)), (DictEntry.mk (PyData.keyHash P (Str.ofString "__file__")) (Value.str (Str.ofString "__file__") 173) (Value.str (Str.ofString "/claim/cut.py") 172)), (DictEntry.mk (PyData.keyHash P (Str.ofString "__cached__")) (Value.str (Str.ofString "__cached__") 174) Value.none), (DictEntry.mk (PyData.keyHash P (Str.ofString "_wall")) (Value.str (Str.ofString "_wall") 193) (Value.ref 21)), (DictEntry.mk (PyData.keyHash P (Str.ofString "recycle_length")) (Value.str (Str.ofString "recycle_length") 203) (Value.ref 28)), (DictEntry.mk (PyData.keyHash P (Str.ofString "keep_all")) (Value.str (Str.ofString "keep_all") 211) (Value.ref 35)), (DictEntry.mk (PyData.keyHash P (Str.ofString "CoveError")) (Value.str (Str.ofString "CoveError") 233) (Value.ref 45)), (DictEntry.mk (PyData.keyHash P (Str.ofString "Refusal")) (Value.str (Str.ofString "Refusal") 258) (Value.ref 65)), (DictEntry.mk (PyData.keyHash P (Str.ofString "Vector")) (Value.str (Str.ofString "Vector") 302) (Value.ref 92)), (DictEntry.mk (PyData.keyHash P (Str.ofString "Matching")) (Value.str (Str.ofString "Matching") 387) (Value.ref 153)), (DictEntry.mk (PyData.keyHash P (Str.ofString "doubled_text")) (Value.str (Str.ofString "doubled_text") 394) (Value.ref 164)), (DictEntry.mk (PyData.keyHash P (Str.ofString "argument_text")) (Value.str (Str.ofString "argument_text") 406) (Value.ref 171)), (DictEntry.mk (PyData.keyHash P (Str.ofString "plain_text")) (Value.str (Str.ofString "plain_text") 414) (Value.ref 178)), (DictEntry.mk (PyData.keyHash P (Str.ofString "unused_text")) (Value.str (Str.ofString "unused_text") 420) (Value.ref 183)), (DictEntry.mk (PyData.keyHash P (Str.ofString "match_names")) (Value.str (Str.ofString "match_names") 426) (Value.ref 189)), (DictEntry.mk (PyData.keyHash P (Str.ofString "needed")) (Value.str (Str.ofString "needed") 434) (Value.ref 196)), (DictEntry.mk (PyData.keyHash P (Str.ofString "take")) (Value.str (Str.ofString "take") 440) (Value.ref 202)), (DictEntry.mk (PyData.keyHash P (Str.ofString "NAN")) (Value.str (Str.ofString "NAN") 445) (Value.ref 203)), (DictEntry.mk (PyData.keyHash P (Str.ofString "ZERO")) (Value.str (Str.ofString "ZERO") 448) (Value.ref 204)), (DictEntry.mk (PyData.keyHash P (Str.ofString "MOST_FIGURES")) (Value.str (Str.ofString "MOST_FIGURES") 450) (Value.int 5000 449)), (DictEntry.mk (PyData.keyHash P (Str.ofString "MOST_PART")) (Value.str (Str.ofString "MOST_PART") 453) (Value.int 100000000000000000000000000000000000000000000000000000000000000000000000000000000000000000000000000000000000000000000000000000000000000000000000000000000000000000000000000000000000000000000000000000000000000000000000000000000000000000000000000000000000000000000000000000000000000000000000000000000000000000000000000000000000000000000000000000000000000000000000000000000000000000000000000000000000000000000000000000000000000000000000000000000000000000000000000000000000000000000000000000000000000000000000000000000000000000000000000000000000000000000000000000000000000000000000000000000000000000000000000000000000000000000000000000000000000000000000000000000000000000000000000000000000000000000000000000000000000000000000000000000000000000000000000000000000000000000000000000000000000000000000000000000000000000000000000000000000000000000000000000000000000000000000000000000000000000000000000000000000000000000000000000000000000000000000000000000000000000000000000000000000000000000000000000000000000000000000000000000000000000000000000000000000000000000000000000000000000000000000000000000000000000000000000000000000000000000000000000000000000000000000000000000000000000000000000000000000000000000000000000000000000000000000000000000000000000000000000000000000000000000000000000000000000000000000000000000000000000000000000000000000000000000000000000000000000000000000000000000000000000000000000000000000000000000000000000000000000000000000000000000000000000000000000000000000000000000000000000000000000000000000000000000000000000000000000000000000000000000000000000000000000000000000000000000000000000000000000000000000000000000000000000000000000000000000000000000000000000000000000000000000000000000000000000000000000000000000000000000000000000000000000000000000000000000000000000000000000000000000000000000000000000000000000000000000000000000000000000000000000000000000000000000000000000000000000000000000000000000000000000000000000000000000000000000000000000000000000000000000000000000000000000000000000000000000000000000000000000000000000000000000000000000000000000000000000000000000000000000000000000000000000000000000000000000000000000000000000000000000000000000000000000000000000000000000000000000000000000000000000000000000000000000000000000000000000000000000000000000000000000000000000000000000000000000000000000000000000000000000000000000000000000000000000000000000000000000000000000000000000000000000000000000000000000000000000000000000000000000000000000000000000000000000000000000000000000000000000000000000000000000000000000000000000000000000000000000000000000000000000000000000000000000000000000000000000000000000000000000000000000000000000000000000000000000000000000000000000000000000000000000000000000000000000000000000000000000000000000000000000000000000000000000000000000000000000000000000000000000000000000000000000000000000000000000000000000000000000000000000000000000000000000000000000000000000000000000000000000000000000000000000000000000000000000000000000000000000000000000000000000000000000000000000000000000000000000000000000000000000000000000000000000000000000000000000000000000000000000000000000000000000000000000000000000000000000000000000000000000000000000000000000000000000000000000000000000000000000000000000000000000000000000000000000000000000000000000000000000000000000000000000000000000000000000000000000000000000000000000000000000000000000000000000000000000000000000000000000000000000000000000000000000000000000000000000000000000000000000000000000000000000000000000000000000000000000000000000000000000000000000000000000000000000000000000000000000000000000000000000000000000000000000000000000000000000000000000000000000000000000000000000000000000000000000000000000000000000000000000000000000000000000000000000000000000000000000000000000000000000000000000000000000000000000000000000000000000000000000000000000000000000000000000000000000000000000000000000000000000000000000000000000000000000000000000000000000000000000000000000000000000000000000000000000000000000000000000000000000000000000000000000000000000000000000000000000000000000000000000000000000000000000000000000000000000000000000000000000000000000000000000000000000000000000000000000000000000000000000000000000000000000000000000000000000000000000000000000000000000000000000000000000000000000000000000000000000000000000000000000000000000000000000000000000000000000000000000000000000000000000000000000000000000000000000000000000000000000000000000000000000000000000000000000000000000000000000000000000000000000000000000000000000000000000000000000000000000000000000000000000000000000000000000000000000000000000000000000000000000000000000000000000000000000000000000000000000000000000000000000000000000000000000000000000000000000000000000000000000000000000000000000000000000000000000000000000000000000000000000000000000000000000000000000000000000000000000000000000000000000000000000000000000000000000000000000000000000000000000000000000000000000000000000000000000000000000000000000000000000000000000000000000000000 452)), (DictEntry.mk (PyData.keyHash P (Str.ofString "gcd")) (Value.str (Str.ofString "gcd") 461) (Value.ref 211)), (DictEntry.mk (PyData.keyHash P (Str.ofString "bounded")) (Value.str (Str.ofString "bounded") 469) (Value.ref 218)), (DictEntry.mk (PyData.keyHash P (Str.ofString "make")) (Value.str (Str.ofString "make") 478) (Value.ref 225)), (DictEntry.mk (PyData.keyHash P (Str.ofString "from_int")) (Value.str (Str.ofString "from_int") 485) (Value.ref 232))] 31) #[])
noncomputable def o203 (P : Params) : Obj := (Obj.mk Value.none none (Data.fields #[(Value.int 1 0), (Value.int 0 0), (Value.ref 20), (Value.int 5 0), (Value.int 0 0), (Value.ref 27), (Value.int 9 0), (Value.int 0 0), (Value.ref 34), (Value.int 14 0), (Value.int 0 0), (Value.ref 41), (Value.int 16 0), (Value.int 0 0), (Value.ref 54), (Value.int 21 0), (Value.int 0 0), (Value.ref 73), (Value.int 33 0), (Value.int 0 0), (Value.ref 102), (Value.int 86 0), (Value.int 0 0), (Value.ref 163), (Value.int 88 0), (Value.int 0 0), (Value.ref 170), (Value.int 94 0), (Value.int 0 0), (Value.ref 177), (Value.int 109 0), (Value.int 0 0), (Value.ref 182), (Value.int 115 0), (Value.int 0 0), (Value.ref 188), (Value.int 124 0), (Value.int 0 0), (Value.ref 195), (Value.int 128 0), (Value.int 0 0), (Value.ref 201), (Value.int 144 0), (Value.int 0 0), (Value.ref 210), (Value.int 148 0), (Value.int 0 0), (Value.ref 217), (Value.int 152 0), (Value.int 0 0), (Value.ref 224), (Value.int 162 0), (Value.int 0 0), (Value.ref 231)]) #[])
noncomputable def o204 (P : Params) : Obj := (Obj.mk (Value.type "tuple") none (Data.seq #[] 0) #[])
noncomputable def o205 (P : Params) : Obj := (Obj.mk Value.none none (Data.fields #[]) #[])
noncomputable def o206 (P : Params) : Obj := (Obj.mk (Value.type "tuple") none (Data.seq #[(Value.str (Str.ofString "name") 391)] 0) #[])
noncomputable def o207 (P : Params) : Obj := (Obj.mk (Value.type "tuple") none (Data.seq #[] 0) #[])
noncomputable def o208 (P : Params) : Obj := (Obj.mk Value.none none (Data.func (FuncData.mk (Str.ofString "doubled_text") (Str.ofString "doubled_text") (fA (c 11)) (FuncBody.stmts (fB (c 11))) (fS (c 11)) 0 [] Value.none Value.none Value.none Value.none none Value.none Value.none 0)) #[])
noncomputable def o209 (P : Params) : Obj := (Obj.mk (Value.type "code") none (Data.fields #[(Value.str (Str.ofString "doubled_text") 388), (Value.str (Str.ofString "doubled_text") 389), (Value.str (Str.ofString "/claim/cut.py") 390), (Value.int 86 0), (Value.int 1 0), (Value.int 0 0), (Value.int 0 0), (Value.int 3 0), (Value.ref 158), (Value.bool Bool.true), (Value.int 181 0), (Value.ref 159), Value.none, (Value.ref 160), (Value.ref 161), (Value.ref 162), (Value.int 392 0), (Value.int 86 0), (Value.str (Str.ofString "/claim/cut.py") 393)]) #[])
noncomputable def o210 (P : Params) : Obj := (Obj.mk (Value.type "function") none (Data.func (FuncData.mk (Str.ofString "doubled_text") (Str.ofString "doubled_text") (fA (c 11)) (FuncBody.stmts (fB (c 11))) (fS (c 11)) 3 [] Value.none Value.none Value.none (Value.str (Str.ofString "vectorcove.callargs") 303) none (Value.ref 163) Value.none 0)) #[])
noncomputable def o211 (P : Params) : Obj := (Obj.mk (Value.type "tuple") none (Data.seq #[] 0) #[])
noncomputable def o212 (P : Params) : Obj := (Obj.mk Value.none none (Data.fields #[]) #[])
noncomputable def o213 (P : Params) : Obj := (Obj.mk (Value.type "tuple") none (Data.seq #[(Value.str (Str.ofString "args") 398), (Value.str (Str.ofString "place") 399), (Value.str (Str.ofString "show") 400), (Value.str (Str.ofString "tag") 401), (Value.str (Str.ofString "value") 402), (Value.str (Str.ofString "told") 403)] 0) #[])
noncomputable def o214 (P : Params) : Obj := (Obj.mk (Value.type "tuple") none (Data.seq #[] 0) #[])
noncomputable def o215 (P : Params) : Obj := (Obj.mk Value.none none (Data.func (FuncData.mk (Str.ofString "argument_text") (Str.ofString "argument_text") (fA (c 12)) (FuncBody.stmts (fB (c 12))) (fS (c 12)) 0 [] Value.none Value.none Value.none Value.none none Value.none Value.none 0)) #[])
noncomputable def o216 (P : Params) : Obj := (Obj.mk (Value.type "code") none (Data.fields #[(Value.str (Str.ofString "argument_text") 395), (Value.str (Str.ofString "argument_text") 396), (Value.str (Str.ofString "/claim/cut.py") 397), (Value.int 88 0), (Value.int 3 0), (Value.int 0 0), (Value.int 0 0), (Value.int 3 0), (Value.ref 165), (Value.bool Bool.true), (Value.int 181 0), (Value.ref 166), Value.none, (Value.ref 167), (Value.ref 168), (Value.ref 169), (Value.int 404 0), (Value.int 88 0), (Value.str (Str.ofString "/claim/cut.py") 405)]) #[])
noncomputable def o217 (P : Params) : Obj := (Obj.mk (Value.type "function") none (Data.func (FuncData.mk (Str.ofString "argument_text") (Str.ofString "argument_text") (fA (c 12)) (FuncBody.stmts (fB (c 12))) (fS (c 12)) 3 [] Value.none Value.none Value.none (Value.str (Str.ofString "vectorcove.callargs") 303) none (Value.ref 170) Value.none 0)) #[])
noncomputable def o218 (P : Params) : Obj := (Obj.mk (Value.type "tuple") none (Data.seq #[] 0) #[])
noncomputable def o219 (P : Params) : Obj := (Obj.mk Value.none none (Data.fields #[]) #[])
noncomputable def o220 (P : Params) : Obj := (Obj.mk (Value.type "tuple") none (Data.seq #[(Value.str (Str.ofString "value") 410), (Value.str (Str.ofString "item") 411)] 0) #[])
noncomputable def o221 (P : Params) : Obj := (Obj.mk (Value.type "tuple") none (Data.seq #[] 0) #[])
noncomputable def o222 (P : Params) : Obj := (Obj.mk Value.none none (Data.func (FuncData.mk (Str.ofString "plain_text") (Str.ofString "plain_text") (fA (c 13)) (FuncBody.stmts (fB (c 13))) (fS (c 13)) 0 [] Value.none Value.none Value.none Value.none none Value.none Value.none 0)) #[])
noncomputable def o223 (P : Params) : Obj := (Obj.mk (Value.type "code") none (Data.fields #[(Value.str (Str.ofString "plain_text") 407), (Value.str (Str.ofString "plain_text") 408), (Value.str (Str.ofString "/claim/cut.py") 409), (Value.int 94 0), (Value.int 1 0), (Value.int 0 0), (Value.int 0 0), (Value.int 3 0), (Value.ref 172), (Value.bool Bool.true), (Value.int 181 0), (Value.ref 173), Value.none, (Value.ref 174), (Value.ref 175), (Value.ref 176), (Value.int 412 0), (Value.int 94 0), (Value.str (Str.ofString "/claim/cut.py") 413)]) #[])
noncomputable def o224 (P : Params) : Obj := (Obj.mk (Value.type "function") none (Data.func (FuncData.mk (Str.ofString "plain_text") (Str.ofString "plain_text") (fA (c 13)) (FuncBody.stmts (fB (c 13))) (fS (c 13)) 3 [] Value.none Value.none Value.none (Value.str (Str.ofString "vectorcove.callargs") 303) none (Value.ref 177) Value.none 0)) #[])
noncomputable def o225 (P : Params) : Obj := (Obj.mk (Value.type "tuple") none (Data.seq #[] 0) #[])
noncomputable def o226 (P : Params) : Obj := (Obj.mk Value.none none (Data.fields #[]) #[])
noncomputable def o227 (P : Params) : Obj := (Obj.mk Value.none none (Data.func (FuncData.mk (Str.ofString "unused_text") (Str.ofString "unused_text") (fA (c 14)) (FuncBody.stmts (fB (c 14))) (fS (c 14)) 0 [] Value.none Value.none Value.none Value.none none Value.none Value.none 0)) #[])
noncomputable def o228 (P : Params) : Obj := (Obj.mk (Value.type "code") none (Data.fields #[(Value.str (Str.ofString "unused_text") 415), (Value.str (Str.ofString "unused_text") 416), (Value.str (Str.ofString "/claim/cut.py") 417), (Value.int 109 0), (Value.int 3 0), (Value.int 0 0), (Value.int 0 0), (Value.int 3 0), (Value.ref 179), (Value.bool Bool.true), (Value.int 181 0), (Value.ref 180), Value.none, Value.none, Value.none, (Value.ref 181), (Value.int 418 0), (Value.int 109 0), (Value.str (Str.ofString "/claim/cut.py") 419)]) #[])
noncomputable def o229 (P : Params) : Obj := (Obj.mk (Value.type "function") none (Data.func (FuncData.mk (Str.ofString "unused_text") (Str.ofString "unused_text") (fA (c 14)) (FuncBody.stmts (fB (c 14))) (fS (c 14)) 3 [] Value.none Value.none Value.none (Value.str (Str.ofString "vectorcove.callargs") 303) none (Value.ref 182) Value.none 0)) #[])
noncomputable def o230 (P : Params) : Obj := (Obj.mk (Value.type "tuple") none (Data.seq #[Value.none] 0) #[])
noncomputable def o231 (P : Params) : Obj := (Obj.mk (Value.type "tuple") none (Data.seq #[] 0) #[])
noncomputable def o232 (P : Params) : Obj := (Obj.mk Value.none none (Data.fields #[]) #[])
noncomputable def o233 (P : Params) : Obj := (Obj.mk Value.none none (Data.func (FuncData.mk (Str.ofString "match_names") (Str.ofString "match_names") (fA (c 15)) (FuncBody.stmts (fB (c 15))) (fS (c 15)) 0 [] Value.none Value.none Value.none Value.none none Value.none Value.none 0)) #[])
noncomputable def o234 (P : Params) : Obj := (Obj.mk (Value.type "code") none (Data.fields #[(Value.str (Str.ofString "match_names") 421), (Value.str (Str.ofString "match_names") 422), (Value.str (Str.ofString "/claim/cut.py") 423), (Value.int 115 0), (Value.int 3 0), (Value.int 0 0), (Value.int 0 0), (Value.int 3 0), (Value.ref 185), (Value.bool Bool.true), (Value.int 181 0), (Value.ref 186), Value.none, Value.none, Value.none, (Value.ref 187), (Value.int 424 0), (Value.int 115 0), (Value.str (Str.ofString "/claim/cut.py") 425)]) #[])
noncomputable def o235 (P : Params) : Obj := (Obj.mk (Value.type "function") none (Data.func (FuncData.mk (Str.ofString "match_names") (Str.ofString "match_names") (fA (c 15)) (FuncBody.stmts (fB (c 15))) (fS (c 15)) 3 [] (Value.ref 184) Value.none Value.none (Value.str (Str.ofString "vectorcove.callargs") 303) none (Value.ref 188) Value.none 0)) #[])
noncomputable def o236 (P : Params) : Obj := (Obj.mk (Value.type "tuple") none (Data.seq #[] 0) #[])
noncomputable def o237 (P : Params) : Obj := (Obj.mk Value.none none (Data.fields #[]) #[])
noncomputable def o238 (P : Params) : Obj := (Obj.mk (Value.type "tuple") none (Data.seq #[(Value.str (Str.ofString "value") 430), (Value.str (Str.ofString "name") 431)] 0) #[])
noncomputable def o239 (P : Params) : Obj := (Obj.mk (Value.type "tuple") none (Data.seq #[] 0) #[])
noncomputable def o240 (P : Params) : Obj := (Obj.mk Value.none none (Data.func (FuncData.mk (Str.ofString "needed") (Str.ofString "needed") (fA (c 16)) (FuncBody.stmts (fB (c 16))) (fS (c 16)) 0 [] Value.none Value.none Value.none Value.none none Value.none Value.none 0)) #[])
noncomputable def o241 (P : Params) : Obj := (Obj.mk (Value.type "code") none (Data.fields #[(Value.str (Str.ofString "needed") 427), (Value.str (Str.ofString "needed") 428), (Value.str (Str.ofString "/claim/cut.py") 429), (Value.int 124 0), (Value.int 2 0), (Value.int 0 0), (Value.int 0 0), (Value.int 3 0), (Value.ref 190), (Value.bool Bool.true), (Value.int 181 0), (Value.ref 191), Value.none, (Value.ref 192), (Value.ref 193), (Value.ref 194), (Value.int 432 0), (Value.int 124 0), (Value.str (Str.ofString "/claim/cut.py") 433)]) #[])
noncomputable def o242 (P : Params) : Obj := (Obj.mk (Value.type "function") none (Data.func (FuncData.mk (Str.ofString "needed") (Str.ofString "needed") (fA (c 16)) (FuncBody.stmts (fB (c 16))) (fS (c 16)) 3 [] Value.none Value.none Value.none (Value.str (Str.ofString "vectorcove.callargs") 303) none (Value.ref 195) Value.none 0)) #[])
noncomputable def o243 (P : Params) : Obj := (Obj.mk (Value.type "tuple") none (Data.seq #[Value.none] 0) #[])
noncomputable def o244 (P : Params) : Obj := (Obj.mk (Value.type "tuple") none (Data.seq #[] 0) #[])
noncomputable def o245 (P : Params) : Obj := (Obj.mk Value.none none (Data.fields #[]) #[])
noncomputable def o246 (P : Params) : Obj := (Obj.mk Value.none none (Data.func (FuncData.mk (Str.ofString "take") (Str.ofString "take") (fA (c 17)) (FuncBody.stmts (fB (c 17))) (fS (c 17)) 0 [] Value.none Value.none Value.none Value.none none Value.none Value.none 0)) #[])
noncomputable def o247 (P : Params) : Obj := (Obj.mk (Value.type "code") none (Data.fields #[(Value.str (Str.ofString "take") 435), (Value.str (Str.ofString "take") 436), (Value.str (Str.ofString "/claim/cut.py") 437), (Value.int 128 0), (Value.int 3 0), (Value.int 0 0), (Value.int 0 0), (Value.int 3 0), (Value.ref 198), (Value.bool Bool.true), (Value.int 181 0), (Value.ref 199), Value.none, Value.none, Value.none, (Value.ref 200), (Value.int 438 0), (Value.int 128 0), (Value.str (Str.ofString "/claim/cut.py") 439)]) #[])
noncomputable def o248 (P : Params) : Obj := (Obj.mk (Value.type "function") none (Data.func (FuncData.mk (Str.ofString "take") (Str.ofString "take") (fA (c 17)) (FuncBody.stmts (fB (c 17))) (fS (c 17)) 3 [] (Value.ref 197) Value.none Value.none (Value.str (Str.ofString "vectorcove.callargs") 303) none (Value.ref 201) Value.none 0)) #[])
noncomputable def o249 (P : Params) : Obj := (Obj.mk (Value.type "tuple") none (Data.seq #[(Value.int 0 443), (Value.int 0 444)] 0) #[])
noncomputable def o250 (P : Params) : Obj := (Obj.mk (Value.type "tuple") none (Data.seq #[(Value.int 0 446), (Value.int 1 447)] 0) #[])
noncomputable def o251 (P : Params) : Obj := (Obj.mk (Value.type "tuple") none (Data.seq #[] 0) #[])
noncomputable def o252 (P : Params) : Obj := (Obj.mk Value.none none (Data.fields #[]) #[])
noncomputable def o253 (P : Params) : Obj := (Obj.mk (Value.type "tuple") none (Data.seq #[(Value.str (Str.ofString "a") 457), (Value.str (Str.ofString "b") 458)] 0) #[])
noncomputable def o254 (P : Params) : Obj := (Obj.mk (Value.type "tuple") none (Data.seq #[] 0) #[])
noncomputable def o255 (P : Params) : Obj := (Obj.mk Value.none none (Data.func (FuncData.mk (Str.ofString "gcd") (Str.ofString "gcd") (fA (c 23)) (FuncBody.stmts (fB (c 23))) (fS (c 23)) 0 [] Value.none Value.none Value.none Value.none none Value.none Value.none 0)) #[])
noncomputable def o256 (P : Params) : Obj := (Obj.mk (Value.type "code") none (Data.fields #[(Value.str (Str.ofString "gcd") 454), (Value.str (Str.ofString "gcd") 455), (Value.str (Str.ofString "/claim/cut.py") 456), (Value.int 144 0), (Value.int 2 0), (Value.int 0 0), (Value.int 0 0), (Value.int 3 0), (Value.ref 205), (Value.bool Bool.true), (Value.int 181 0), (Value.ref 206), Value.none, (Value.ref 207), (Value.ref 208), (Value.ref 209), (Value.int 459 0), (Value.int 144 0), (Value.str (Str.ofString "/claim/cut.py") 460)]) #[])
noncomputable def o257 (P : Params) : Obj := (Obj.mk (Value.type "function") none (Data.func (FuncData.mk (Str.ofString "gcd") (Str.ofString "gcd") (fA (c 23)) (FuncBody.stmts (fB (c 23))) (fS (c 23)) 3 [] Value.none Value.none Value.none (Value.str (Str.ofString "vectorcove.rational") 441) none (Value.ref 210) Value.none 0)) #[])
noncomputable def o258 (P : Params) : Obj := (Obj.mk (Value.type "tuple") none (Data.seq #[] 0) #[])
noncomputable def o259 (P : Params) : Obj := (Obj.mk Value.none none (Data.fields #[]) #[])
noncomputable def o260 (P : Params) : Obj := (Obj.mk (Value.type "tuple") none (Data.seq #[(Value.str (Str.ofString "n") 465), (Value.str (Str.ofString "d") 466)] 0) #[])
noncomputable def o261 (P : Params) : Obj := (Obj.mk (Value.type "tuple") none (Data.seq #[] 0) #[])
noncomputable def o262 (P : Params) : Obj := (Obj.mk Value.none none (Data.func (FuncData.mk (Str.ofString "bounded") (Str.ofString "bounded") (fA (c 24)) (FuncBody.stmts (fB (c 24))) (fS (c 24)) 0 [] Value.none Value.none Value.none Value.none none Value.none Value.none 0)) #[])
noncomputable def o263 (P : Params) : Obj := (Obj.mk (Value.type "code") none (Data.fields #[(Value.str (Str.ofString "bounded") 462), (Value.str (Str.ofString "bounded") 463), (Value.str (Str.ofString "/claim/cut.py") 464), (Value.int 148 0), (Value.int 2 0), (Value.int 0 0), (Value.int 0 0), (Value.int 3 0), (Value.ref 212), (Value.bool Bool.true), (Value.int 181 0), (Value.ref 213), Value.none, (Value.ref 214), (Value.ref 215), (Value.ref 216), (Value.int 467 0), (Value.int 148 0), (Value.str (Str.ofString "/claim/cut.py") 468)]) #[])
noncomputable def o264 (P : Params) : Obj := (Obj.mk (Value.type "function") none (Data.func (FuncData.mk (Str.ofString "bounded") (Str.ofString "bounded") (fA (c 24)) (FuncBody.stmts (fB (c 24))) (fS (c 24)) 3 [] Value.none Value.none Value.none (Value.str (Str.ofString "vectorcove.rational") 441) none (Value.ref 217) Value.none 0)) #[])
noncomputable def o265 (P : Params) : Obj := (Obj.mk (Value.type "tuple") none (Data.seq #[] 0) #[])
noncomputable def o266 (P : Params) : Obj := (Obj.mk Value.none none (Data.fields #[]) #[])
noncomputable def o267 (P : Params) : Obj := (Obj.mk (Value.type "tuple") none (Data.seq #[(Value.str (Str.ofString "n") 473), (Value.str (Str.ofString "d") 474), (Value.str (Str.ofString "common") 475)] 0) #[])
noncomputable def o268 (P : Params) : Obj := (Obj.mk (Value.type "tuple") none (Data.seq #[] 0) #[])
noncomputable def o269 (P : Params) : Obj := (Obj.mk Value.none none (Data.func (FuncData.mk (Str.ofString "make") (Str.ofString "make") (fA (c 25)) (FuncBody.stmts (fB (c 25))) (fS (c 25)) 0 [] Value.none Value.none Value.none Value.none none Value.none Value.none 0)) #[])
noncomputable def o270 (P : Params) : Obj := (Obj.mk (Value.type "code") none (Data.fields #[(Value.str (Str.ofString "make") 470), (Value.str (Str.ofString "make") 471), (Value.str (Str.ofString "/claim/cut.py") 472), (Value.int 152 0), (Value.int 2 0), (Value.int 0 0), (Value.int 0 0), (Value.int 3 0), (Value.ref 219), (Value.bool Bool.true), (Value.int 181 0), (Value.ref 220), Value.none, (Value.ref 221), (Value.ref 222), (Value.ref 223), (Value.int 476 0), (Value.int 152 0), (Value.str (Str.ofString "/claim/cut.py") 477)]) #[])
noncomputable def o271 (P : Params) : Obj := (Obj.mk (Value.type "function") none (Data.func (FuncData.mk (Str.ofString "make") (Str.ofString "make") (fA (c 25)) (FuncBody.stmts (fB (c 25))) (fS (c 25)) 3 [] Value.none Value.none Value.none (Value.str (Str.ofString "vectorcove.rational") 441) none (Value.ref 224) Value.none 0)) #[])
noncomputable def o272 (P : Params) : Obj := (Obj.mk (Value.type "tuple") none (Data.seq #[] 0) #[])
noncomputable def o273 (P : Params) : Obj := (Obj.mk Value.none none (Data.fields #[]) #[])
noncomputable def o274 (P : Params) : Obj := (Obj.mk (Value.type "tuple") none (Data.seq #[(Value.str (Str.ofString "n") 482)] 0) #[])
noncomputable def o275 (P : Params) : Obj := (Obj.mk (Value.type "tuple") none (Data.seq #[] 0) #[])
noncomputable def o276 (P : Params) : Obj := (Obj.mk Value.none none (Data.func (FuncData.mk (Str.ofString "from_int") (Str.ofString "from_int") (fA (c 26)) (FuncBody.stmts (fB (c 26))) (fS (c 26)) 0 [] Value.none Value.none Value.none Value.none none Value.none Value.none 0)) #[])
noncomputable def o277 (P : Params) : Obj := (Obj.mk (Value.type "code") none (Data.fields #[(Value.str (Str.ofString "from_int") 479), (Value.str (Str.ofString "from_int") 480), (Value.str (Str.ofString "/claim/cut.py") 481), (Value.int 162 0), (Value.int 1 0), (Value.int 0 0), (Value.int 0 0), (Value.int 3 0), (Value.ref 226), (Value.bool Bool.true), (Value.int 181 0), (Value.ref 227), Value.none, (Value.ref 228), (Value.ref 229), (Value.ref 230), (Value.int 483 0), (Value.int 162 0), (Value.str (Str.ofString "/claim/cut.py") 484)]) #[])
noncomputable def o278 (P : Params) : Obj := (Obj.mk (Value.type "function") none (Data.func (FuncData.mk (Str.ofString "from_int") (Str.ofString "from_int") (fA (c 26)) (FuncBody.stmts (fB (c 26))) (fS (c 26)) 3 [] Value.none Value.none Value.none (Value.str (Str.ofString "vectorcove.rational") 441) none (Value.ref 231) Value.none 0)) #[])
noncomputable def o279 (P : Params) : Obj := (Obj.mk (Value.type "dict") none (Data.dict #[(DictEntry.mk (PyData.keyHash P (Str.ofString "__name__")) (Value.str (Str.ofString "__name__") 165) (Value.str (Str.ofString "vectorcove.arithcalls") 575)), (DictEntry.mk (PyData.keyHash P (Str.ofString "__doc__")) (Value.str (Str.ofString "__doc__") 166) Value.none), (DictEntry.mk (PyData.keyHash P (Str.ofString "__package__")) (Value.str (Str.ofString "__package__") 167) Value.none), (DictEntry.mk (PyData.keyHash P (Str.ofString "__loader__")) (Value.str (Str.ofString "__loader__") 168) (Value.builtin "__main__.__loader__#opaque")), (DictEntry.mk (PyData.keyHash P (Str.ofString "__spec__")) (Value.str (Str.ofString "__spec__") 169) Value.none), (DictEntry.mk (PyData.keyHash P (Str.ofString "__annotations__")) (Value.str (Str.ofString "__annotations__") 170) (Value.ref 6)), (DictEntry.mk (PyData.keyHash P (Str.ofString "__builtins__")) (Value.str (Str.ofString "__builtins__") 171) (Value.ref 4)), (DictEntry.mk (PyData.keyHash P (Str.ofString "__file__")) (Value.str (Str.ofString "__file__") 173) (Value.str (Str.ofString "/claim/cut.py") 172)), (DictEntry.mk (PyData.keyHash P (Str.ofString "__cached__")) (Value.str (Str.ofString "__cached__") 174) Value.none), (DictEntry.mk (PyData.keyHash P (Str.ofString "_wall")) (Value.str (Str.ofString "_wall") 193) (Value.ref 21)), (DictEntry.mk (PyData.keyHash P (Str.ofString "recycle_length")) (Value.str (Str.ofString "recycle_length") 203) (Value.ref 28)), (DictEntry.mk (PyData.keyHash P (Str.ofString "keep_all")) (Value.str (Str.ofString "keep_all") 211) (Value.ref 35)), (DictEntry.mk (PyData.keyHash P (Str.ofString "CoveError")) (Value.str (Str.ofString "CoveError") 233) (Value.ref 45)), (DictEntry.mk (PyData.keyHash P (Str.ofString "Refusal")) (Value.str (Str.ofString "Refusal") 258) (Value.ref 65)), (DictEntry.mk (PyData.keyHash P (Str.ofString "Vector")) (Value.str (Str.ofString "Vector") 302) (Value.ref 92)), (DictEntry.mk (PyData.keyHash P (Str.ofString "Matching")) (Value.str (Str.ofString "Matching") 387) (Value.ref 153)), (DictEntry.mk (PyData.keyHash P (Str.ofString "doubled_text")) (Value.str (Str.ofString "doubled_text") 394) (Value.ref 164)), (DictEntry.mk (PyData.keyHash P (Str.ofString "argument_text")) (Value.str (Str.ofString "argument_text") 406) (Value.ref 171)), (DictEntry.mk (PyData.keyHash P (Str.ofString "plain_text")) (Value.str (Str.ofString "plain_text") 414) (Value.ref 178)), (DictEntry.mk (PyData.keyHash P (Str.ofString "unused_text")) (Value.str (Str.ofString "unused_text") 420) (Value.ref 183)), (DictEntry.mk (PyData.keyHash P (Str.ofString "match_names")) (Value.str (Str.ofString "match_names") 426) (Value.ref 189)), (DictEntry.mk (PyData.keyHash P (Str.ofString "needed")) (Value.str (Str.ofString "needed") 434) (Value.ref 196)), (DictEntry.mk (PyData.keyHash P (Str.ofString "take")) (Value.str (Str.ofString "take") 440) (Value.ref 202)), (DictEntry.mk (PyData.keyHash P (Str.ofString "NAN")) (Value.str (Str.ofString "NAN") 445) (Value.ref 203)), (DictEntry.mk (PyData.keyHash P (Str.ofString "ZERO")) (Value.str (Str.ofString "ZERO") 448) (Value.ref 204)), (DictEntry.mk (PyData.keyHash P (Str.ofString "MOST_FIGURES")) (Value.str (Str.ofString "MOST_FIGURES") 450) (Value.int 5000 449)), (DictEntry.mk (PyData.keyHash P (Str.ofString "MOST_PART")) (Value.str (Str.ofString "MOST_PART") 453) (Value.int 100000000000000000000000000000000000000000000000000000000000000000000000000000000000000000000000000000000000000000000000000000000000000000000000000000000000000000000000000000000000000000000000000000000000000000000000000000000000000000000000000000000000000000000000000000000000000000000000000000000000000000000000000000000000000000000000000000000000000000000000000000000000000000000000000000000000000000000000000000000000000000000000000000000000000000000000000000000000000000000000000000000000000000000000000000000000000000000000000000000000000000000000000000000000000000000000000000000000000000000000000000000000000000000000000000000000000000000000000000000000000000000000000000000000000000000000000000000000000000000000000000000000000000000000000000000000000000000000000000000000000000000000000000000000000000000000000000000000000000000000000000000000000000000000000000000000000000000000000000000000000000000000000000000000000000000000000000000000000000000000000000000000000000000000000000000000000000000000000000000000000000000000000000000000000000000000000000000000000000000000000000000000000000000000000000000000000000000000000000000000000000000000000000000000000000000000000000000000000000000000000000000000000000000000000000000000000000000000000000000000000000000000000000000000000000000000000000000000000000000000000000000000000000000000000000000000000000000000000000000000000000000000000000000000000000000000000000000000000000000000000000000000000000000000000000000000000000000000000000000000000000000000000000000000000000000000000000000000000000000000000000000000000000000000000000000000000000000000000000000000000000000000000000000000000000000000000000000000000000000000000000000000000000000000000000000000000000000000000000000000000000000000000000000000000000000000000000000000000000000000000000000000000000000000000000000000000000000000000000000000000000000000000000000000000000000000000000000000000000000000000000000000000000000000000000000000000000000000000000000000000000000000000000000000000000000000000000000000000000000000000000000000000000000000000000000000000000000000000000000000000000000000000000000000000000000000000000000000000000000000000000000000000000000000000000000000000000000000000000000000000000000000000000000000000000000000000000000000000000000000000000000000000000000000000000000000000000000000000000000000000000000000000000000000000000000000000000000000000000000000000000000000000000000000000000000000000000000000000000000000000000000000000000000000000000000000000000000000000000000000000000000000000000000000000000000000000000000000000000000000000000000000000000000000000000000000000000000000000000000000000000000000000000000000000000000000000000000000000000000000000000000000000000000000000000000000000000000000000000000000000000000000000000000000000000000000000000000000000000000000000000000000000000000000000000000000000000000000000000000000000000000000000000000000000000000000000000000000000000000000000000000000000000000000000000000000000000000000000000000000000000000000000000000000000000000000000000000000000000000000000000000000000000000000000000000000000000000000000000000000000000000000000000000000000000000000000000000000000000000000000000000000000000000000000000000000000000000000000000000000000000000000000000000000000000000000000000000000000000000000000000000000000000000000000000000000000000000000000000000000000000000000000000000000000000000000000000000000000000000000000000000000000000000000000000000000000000000000000000000000000000000000000000000000000000000000000000000000000000000000000000000000000000000000000000000000000000000000000000000000000000000000000000000000000000000000000000000000000000000000000000000000000000000000000000000000000000000000000000000000000000000000000000000000000000000000000000000000000000000000000000000000000000000000000000000000000000000000000000000000000000000000000000000000000000000000000000000000000000000000000000000000000000000000000000000000000000000000000000000000000000000000000000000000000000000000000000000000000000000000000000000000000000000000000000000000000000000000000000000000000000000000000000000000000000000000000000000000000000000000000000000000000000000000000000000000000000000000000000000000000000000000000000000000000000000000000000000000000000000000000000000000000000000000000000000000000000000000000000000000000000000000000000000000000000000000000000000000000000000000000000000000000000000000000000000000000000000000000000000000000000000000000000000000000000000000000000000000000000000000000000000000000000000000000000000000000000000000000000000000000000000000000000000000000000000000000000000000000000000000000000000000000000000000000000000000000000000000000000000000000000000000000000000000000000000000000000000000000000000000000000000000000000000000000000000000000000000000000000000000000000000000000000000000000000000000000000000000000000000000000000000000000000000000000000000000000000000000000000000000000000000000000000000000000000000000000000000000000000000000000000000000000000000 452)), (DictEntry.mk (PyData.keyHash P (Str.ofString "gcd")) (Value.str (Str.ofString "gcd") 461) (Value.ref 211)), (DictEntry.mk (PyData.keyHash P (Str.ofString "bounded")) (Value.str (Str.ofString "bounded") 469) (Value.ref 218)), (DictEntry.mk (PyData.keyHash P (Str.ofString "make")) (Value.str (Str.ofString "make") 478) (Value.ref 225)), (DictEntry.mk (PyData.keyHash P (Str.ofString "from_int")) (Value.str (Str.ofString "from_int") 485) (Value.ref 232)), (DictEntry.mk (PyData.keyHash P (Str.ofString "is_na")) (Value.str (Str.ofString "is_na") 492) (Value.ref 239)), (DictEntry.mk (PyData.keyHash P (Str.ofString "is_finite")) (Value.str (Str.ofString "is_finite") 499) (Value.ref 246)), (DictEntry.mk (PyData.keyHash P (Str.ofString "nearest_whole")) (Value.str (Str.ofString "nearest_whole") 509) (Value.ref 253)), (DictEntry.mk (PyData.keyHash P (Str.ofString "rounded")) (Value.str (Str.ofString "rounded") 518) (Value.ref 260)), (DictEntry.mk (PyData.keyHash P (Str.ofString "round_half_even")) (Value.str (Str.ofString "round_half_even") 526) (Value.ref 267)), (DictEntry.mk (PyData.keyHash P (Str.ofString "exponent")) (Value.str (Str.ofString "exponent") 536) (Value.ref 274)), (DictEntry.mk (PyData.keyHash P (Str.ofString "signif")) (Value.str (Str.ofString "signif") 544) (Value.ref 281)), (DictEntry.mk (PyData.keyHash P (Str.ofString "LEAST_PLACES")) (Value.str (Str.ofString "LEAST_PLACES") 549) (Value.int (-5001) 548)), (DictEntry.mk (PyData.keyHash P (Str.ofString "check_math")) (Value.str (Str.ofString "check_math") 556) (Value.ref 288)), (DictEntry.mk (PyData.keyHash P (Str.ofString "doubles")) (Value.str (Str.ofString "doubles") 562) (Value.ref 293)), (DictEntry.mk (PyData.keyHash P (Str.ofString "round_to")) (Value.str (Str.ofString "round_to") 568) (Value.ref 298)), (DictEntry.mk (PyData.keyHash P (Str.ofString "signif_to")) (Value.str (Str.ofString "signif_to") 574) (Value.ref 303)), (DictEntry.mk (PyData.keyHash P (Str.ofString "kept_beside")) (Value.str (Str.ofString "kept_beside") 584) (Value.ref 310))] 44) #[])
noncomputable def o280 (P : Params) : Obj := (Obj.mk Value.none none (Data.fields #[(Value.int 1 0), (Value.int 0 0), (Value.ref 20), (Value.int 5 0), (Value.int 0 0), (Value.ref 27), (Value.int 9 0), (Value.int 0 0), (Value.ref 34), (Value.int 14 0), (Value.int 0 0), (Value.ref 41), (Value.int 16 0), (Value.int 0 0), (Value.ref 54), (Value.int 21 0), (Value.int 0 0), (Value.ref 73), (Value.int 33 0), (Value.int 0 0), (Value.ref 102), (Value.int 86 0), (Value.int 0 0), (Value.ref 163), (Value.int 88 0), (Value.int 0 0), (Value.ref 170), (Value.int 94 0), (Value.int 0 0), (Value.ref 177), (Value.int 109 0), (Value.int 0 0), (Value.ref 182), (Value.int 115 0), (Value.int 0 0), (Value.ref 188), (Value.int 124 0), (Value.int 0 0), (Value.ref 195), (Value.int 128 0), (Value.int 0 0), (Value.ref 201), (Value.int 144 0), (Value.int 0 0), (Value.ref 210), (Value.int 148 0), (Value.int 0 0), (Value.ref 217), (Value.int 152 0), (Value.int 0 0), (Value.ref 224), (Value.int 162 0), (Value.int 0 0), (Value.ref 231), (Value.int 166 0), (Value.int 0 0), (Value.ref 238), (Value.int 168 0), (Value.int 0 0), (Value.ref 245), (Value.int 170 0), (Value.int 0 0), (Value.ref 252), (Value.int 176 0), (Value.int 0 0), (Value.ref 259), (Value.int 182 0), (Value.int 0 0), (Value.ref 266), (Value.int 186 0), (Value.int 0 0), (Value.ref 273), (Value.int 197 0), (Value.int 0 0), (Value.ref 280), (Value.int 203 0), (Value.int 0 0), (Value.ref 287), (Value.int 206 0), (Value.int 0 0), (Value.ref 292), (Value.int 210 0), (Value.int 0 0), (Value.ref 297), (Value.int 217 0), (Value.int 0 0), (Value.ref 302), (Value.int 223 0), (Value.int 0 0), (Value.ref 309)]) #[])
noncomputable def o281 (P : Params) : Obj := (Obj.mk (Value.type "tuple") none (Data.seq #[] 0) #[])
noncomputable def o282 (P : Params) : Obj := (Obj.mk Value.none none (Data.fields #[]) #[])
noncomputable def o283 (P : Params) : Obj := (Obj.mk (Value.type "tuple") none (Data.seq #[(Value.str (Str.ofString "x") 489)] 0) #[])
noncomputable def o284 (P : Params) : Obj := (Obj.mk (Value.type "tuple") none (Data.seq #[] 0) #[])
noncomputable def o285 (P : Params) : Obj := (Obj.mk Value.none none (Data.func (FuncData.mk (Str.ofString "is_na") (Str.ofString "is_na") (fA (c 27)) (FuncBody.stmts (fB (c 27))) (fS (c 27)) 0 [] Value.none Value.none Value.none Value.none none Value.none Value.none 0)) #[])
noncomputable def o286 (P : Params) : Obj := (Obj.mk (Value.type "code") none (Data.fields #[(Value.str (Str.ofString "is_na") 486), (Value.str (Str.ofString "is_na") 487), (Value.str (Str.ofString "/claim/cut.py") 488), (Value.int 166 0), (Value.int 1 0), (Value.int 0 0), (Value.int 0 0), (Value.int 3 0), (Value.ref 233), (Value.bool Bool.true), (Value.int 181 0), (Value.ref 234), Value.none, (Value.ref 235), (Value.ref 236), (Value.ref 237), (Value.int 490 0), (Value.int 166 0), (Value.str (Str.ofString "/claim/cut.py") 491)]) #[])
noncomputable def o287 (P : Params) : Obj := (Obj.mk (Value.type "function") none (Data.func (FuncData.mk (Str.ofString "is_na") (Str.ofString "is_na") (fA (c 27)) (FuncBody.stmts (fB (c 27))) (fS (c 27)) 3 [] Value.none Value.none Value.none (Value.str (Str.ofString "vectorcove.rational") 441) none (Value.ref 238) Value.none 0)) #[])
noncomputable def o288 (P : Params) : Obj := (Obj.mk (Value.type "tuple") none (Data.seq #[] 0) #[])
noncomputable def o289 (P : Params) : Obj := (Obj.mk Value.none none (Data.fields #[]) #[])
noncomputable def o290 (P : Params) : Obj := (Obj.mk (Value.type "tuple") none (Data.seq #[(Value.str (Str.ofString "x") 496)] 0) #[])
noncomputable def o291 (P : Params) : Obj := (Obj.mk (Value.type "tuple") none (Data.seq #[] 0) #[])
noncomputable def o292 (P : Params) : Obj := (Obj.mk Value.none none (Data.func (FuncData.mk (Str.ofString "is_finite") (Str.ofString "is_finite") (fA (c 28)) (FuncBody.stmts (fB (c 28))) (fS (c 28)) 0 [] Value.none Value.none Value.none Value.none none Value.none Value.none 0)) #[])
noncomputable def o293 (P : Params) : Obj := (Obj.mk (Value.type "code") none (Data.fields #[(Value.str (Str.ofString "is_finite") 493), (Value.str (Str.ofString "is_finite") 494), (Value.str (Str.ofString "/claim/cut.py") 495), (Value.int 168 0), (Value.int 1 0), (Value.int 0 0), (Value.int 0 0), (Value.int 3 0), (Value.ref 240), (Value.bool Bool.true), (Value.int 181 0), (Value.ref 241), Value.none, (Value.ref 242), (Value.ref 243), (Value.ref 244), (Value.int 497 0), (Value.int 168 0), (Value.str (Str.ofString "/claim/cut.py") 498)]) #[])
noncomputable def o294 (P : Params) : Obj := (Obj.mk (Value.type "function") none (Data.func (FuncData.mk (Str.ofString "is_finite") (Str.ofString "is_finite") (fA (c 28)) (FuncBody.stmts (fB (c 28))) (fS (c 28)) 3 [] Value.none Value.none Value.none (Value.str (Str.ofString "vectorcove.rational") 441) none (Value.ref 245) Value.none 0)) #[])
noncomputable def o295 (P : Params) : Obj := (Obj.mk (Value.type "tuple") none (Data.seq #[] 0) #[])
noncomputable def o296 (P : Params) : Obj := (Obj.mk Value.none none (Data.fields #[]) #[])
noncomputable def o297 (P : Params) : Obj := (Obj.mk (Value.type "tuple") none (Data.seq #[(Value.str (Str.ofString "n") 503), (Value.str (Str.ofString "d") 504), (Value.str (Str.ofString "low") 505), (Value.str (Str.ofString "rest") 506)] 0) #[])
noncomputable def o298 (P : Params) : Obj := (Obj.mk (Value.type "tuple") none (Data.seq #[] 0) #[])
noncomputable def o299 (P : Params) : Obj := (Obj.mk Value.none none (Data.func (FuncData.mk (Str.ofString "nearest_whole") (Str.ofString "nearest_whole") (fA (c 29)) (FuncBody.stmts (fB (c 29))) (fS (c 29)) 0 [] Value.none Value.none Value.none Value.none none Value.none Value.none 0)) #[])
noncomputable def o300 (P : Params) : Obj := (Obj.mk (Value.type "code") none (Data.fields #[(Value.str (Str.ofString "nearest_whole") 500), (Value.str (Str.ofString "nearest_whole") 501), (Value.str (Str.ofString "/claim/cut.py") 502), (Value.int 170 0), (Value.int 2 0), (Value.int 0 0), (Value.int 0 0), (Value.int 3 0), (Value.ref 247), (Value.bool Bool.true), (Value.int 181 0), (Value.ref 248), Value.none, (Value.ref 249), (Value.ref 250), (Value.ref 251), (Value.int 507 0), (Value.int 170 0), (Value.str (Str.ofString "/claim/cut.py") 508)]) #[])
noncomputable def o301 (P : Params) : Obj := (Obj.mk (Value.type "function") none (Data.func (FuncData.mk (Str.ofString "nearest_whole") (Str.ofString "nearest_whole") (fA (c 29)) (FuncBody.stmts (fB (c 29))) (fS (c 29)) 3 [] Value.none Value.none Value.none (Value.str (Str.ofString "vectorcove.rational") 441) none (Value.ref 252) Value.none 0)) #[])
noncomputable def o302 (P : Params) : Obj := (Obj.mk (Value.type "tuple") none (Data.seq #[] 0) #[])
noncomputable def o303 (P : Params) : Obj := (Obj.mk Value.none none (Data.fields #[]) #[])
noncomputable def o304 (P : Params) : Obj := (Obj.mk (Value.type "tuple") none (Data.seq #[(Value.str (Str.ofString "x") 513), (Value.str (Str.ofString "places") 514), (Value.str (Str.ofString "scale") 515)] 0) #[])
noncomputable def o305 (P : Params) : Obj := (Obj.mk (Value.type "tuple") none (Data.seq #[] 0) #[])
noncomputable def o306 (P : Params) : Obj := (Obj.mk Value.none none (Data.func (FuncData.mk (Str.ofString "rounded") (Str.ofString "rounded") (fA (c 30)) (FuncBody.stmts (fB (c 30))) (fS (c 30)) 0 [] Value.none Value.none Value.none Value.none none Value.none Value.none 0)) #[])
noncomputable def o307 (P : Params) : Obj := (Obj.mk (Value.type "code") none (Data.fields #[(Value.str (Str.ofString "rounded") 510), (Value.str (Str.ofString "rounded") 511), (Value.str (Str.ofString "/claim/cut.py") 512), (Value.int 176 0), (Value.int 2 0), (Value.int 0 0), (Value.int 0 0), (Value.int 3 0), (Value.ref 254), (Value.bool Bool.true), (Value.int 181 0), (Value.ref 255), Value.none, (Value.ref 256), (Value.ref 257), (Value.ref 258), (Value.int 516 0), (Value.int 176 0), (Value.str (Str.ofString "/claim/cut.py") 517)]) #[])
noncomputable def o308 (P : Params) : Obj := (Obj.mk (Value.type "function") none (Data.func (FuncData.mk (Str.ofString "rounded") (Str.ofString "rounded") (fA (c 30)) (FuncBody.stmts (fB (c 30))) (fS (c 30)) 3 [] Value.none Value.none Value.none (Value.str (Str.ofString "vectorcove.rational") 441) none (Value.ref 259) Value.none 0)) #[])
noncomputable def o309 (P : Params) : Obj := (Obj.mk (Value.type "tuple") none (Data.seq #[] 0) #[])
noncomputable def o310 (P : Params) : Obj := (Obj.mk Value.none none (Data.fields #[]) #[])
noncomputable def o311 (P : Params) : Obj := (Obj.mk (Value.type "tuple") none (Data.seq #[(Value.str (Str.ofString "x") 522), (Value.str (Str.ofString "places") 523)] 0) #[])
noncomputable def o312 (P : Params) : Obj := (Obj.mk (Value.type "tuple") none (Data.seq #[] 0) #[])
noncomputable def o313 (P : Params) : Obj := (Obj.mk Value.none none (Data.func (FuncData.mk (Str.ofString "round_half_even") (Str.ofString "round_half_even") (fA (c 31)) (FuncBody.stmts (fB (c 31))) (fS (c 31)) 0 [] Value.none Value.none Value.none Value.none none Value.none Value.none 0)) #[])
noncomputable def o314 (P : Params) : Obj := (Obj.mk (Value.type "code") none (Data.fields #[(Value.str (Str.ofString "round_half_even") 519), (Value.str (Str.ofString "round_half_even") 520), (Value.str (Str.ofString "/claim/cut.py") 521), (Value.int 182 0), (Value.int 2 0), (Value.int 0 0), (Value.int 0 0), (Value.int 3 0), (Value.ref 261), (Value.bool Bool.true), (Value.int 181 0), (Value.ref 262), Value.none, (Value.ref 263), (Value.ref 264), (Value.ref 265), (Value.int 524 0), (Value.int 182 0), (Value.str (Str.ofString "/claim/cut.py") 525)]) #[])
noncomputable def o315 (P : Params) : Obj := (Obj.mk (Value.type "function") none (Data.func (FuncData.mk (Str.ofString "round_half_even") (Str.ofString "round_half_even") (fA (c 31)) (FuncBody.stmts (fB (c 31))) (fS (c 31)) 3 [] Value.none Value.none Value.none (Value.str (Str.ofString "vectorcove.rational") 441) none (Value.ref 266) Value.none 0)) #[])
noncomputable def o316 (P : Params) : Obj := (Obj.mk (Value.type "tuple") none (Data.seq #[] 0) #[])
noncomputable def o317 (P : Params) : Obj := (Obj.mk Value.none none (Data.fields #[]) #[])
noncomputable def o318 (P : Params) : Obj := (Obj.mk (Value.type "tuple") none (Data.seq #[(Value.str (Str.ofString "x") 530), (Value.str (Str.ofString "n") 531), (Value.str (Str.ofString "d") 532), (Value.str (Str.ofString "e") 533)] 0) #[])
noncomputable def o319 (P : Params) : Obj := (Obj.mk (Value.type "tuple") none (Data.seq #[] 0) #[])
noncomputable def o320 (P : Params) : Obj := (Obj.mk Value.none none (Data.func (FuncData.mk (Str.ofString "exponent") (Str.ofString "exponent") (fA (c 32)) (FuncBody.stmts (fB (c 32))) (fS (c 32)) 0 [] Value.none Value.none Value.none Value.none none Value.none Value.none 0)) #[])
noncomputable def o321 (P : Params) : Obj := (Obj.mk (Value.type "code") none (Data.fields #[(Value.str (Str.ofString "exponent") 527), (Value.str (Str.ofString "exponent") 528), (Value.str (Str.ofString "/claim/cut.py") 529), (Value.int 186 0), (Value.int 1 0), (Value.int 0 0), (Value.int 0 0), (Value.int 3 0), (Value.ref 268), (Value.bool Bool.true), (Value.int 181 0), (Value.ref 269), Value.none, (Value.ref 270), (Value.ref 271), (Value.ref 272), (Value.int 534 0), (Value.int 186 0), (Value.str (Str.ofString "/claim/cut.py") 535)]) #[])
noncomputable def o322 (P : Params) : Obj := (Obj.mk (Value.type "function") none (Data.func (FuncData.mk (Str.ofString "exponent") (Str.ofString "exponent") (fA (c 32)) (FuncBody.stmts (fB (c 32))) (fS (c 32)) 3 [] Value.none Value.none Value.none (Value.str (Str.ofString "vectorcove.rational") 441) none (Value.ref 273) Value.none 0)) #[])
noncomputable def o323 (P : Params) : Obj := (Obj.mk (Value.type "tuple") none (Data.seq #[] 0) #[])
noncomputable def o324 (P : Params) : Obj := (Obj.mk Value.none none (Data.fields #[]) #[])
noncomputable def o325 (P : Params) : Obj := (Obj.mk (Value.type "tuple") none (Data.seq #[(Value.str (Str.ofString "x") 540), (Value.str (Str.ofString "digits") 541)] 0) #[])
noncomputable def o326 (P : Params) : Obj := (Obj.mk (Value.type "tuple") none (Data.seq #[] 0) #[])
noncomputable def o327 (P : Params) : Obj := (Obj.mk Value.none none (Data.func (FuncData.mk (Str.ofString "signif") (Str.ofString "signif") (fA (c 33)) (FuncBody.stmts (fB (c 33))) (fS (c 33)) 0 [] Value.none Value.none Value.none Value.none none Value.none Value.none 0)) #[])
noncomputable def o328 (P : Params) : Obj := (Obj.mk (Value.type "code") none (Data.fields #[(Value.str (Str.ofString "signif") 537), (Value.str (Str.ofString "signif") 538), (Value.str (Str.ofString "/claim/cut.py") 539), (Value.int 197 0), (Value.int 2 0), (Value.int 0 0), (Value.int 0 0), (Value.int 3 0), (Value.ref 275), (Value.bool Bool.true), (Value.int 181 0), (Value.ref 276), Value.none, (Value.ref 277), (Value.ref 278), (Value.ref 279), (Value.int 542 0), (Value.int 197 0), (Value.str (Str.ofString "/claim/cut.py") 543)]) #[])
noncomputable def o329 (P : Params) : Obj := (Obj.mk (Value.type "function") none (Data.func (FuncData.mk (Str.ofString "signif") (Str.ofString "signif") (fA (c 33)) (FuncBody.stmts (fB (c 33))) (fS (c 33)) 3 [] Value.none Value.none Value.none (Value.str (Str.ofString "vectorcove.rational") 441) none (Value.ref 280) Value.none 0)) #[])
noncomputable def o330 (P : Params) : Obj := (Obj.mk (Value.type "tuple") none (Data.seq #[] 0) #[])
noncomputable def o331 (P : Params) : Obj := (Obj.mk Value.none none (Data.fields #[]) #[])
noncomputable def o332 (P : Params) : Obj := (Obj.mk (Value.type "tuple") none (Data.seq #[(Value.str (Str.ofString "v") 553)] 0) #[])
noncomputable def o333 (P : Params) : Obj := (Obj.mk (Value.type "tuple") none (Data.seq #[] 0) #[])
noncomputable def o334 (P : Params) : Obj := (Obj.mk Value.none none (Data.func (FuncData.mk (Str.ofString "check_math") (Str.ofString "check_math") (fA (c 36)) (FuncBody.stmts (fB (c 36))) (fS (c 36)) 0 [] Value.none Value.none Value.none Value.none none Value.none Value.none 0)) #[])
noncomputable def o335 (P : Params) : Obj := (Obj.mk (Value.type "code") none (Data.fields #[(Value.str (Str.ofString "check_math") 550), (Value.str (Str.ofString "check_math") 551), (Value.str (Str.ofString "/claim/cut.py") 552), (Value.int 203 0), (Value.int 1 0), (Value.int 0 0), (Value.int 0 0), (Value.int 3 0), (Value.ref 282), (Value.bool Bool.true), (Value.int 181 0), (Value.ref 283), Value.none, (Value.ref 284), (Value.ref 285), (Value.ref 286), (Value.int 554 0), (Value.int 203 0), (Value.str (Str.ofString "/claim/cut.py") 555)]) #[])
noncomputable def o336 (P : Params) : Obj := (Obj.mk (Value.type "function") none (Data.func (FuncData.mk (Str.ofString "check_math") (Str.ofString "check_math") (fA (c 36)) (FuncBody.stmts (fB (c 36))) (fS (c 36)) 3 [] Value.none Value.none Value.none (Value.str (Str.ofString "vectorcove.mathfun") 545) none (Value.ref 287) Value.none 0)) #[])
noncomputable def o337 (P : Params) : Obj := (Obj.mk (Value.type "tuple") none (Data.seq #[] 0) #[])
noncomputable def o338 (P : Params) : Obj := (Obj.mk Value.none none (Data.fields #[]) #[])
noncomputable def o339 (P : Params) : Obj := (Obj.mk Value.none none (Data.func (FuncData.mk (Str.ofString "doubles") (Str.ofString "doubles") (fA (c 37)) (FuncBody.stmts (fB (c 37))) (fS (c 37)) 0 [] Value.none Value.none Value.none Value.none none Value.none Value.none 0)) #[])
noncomputable def o340 (P : Params) : Obj := (Obj.mk (Value.type "code") none (Data.fields #[(Value.str (Str.ofString "doubles") 557), (Value.str (Str.ofString "doubles") 558), (Value.str (Str.ofString "/claim/cut.py") 559), (Value.int 206 0), (Value.int 1 0), (Value.int 0 0), (Value.int 0 0), (Value.int 3 0), (Value.ref 289), (Value.bool Bool.true), (Value.int 181 0), (Value.ref 290), Value.none, Value.none, Value.none, (Value.ref 291), (Value.int 560 0), (Value.int 206 0), (Value.str (Str.ofString "/claim/cut.py") 561)]) #[])
noncomputable def o341 (P : Params) : Obj := (Obj.mk (Value.type "function") none (Data.func (FuncData.mk (Str.ofString "doubles") (Str.ofString "doubles") (fA (c 37)) (FuncBody.stmts (fB (c 37))) (fS (c 37)) 3 [] Value.none Value.none Value.none (Value.str (Str.ofString "vectorcove.mathfun") 545) none (Value.ref 292) Value.none 0)) #[])
noncomputable def o342 (P : Params) : Obj := (Obj.mk (Value.type "tuple") none (Data.seq #[] 0) #[])
noncomputable def o343 (P : Params) : Obj := (Obj.mk Value.none none (Data.fields #[]) #[])
noncomputable def o344 (P : Params) : Obj := (Obj.mk Value.none none (Data.func (FuncData.mk (Str.ofString "round_to") (Str.ofString "round_to") (fA (c 38)) (FuncBody.stmts (fB (c 38))) (fS (c 38)) 0 [] Value.none Value.none Value.none Value.none none Value.none Value.none 0)) #[])
noncomputable def o345 (P : Params) : Obj := (Obj.mk (Value.type "code") none (Data.fields #[(Value.str (Str.ofString "round_to") 563), (Value.str (Str.ofString "round_to") 564), (Value.str (Str.ofString "/claim/cut.py") 565), (Value.int 210 0), (Value.int 2 0), (Value.int 0 0), (Value.int 0 0), (Value.int 3 0), (Value.ref 294), (Value.bool Bool.true), (Value.int 181 0), (Value.ref 295), Value.none, Value.none, Value.none, (Value.ref 296), (Value.int 566 0), (Value.int 210 0), (Value.str (Str.ofString "/claim/cut.py") 567)]) #[])
noncomputable def o346 (P : Params) : Obj := (Obj.mk (Value.type "function") none (Data.func (FuncData.mk (Str.ofString "round_to") (Str.ofString "round_to") (fA (c 38)) (FuncBody.stmts (fB (c 38))) (fS (c 38)) 3 [] Value.none Value.none Value.none (Value.str (Str.ofString "vectorcove.mathfun") 545) none (Value.ref 297) Value.none 0)) #[])
noncomputable def o347 (P : Params) : Obj := (Obj.mk (Value.type "tuple") none (Data.seq #[] 0) #[])
noncomputable def o348 (P : Params) : Obj := (Obj.mk Value.none none (Data.fields #[]) #[])
noncomputable def o349 (P : Params) : Obj := (Obj.mk Value.none none (Data.func (FuncData.mk (Str.ofString "signif_to") (Str.ofString "signif_to") (fA (c 39)) (FuncBody.stmts (fB (c 39))) (fS (c 39)) 0 [] Value.none Value.none Value.none Value.none none Value.none Value.none 0)) #[])
noncomputable def o350 (P : Params) : Obj := (Obj.mk (Value.type "code") none (Data.fields #[(Value.str (Str.ofString "signif_to") 569), (Value.str (Str.ofString "signif_to") 570), (Value.str (Str.ofString "/claim/cut.py") 571), (Value.int 217 0), (Value.int 2 0), (Value.int 0 0), (Value.int 0 0), (Value.int 3 0), (Value.ref 299), (Value.bool Bool.true), (Value.int 181 0), (Value.ref 300), Value.none, Value.none, Value.none, (Value.ref 301), (Value.int 572 0), (Value.int 217 0), (Value.str (Str.ofString "/claim/cut.py") 573)]) #[])
noncomputable def o351 (P : Params) : Obj := (Obj.mk (Value.type "function") none (Data.func (FuncData.mk (Str.ofString "signif_to") (Str.ofString "signif_to") (fA (c 39)) (FuncBody.stmts (fB (c 39))) (fS (c 39)) 3 [] Value.none Value.none Value.none (Value.str (Str.ofString "vectorcove.mathfun") 545) none (Value.ref 302) Value.none 0)) #[])
noncomputable def o352 (P : Params) : Obj := (Obj.mk (Value.type "tuple") none (Data.seq #[] 0) #[])
noncomputable def o353 (P : Params) : Obj := (Obj.mk Value.none none (Data.fields #[]) #[])
noncomputable def o354 (P : Params) : Obj := (Obj.mk (Value.type "tuple") none (Data.seq #[(Value.str (Str.ofString "x") 580), (Value.str (Str.ofString "result") 581)] 0) #[])
noncomputable def o355 (P : Params) : Obj := (Obj.mk (Value.type "tuple") none (Data.seq #[] 0) #[])
noncomputable def o356 (P : Params) : Obj := (Obj.mk Value.none none (Data.func (FuncData.mk (Str.ofString "kept_beside") (Str.ofString "kept_beside") (fA (c 41)) (FuncBody.stmts (fB (c 41))) (fS (c 41)) 0 [] Value.none Value.none Value.none Value.none none Value.none Value.none 0)) #[])
noncomputable def o357 (P : Params) : Obj := (Obj.mk (Value.type "code") none (Data.fields #[(Value.str (Str.ofString "kept_beside") 577), (Value.str (Str.ofString "kept_beside") 578), (Value.str (Str.ofString "/claim/cut.py") 579), (Value.int 223 0), (Value.int 2 0), (Value.int 0 0), (Value.int 0 0), (Value.int 3 0), (Value.ref 304), (Value.bool Bool.true), (Value.int 181 0), (Value.ref 305), Value.none, (Value.ref 306), (Value.ref 307), (Value.ref 308), (Value.int 582 0), (Value.int 223 0), (Value.str (Str.ofString "/claim/cut.py") 583)]) #[])
noncomputable def o358 (P : Params) : Obj := (Obj.mk (Value.type "function") none (Data.func (FuncData.mk (Str.ofString "kept_beside") (Str.ofString "kept_beside") (fA (c 41)) (FuncBody.stmts (fB (c 41))) (fS (c 41)) 3 [] Value.none Value.none Value.none (Value.str (Str.ofString "vectorcove.arithcalls") 575) none (Value.ref 309) Value.none 0)) #[])
noncomputable def o359 (P : Params) : Obj := (Obj.mk (Value.type "dict") none (Data.dict #[(DictEntry.mk (PyData.keyHash P (Str.ofString "__name__")) (Value.str (Str.ofString "__name__") 165) (Value.str (Str.ofString "law_pq1404_01") 620)), (DictEntry.mk (PyData.keyHash P (Str.ofString "__doc__")) (Value.str (Str.ofString "__doc__") 166) Value.none), (DictEntry.mk (PyData.keyHash P (Str.ofString "__package__")) (Value.str (Str.ofString "__package__") 167) Value.none), (DictEntry.mk (PyData.keyHash P (Str.ofString "__loader__")) (Value.str (Str.ofString "__loader__") 168) (Value.builtin "__main__.__loader__#opaque")), (DictEntry.mk (PyData.keyHash P (Str.ofString "__spec__")) (Value.str (Str.ofString "__spec__") 169) Value.none), (DictEntry.mk (PyData.keyHash P (Str.ofString "__annotations__")) (Value.str (Str.ofString "__annotations__") 170) (Value.ref 6)), (DictEntry.mk (PyData.keyHash P (Str.ofString "__builtins__")) (Value.str (Str.ofString "__builtins__") 171) (Value.ref 4)), (DictEntry.mk (PyData.keyHash P (Str.ofString "__file__")) (Value.str (Str.ofString "__file__") 173) (Value.str (Str.ofString "/claim/cut.py") 172)), (DictEntry.mk (PyData.keyHash P (Str.ofString "__cached__")) (Value.str (Str.ofString "__cached__") 174) Value.none), (DictEntry.mk (PyData.keyHash P (Str.ofString "_wall")) (Value.str (Str.ofString "_wall") 193) (Value.ref 21)), (DictEntry.mk (PyData.keyHash P (Str.ofString "recycle_length")) (Value.str (Str.ofString "recycle_length") 203) (Value.ref 28)), (DictEntry.mk (PyData.keyHash P (Str.ofString "keep_all")) (Value.str (Str.ofString "keep_all") 211) (Value.ref 35)), (DictEntry.mk (PyData.keyHash P (Str.ofString "CoveError")) (Value.str (Str.ofString "CoveError") 233) (Value.ref 45)), (DictEntry.mk (PyData.keyHash P (Str.ofString "Refusal")) (Value.str (Str.ofString "Refusal") 258) (Value.ref 65)), (DictEntry.mk (PyData.keyHash P (Str.ofString "Vector")) (Value.str (Str.ofString "Vector") 302) (Value.ref 92)), (DictEntry.mk (PyData.keyHash P (Str.ofString "Matching")) (Value.str (Str.ofString "Matching") 387) (Value.ref 153)), (DictEntry.mk (PyData.keyHash P (Str.ofString "doubled_text")) (Value.str (Str.ofString "doubled_text") 394) (Value.ref 164)), (DictEntry.mk (PyData.keyHash P (Str.ofString "argument_text")) (Value.str (Str.ofString "argument_text") 406) (Value.ref 171)), (DictEntry.mk (PyData.keyHash P (Str.ofString "plain_text")) (Value.str (Str.ofString "plain_text") 414) (Value.ref 178)), (DictEntry.mk (PyData.keyHash P (Str.ofString "unused_text")) (Value.str (Str.ofString "unused_text") 420) (Value.ref 183)), (DictEntry.mk (PyData.keyHash P (Str.ofString "match_names")) (Value.str (Str.ofString "match_names") 426) (Value.ref 189)), (DictEntry.mk (PyData.keyHash P (Str.ofString "needed")) (Value.str (Str.ofString "needed") 434) (Value.ref 196)), (DictEntry.mk (PyData.keyHash P (Str.ofString "take")) (Value.str (Str.ofString "take") 440) (Value.ref 202)), (DictEntry.mk (PyData.keyHash P (Str.ofString "NAN")) (Value.str (Str.ofString "NAN") 445) (Value.ref 203)), (DictEntry.mk (PyData.keyHash P (Str.ofString "ZERO")) (Value.str (Str.ofString "ZERO") 448) (Value.ref 204)), (DictEntry.mk (PyData.keyHash P (Str.ofString "MOST_FIGURES")) (Value.str (Str.ofString "MOST_FIGURES") 450) (Value.int 5000 449)), (DictEntry.mk (PyData.keyHash P (Str.ofString "MOST_PART")) (Value.str (Str.ofString "MOST_PART") 453) (Value.int 100000000000000000000000000000000000000000000000000000000000000000000000000000000000000000000000000000000000000000000000000000000000000000000000000000000000000000000000000000000000000000000000000000000000000000000000000000000000000000000000000000000000000000000000000000000000000000000000000000000000000000000000000000000000000000000000000000000000000000000000000000000000000000000000000000000000000000000000000000000000000000000000000000000000000000000000000000000000000000000000000000000000000000000000000000000000000000000000000000000000000000000000000000000000000000000000000000000000000000000000000000000000000000000000000000000000000000000000000000000000000000000000000000000000000000000000000000000000000000000000000000000000000000000000000000000000000000000000000000000000000000000000000000000000000000000000000000000000000000000000000000000000000000000000000000000000000000000000000000000000000000000000000000000000000000000000000000000000000000000000000000000000000000000000000000000000000000000000000000000000000000000000000000000000000000000000000000000000000000000000000000000000000000000000000000000000000000000000000000000000000000000000000000000000000000000000000000000000000000000000000000000000000000000000000000000000000000000000000000000000000000000000000000000000000000000000000000000000000000000000000000000000000000000000000000000000000000000000000000000000000000000000000000000000000000000000000000000000000000000000000000000000000000000000000000000000000000000000000000000000000000000000000000000000000000000000000000000000000000000000000000000000000000000000000000000000000000000000000000000000000000000000000000000000000000000000000000000000000000000000000000000000000000000000000000000000000000000000000000000000000000000000000000000000000000000000000000000000000000000000000000000000000000000000000000000000000000000000000000000000000000000000000000000000000000000000000000000000000000000000000000000000000000000000000000000000000000000000000000000000000000000000000000000000000000000000000000000000000000000000000000000000000000000000000000000000000000000000000000000000000000000000000000000000000000000000000000000000000000000000000000000000000000000000000000000000000000000000000000000000000000000000000000000000000000000000000000000000000000000000000000000000000000000000000000000000000000000000000000000000000000000000000000000000000000000000000000000000000000000000000000000000000000000000000000000000000000000000000000000000000000000000000000000000000000000000000000000000000000000000000000000000000000000000000000000000000000000000000000000000000000000000000000000000000000000000000000000000000000000000000000000000000000000000000000000000000000000000000000000000000000000000000000000000000000000000000000000000000000000000000000000000000000000000000000000000000000000000000000000000000000000000000000000000000000000000000000000000000000000000000000000000000000000000000000000000000000000000000000000000000000000000000000000000000000000000000000000000000000000000000000000000000000000000000000000000000000000000000000000000000000000000000000000000000000000000000000000000000000000000000000000000000000000000000000000000000000000000000000000000000000000000000000000000000000000000000000000000000000000000000000000000000000000000000000000000000000000000000000000000000000000000000000000000000000000000000000000000000000000000000000000000000000000000000000000000000000000000000000000000000000000000000000000000000000000000000000000000000000000000000000000000000000000000000000000000000000000000000000000000000000000000000000000000000000000000000000000000000000000000000000000000000000000000000000000000000000000000000000000000000000000000000000000000000000000000000000000000000000000000000000000000000000000000000000000000000000000000000000000000000000000000000000000000000000000000000000000000000000000000000000000000000000000000000000000000000000000000000000000000000000000000000000000000000000000000000000000000000000000000000000000000000000000000000000000000000000000000000000000000000000000000000000000000000000000000000000000000000000000000000000000000000000000000000000000000000000000000000000000000000000000000000000000000000000000000000000000000000000000000000000000000000000000000000000000000000000000000000000000000000000000000000000000000000000000000000000000000000000000000000000000000000000000000000000000000000000000000000000000000000000000000000000000000000000000000000000000000000000000000000000000000000000000000000000000000000000000000000000000000000000000000000000000000000000000000000000000000000000000000000000000000000000000000000000000000000000000000000000000000000000000000000000000000000000000000000000000000000000000000000000000000000000000000000000000000000000000000000000000000000000000000000000000000000000000000000000000000000000000000000000000000000000000000000000000000000000000000000000000000000000000000000000000000000000000000000000000000000000000000000000000000000000000000000000000000000000000000000000000000000000000000000000000 452)), (DictEntry.mk (PyData.keyHash P (Str.ofString "gcd")) (Value.str (Str.ofString "gcd") 461) (Value.ref 211)), (DictEntry.mk (PyData.keyHash P (Str.ofString "bounded")) (Value.str (Str.ofString "bounded") 469) (Value.ref 218)), (DictEntry.mk (PyData.keyHash P (Str.ofString "make")) (Value.str (Str.ofString "make") 478) (Value.ref 225)), (DictEntry.mk (PyData.keyHash P (Str.ofString "from_int")) (Value.str (Str.ofString "from_int") 485) (Value.ref 232)), (DictEntry.mk (PyData.keyHash P (Str.ofString "is_na")) (Value.str (Str.ofString "is_na") 492) (Value.ref 239)), (DictEntry.mk (PyData.keyHash P (Str.ofString "is_finite")) (Value.str (Str.ofString "is_finite") 499) (Value.ref 246)), (DictEntry.mk (PyData.keyHash P (Str.ofString "nearest_whole")) (Value.str (Str.ofString "nearest_whole") 509) (Value.ref 253)), (DictEntry.mk (PyData.keyHash P (Str.ofString "rounded")) (Value.str (Str.ofString "rounded") 518) (Value.ref 260)), (DictEntry.mk (PyData.keyHash P (Str.ofString "round_half_even")) (Value.str (Str.ofString "round_half_even") 526) (Value.ref 267)), (DictEntry.mk (PyData.keyHash P (Str.ofString "exponent")) (Value.str (Str.ofString "exponent") 536) (Value.ref 274)), (DictEntry.mk (PyData.keyHash P (Str.ofString "signif")) (Value.str (Str.ofString "signif") 544) (Value.ref 281)), (DictEntry.mk (PyData.keyHash P (Str.ofString "LEAST_PLACES")) (Value.str (Str.ofString "LEAST_PLACES") 549) (Value.int (-5001) 548)), (DictEntry.mk (PyData.keyHash P (Str.ofString "check_math")) (Value.str (Str.ofString "check_math") 556) (Value.ref 288)), (DictEntry.mk (PyData.keyHash P (Str.ofString "doubles")) (Value.str (Str.ofString "doubles") 562) (Value.ref 293)), (DictEntry.mk (PyData.keyHash P (Str.ofString "round_to")) (Value.str (Str.ofString "round_to") 568) (Value.ref 298)), (DictEntry.mk (PyData.keyHash P (Str.ofString "signif_to")) (Value.str (Str.ofString "signif_to") 574) (Value.ref 303)), (DictEntry.mk (PyData.keyHash P (Str.ofString "kept_beside")) (Value.str (Str.ofString "kept_beside") 584) (Value.ref 310)), (DictEntry.mk (PyData.keyHash P (Str.ofString "digit_counts")) (Value.str (Str.ofString "digit_counts") 593) (Value.ref 317)), (DictEntry.mk (PyData.keyHash P (Str.ofString "rounding_def")) (Value.str (Str.ofString "rounding_def") 604) (Value.ref 324)), (DictEntry.mk (PyData.keyHash P (Str.ofString "rounded_vector")) (Value.str (Str.ofString "rounded_vector") 619) (Value.ref 331)), (DictEntry.mk (PyData.keyHash P (Str.ofString "_law_coins")) (Value.str (Str.ofString "_law_coins") 632) (Value.ref 338)), (DictEntry.mk (PyData.keyHash P (Str.ofString "_law_coin")) (Value.str (Str.ofString "_law_coin") 640) (Value.ref 345)), (DictEntry.mk (PyData.keyHash P (Str.ofString "_law_least")) (Value.str (Str.ofString "_law_least") 650) (Value.ref 352)), (DictEntry.mk (PyData.keyHash P (Str.ofString "_law_entry")) (Value.str (Str.ofString "_law_entry") 658) (Value.ref 359)), (DictEntry.mk (PyData.keyHash P (Str.ofString "_law_digits")) (Value.str (Str.ofString "_law_digits") 666) (Value.ref 366)), (DictEntry.mk (PyData.keyHash P (Str.ofString "_law_due")) (Value.str (Str.ofString "_law_due") 680) (Value.ref 373)), (DictEntry.mk (PyData.keyHash P (Str.ofString "law")) (Value.str (Str.ofString "law") 686) (Value.ref 378))] 54) #[])
noncomputable def o360 (P : Params) : Obj := (Obj.mk Value.none none (Data.fields #[(Value.int 1 0), (Value.int 0 0), (Value.ref 20), (Value.int 5 0), (Value.int 0 0), (Value.ref 27), (Value.int 9 0), (Value.int 0 0), (Value.ref 34), (Value.int 14 0), (Value.int 0 0), (Value.ref 41), (Value.int 16 0), (Value.int 0 0), (Value.ref 54), (Value.int 21 0), (Value.int 0 0), (Value.ref 73), (Value.int 33 0), (Value.int 0 0), (Value.ref 102), (Value.int 86 0), (Value.int 0 0), (Value.ref 163), (Value.int 88 0), (Value.int 0 0), (Value.ref 170), (Value.int 94 0), (Value.int 0 0), (Value.ref 177), (Value.int 109 0), (Value.int 0 0), (Value.ref 182), (Value.int 115 0), (Value.int 0 0), (Value.ref 188), (Value.int 124 0), (Value.int 0 0), (Value.ref 195), (Value.int 128 0), (Value.int 0 0), (Value.ref 201), (Value.int 144 0), (Value.int 0 0), (Value.ref 210), (Value.int 148 0), (Value.int 0 0), (Value.ref 217), (Value.int 152 0), (Value.int 0 0), (Value.ref 224), (Value.int 162 0), (Value.int 0 0), (Value.ref 231), (Value.int 166 0), (Value.int 0 0), (Value.ref 238), (Value.int 168 0), (Value.int 0 0), (Value.ref 245), (Value.int 170 0), (Value.int 0 0), (Value.ref 252), (Value.int 176 0), (Value.int 0 0), (Value.ref 259), (Value.int 182 0), (Value.int 0 0), (Value.ref 266), (Value.int 186 0), (Value.int 0 0), (Value.ref 273), (Value.int 197 0), (Value.int 0 0), (Value.ref 280), (Value.int 203 0), (Value.int 0 0), (Value.ref 287), (Value.int 206 0), (Value.int 0 0), (Value.ref 292), (Value.int 210 0), (Value.int 0 0), (Value.ref 297), (Value.int 217 0), (Value.int 0 0), (Value.ref 302), (Value.int 223 0), (Value.int 0 0), (Value.ref 309), (Value.int 227 0), (Value.int 0 0), (Value.ref 316), (Value.int 238 0), (Value.int 0 0), (Value.ref 323), (Value.int 250 0), (Value.int 0 0), (Value.ref 330), (Value.int 263 0), (Value.int 0 0), (Value.ref 337), (Value.int 275 0), (Value.int 0 0), (Value.ref 344), (Value.int 277 0), (Value.int 0 0), (Value.ref 351), (Value.int 283 0), (Value.int 0 0), (Value.ref 358), (Value.int 288 0), (Value.int 0 0), (Value.ref 365), (Value.int 293 0), (Value.int 0 0), (Value.ref 372), (Value.int 313 0), (Value.int 0 0), (Value.ref 377)]) #[])
noncomputable def o361 (P : Params) : Obj := (Obj.mk (Value.type "tuple") none (Data.seq #[] 0) #[])
noncomputable def o362 (P : Params) : Obj := (Obj.mk Value.none none (Data.fields #[]) #[])
noncomputable def o363 (P : Params) : Obj := (Obj.mk (Value.type "tuple") none (Data.seq #[(Value.str (Str.ofString "v") 588), (Value.str (Str.ofString "found") 589), (Value.str (Str.ofString "item") 590)] 0) #[])
noncomputable def o364 (P : Params) : Obj := (Obj.mk (Value.type "tuple") none (Data.seq #[] 0) #[])
noncomputable def o365 (P : Params) : Obj := (Obj.mk Value.none none (Data.func (FuncData.mk (Str.ofString "digit_counts") (Str.ofString "digit_counts") (fA (c 42)) (FuncBody.stmts (fB (c 42))) (fS (c 42)) 0 [] Value.none Value.none Value.none Value.none none Value.none Value.none 0)) #[])
noncomputable def o366 (P : Params) : Obj := (Obj.mk (Value.type "code") none (Data.fields #[(Value.str (Str.ofString "digit_counts") 585), (Value.str (Str.ofString "digit_counts") 586), (Value.str (Str.ofString "/claim/cut.py") 587), (Value.int 227 0), (Value.int 1 0), (Value.int 0 0), (Value.int 0 0), (Value.int 3 0), (Value.ref 311), (Value.bool Bool.true), (Value.int 181 0), (Value.ref 312), Value.none, (Value.ref 313), (Value.ref 314), (Value.ref 315), (Value.int 591 0), (Value.int 227 0), (Value.str (Str.ofString "/claim/cut.py") 592)]) #[])
noncomputable def o367 (P : Params) : Obj := (Obj.mk (Value.type "function") none (Data.func (FuncData.mk (Str.ofString "digit_counts") (Str.ofString "digit_counts") (fA (c 42)) (FuncBody.stmts (fB (c 42))) (fS (c 42)) 3 [] Value.none Value.none Value.none (Value.str (Str.ofString "vectorcove.arithcalls") 575) none (Value.ref 316) Value.none 0)) #[])
noncomputable def o368 (P : Params) : Obj := (Obj.mk (Value.type "tuple") none (Data.seq #[] 0) #[])
noncomputable def o369 (P : Params) : Obj := (Obj.mk Value.none none (Data.fields #[]) #[])
noncomputable def o370 (P : Params) : Obj := (Obj.mk (Value.type "tuple") none (Data.seq #[(Value.str (Str.ofString "name") 597), (Value.str (Str.ofString "usual") 598), (Value.str (Str.ofString "b_rounding") 599)] 0) #[])
noncomputable def o371 (P : Params) : Obj := (Obj.mk (Value.type "tuple") none (Data.seq #[(Value.str (Str.ofString "name") 600), (Value.str (Str.ofString "usual") 601)] 0) #[])
noncomputable def o372 (P : Params) : Obj := (Obj.mk Value.none none (Data.func (FuncData.mk (Str.ofString "rounding_def") (Str.ofString "rounding_def") (fA (c 43)) (FuncBody.stmts (fB (c 43))) (fS (c 43)) 0 [] Value.none Value.none Value.none Value.none none Value.none Value.none 0)) #[])
noncomputable def o373 (P : Params) : Obj := (Obj.mk (Value.type "code") none (Data.fields #[(Value.str (Str.ofString "rounding_def") 594), (Value.str (Str.ofString "rounding_def") 595), (Value.str (Str.ofString "/claim/cut.py") 596), (Value.int 238 0), (Value.int 2 0), (Value.int 0 0), (Value.int 0 0), (Value.int 3 0), (Value.ref 318), (Value.bool Bool.true), (Value.int 181 0), (Value.ref 319), Value.none, (Value.ref 320), (Value.ref 321), (Value.ref 322), (Value.int 602 0), (Value.int 238 0), (Value.str (Str.ofString "/claim/cut.py") 603)]) #[])
noncomputable def o374 (P : Params) : Obj := (Obj.mk (Value.type "function") none (Data.func (FuncData.mk (Str.ofString "rounding_def") (Str.ofString "rounding_def") (fA (c 43)) (FuncBody.stmts (fB (c 43))) (fS (c 43)) 3 [] Value.none Value.none Value.none (Value.str (Str.ofString "vectorcove.arithcalls") 575) none (Value.ref 323) Value.none 0)) #[])
noncomputable def o375 (P : Params) : Obj := (Obj.mk (Value.type "tuple") none (Data.seq #[] 0) #[])
noncomputable def o376 (P : Params) : Obj := (Obj.mk Value.none none (Data.fields #[]) #[])
noncomputable def o377 (P : Params) : Obj := (Obj.mk (Value.type "tuple") none (Data.seq #[(Value.str (Str.ofString "name") 608), (Value.str (Str.ofString "x") 609), (Value.str (Str.ofString "places") 610), (Value.str (Str.ofString "rounding") 611), (Value.str (Str.ofString "given") 612), (Value.str (Str.ofString "found") 613), (Value.str (Str.ofString "i") 614), (Value.str (Str.ofString "digits") 615), (Value.str (Str.ofString "one") 616)] 0) #[])
noncomputable def o378 (P : Params) : Obj := (Obj.mk (Value.type "tuple") none (Data.seq #[] 0) #[])
noncomputable def o379 (P : Params) : Obj := (Obj.mk Value.none none (Data.func (FuncData.mk (Str.ofString "rounded_vector") (Str.ofString "rounded_vector") (fA (c 44)) (FuncBody.stmts (fB (c 44))) (fS (c 44)) 0 [] Value.none Value.none Value.none Value.none none Value.none Value.none 0)) #[])
noncomputable def o380 (P : Params) : Obj := (Obj.mk (Value.type "code") none (Data.fields #[(Value.str (Str.ofString "rounded_vector") 605), (Value.str (Str.ofString "rounded_vector") 606), (Value.str (Str.ofString "/claim/cut.py") 607), (Value.int 250 0), (Value.int 3 0), (Value.int 0 0), (Value.int 0 0), (Value.int 3 0), (Value.ref 325), (Value.bool Bool.true), (Value.int 181 0), (Value.ref 326), Value.none, (Value.ref 327), (Value.ref 328), (Value.ref 329), (Value.int 617 0), (Value.int 250 0), (Value.str (Str.ofString "/claim/cut.py") 618)]) #[])
noncomputable def o381 (P : Params) : Obj := (Obj.mk (Value.type "function") none (Data.func (FuncData.mk (Str.ofString "rounded_vector") (Str.ofString "rounded_vector") (fA (c 44)) (FuncBody.stmts (fB (c 44))) (fS (c 44)) 3 [] Value.none Value.none Value.none (Value.str (Str.ofString "vectorcove.arithcalls") 575) none (Value.ref 330) Value.none 0)) #[])
noncomputable def o382 (P : Params) : Obj := (Obj.mk (Value.type "tuple") none (Data.seq #[] 0) #[])
noncomputable def o383 (P : Params) : Obj := (Obj.mk Value.none none (Data.fields #[]) #[])
noncomputable def o384 (P : Params) : Obj := (Obj.mk (Value.type "tuple") none (Data.seq #[(Value.str (Str.ofString "script") 625), (Value.str (Str.ofString "coins") 626), (Value.str (Str.ofString "cell") 627), (Value.str (Str.ofString "load") 628), (Value.str (Str.ofString "lap") 629)] 0) #[])
noncomputable def o385 (P : Params) : Obj := (Obj.mk (Value.type "tuple") none (Data.seq #[] 0) #[])
noncomputable def o386 (P : Params) : Obj := (Obj.mk Value.none none (Data.func (FuncData.mk (Str.ofString "_law_coins") (Str.ofString "_law_coins") (fA (c 46)) (FuncBody.stmts (fB (c 46))) (fS (c 46)) 0 [] Value.none Value.none Value.none Value.none none Value.none Value.none 0)) #[])
noncomputable def o387 (P : Params) : Obj := (Obj.mk (Value.type "code") none (Data.fields #[(Value.str (Str.ofString "_law_coins") 622), (Value.str (Str.ofString "_law_coins") 623), (Value.str (Str.ofString "/claim/cut.py") 624), (Value.int 263 0), (Value.int 1 0), (Value.int 0 0), (Value.int 0 0), (Value.int 3 0), (Value.ref 332), (Value.bool Bool.true), (Value.int 181 0), (Value.ref 333), Value.none, (Value.ref 334), (Value.ref 335), (Value.ref 336), (Value.int 630 0), (Value.int 263 0), (Value.str (Str.ofString "/claim/cut.py") 631)]) #[])
noncomputable def o388 (P : Params) : Obj := (Obj.mk (Value.type "function") none (Data.func (FuncData.mk (Str.ofString "_law_coins") (Str.ofString "_law_coins") (fA (c 46)) (FuncBody.stmts (fB (c 46))) (fS (c 46)) 3 [] Value.none Value.none Value.none (Value.str (Str.ofString "law_pq1404_01") 620) none (Value.ref 337) Value.none 0)) #[])
noncomputable def o389 (P : Params) : Obj := (Obj.mk (Value.type "tuple") none (Data.seq #[] 0) #[])
noncomputable def o390 (P : Params) : Obj := (Obj.mk Value.none none (Data.fields #[]) #[])
noncomputable def o391 (P : Params) : Obj := (Obj.mk (Value.type "tuple") none (Data.seq #[(Value.str (Str.ofString "coins") 636), (Value.str (Str.ofString "many") 637)] 0) #[])
noncomputable def o392 (P : Params) : Obj := (Obj.mk (Value.type "tuple") none (Data.seq #[] 0) #[])
noncomputable def o393 (P : Params) : Obj := (Obj.mk Value.none none (Data.func (FuncData.mk (Str.ofString "_law_coin") (Str.ofString "_law_coin") (fA (c 47)) (FuncBody.stmts (fB (c 47))) (fS (c 47)) 0 [] Value.none Value.none Value.none Value.none none Value.none Value.none 0)) #[])
noncomputable def o394 (P : Params) : Obj := (Obj.mk (Value.type "code") none (Data.fields #[(Value.str (Str.ofString "_law_coin") 633), (Value.str (Str.ofString "_law_coin") 634), (Value.str (Str.ofString "/claim/cut.py") 635), (Value.int 275 0), (Value.int 2 0), (Value.int 0 0), (Value.int 0 0), (Value.int 3 0), (Value.ref 339), (Value.bool Bool.true), (Value.int 181 0), (Value.ref 340), Value.none, (Value.ref 341), (Value.ref 342), (Value.ref 343), (Value.int 638 0), (Value.int 275 0), (Value.str (Str.ofString "/claim/cut.py") 639)]) #[])
noncomputable def o395 (P : Params) : Obj := (Obj.mk (Value.type "function") none (Data.func (FuncData.mk (Str.ofString "_law_coin") (Str.ofString "_law_coin") (fA (c 47)) (FuncBody.stmts (fB (c 47))) (fS (c 47)) 3 [] Value.none Value.none Value.none (Value.str (Str.ofString "law_pq1404_01") 620) none (Value.ref 344) Value.none 0)) #[])
noncomputable def o396 (P : Params) : Obj := (Obj.mk (Value.type "tuple") none (Data.seq #[] 0) #[])
noncomputable def o397 (P : Params) : Obj := (Obj.mk Value.none none (Data.fields #[]) #[])
noncomputable def o398 (P : Params) : Obj := (Obj.mk (Value.type "tuple") none (Data.seq #[(Value.str (Str.ofString "top") 644), (Value.str (Str.ofString "below") 645), (Value.str (Str.ofString "one") 646), (Value.str (Str.ofString "other") 647)] 0) #[])
noncomputable def o399 (P : Params) : Obj := (Obj.mk (Value.type "tuple") none (Data.seq #[] 0) #[])
noncomputable def o400 (P : Params) : Obj := (Obj.mk Value.none none (Data.func (FuncData.mk (Str.ofString "_law_least") (Str.ofString "_law_least") (fA (c 48)) (FuncBody.stmts (fB (c 48))) (fS (c 48)) 0 [] Value.none Value.none Value.none Value.none none Value.none Value.none 0)) #[])
noncomputable def o401 (P : Params) : Obj := (Obj.mk (Value.type "code") none (Data.fields #[(Value.str (Str.ofString "_law_least") 641), (Value.str (Str.ofString "_law_least") 642), (Value.str (Str.ofString "/claim/cut.py") 643), (Value.int 277 0), (Value.int 2 0), (Value.int 0 0), (Value.int 0 0), (Value.int 3 0), (Value.ref 346), (Value.bool Bool.true), (Value.int 181 0), (Value.ref 347), Value.none, (Value.ref 348), (Value.ref 349), (Value.ref 350), (Value.int 648 0), (Value.int 277 0), (Value.str (Str.ofString "/claim/cut.py") 649)]) #[])
noncomputable def o402 (P : Params) : Obj := (Obj.mk (Value.type "function") none (Data.func (FuncData.mk (Str.ofString "_law_least") (Str.ofString "_law_least") (fA (c 48)) (FuncBody.stmts (fB (c 48))) (fS (c 48)) 3 [] Value.none Value.none Value.none (Value.str (Str.ofString "law_pq1404_01") 620) none (Value.ref 351) Value.none 0)) #[])
noncomputable def o403 (P : Params) : Obj := (Obj.mk (Value.type "tuple") none (Data.seq #[] 0) #[])
noncomputable def o404 (P : Params) : Obj := (Obj.mk Value.none none (Data.fields #[]) #[])
noncomputable def o405 (P : Params) : Obj := (Obj.mk (Value.type "tuple") none (Data.seq #[(Value.str (Str.ofString "coins") 654), (Value.str (Str.ofString "draw") 655)] 0) #[])
noncomputable def o406 (P : Params) : Obj := (Obj.mk (Value.type "tuple") none (Data.seq #[] 0) #[])
noncomputable def o407 (P : Params) : Obj := (Obj.mk Value.none none (Data.func (FuncData.mk (Str.ofString "_law_entry") (Str.ofString "_law_entry") (fA (c 49)) (FuncBody.stmts (fB (c 49))) (fS (c 49)) 0 [] Value.none Value.none Value.none Value.none none Value.none Value.none 0)) #[])
noncomputable def o408 (P : Params) : Obj := (Obj.mk (Value.type "code") none (Data.fields #[(Value.str (Str.ofString "_law_entry") 651), (Value.str (Str.ofString "_law_entry") 652), (Value.str (Str.ofString "/claim/cut.py") 653), (Value.int 283 0), (Value.int 1 0), (Value.int 0 0), (Value.int 0 0), (Value.int 3 0), (Value.ref 353), (Value.bool Bool.true), (Value.int 181 0), (Value.ref 354), Value.none, (Value.ref 355), (Value.ref 356), (Value.ref 357), (Value.int 656 0), (Value.int 283 0), (Value.str (Str.ofString "/claim/cut.py") 657)]) #[])
noncomputable def o409 (P : Params) : Obj := (Obj.mk (Value.type "function") none (Data.func (FuncData.mk (Str.ofString "_law_entry") (Str.ofString "_law_entry") (fA (c 49)) (FuncBody.stmts (fB (c 49))) (fS (c 49)) 3 [] Value.none Value.none Value.none (Value.str (Str.ofString "law_pq1404_01") 620) none (Value.ref 358) Value.none 0)) #[])
noncomputable def o410 (P : Params) : Obj := (Obj.mk (Value.type "tuple") none (Data.seq #[] 0) #[])
noncomputable def o411 (P : Params) : Obj := (Obj.mk Value.none none (Data.fields #[]) #[])
noncomputable def o412 (P : Params) : Obj := (Obj.mk (Value.type "tuple") none (Data.seq #[(Value.str (Str.ofString "coins") 662), (Value.str (Str.ofString "draw") 663)] 0) #[])
noncomputable def o413 (P : Params) : Obj := (Obj.mk (Value.type "tuple") none (Data.seq #[] 0) #[])
noncomputable def o414 (P : Params) : Obj := (Obj.mk Value.none none (Data.func (FuncData.mk (Str.ofString "_law_digits") (Str.ofString "_law_digits") (fA (c 50)) (FuncBody.stmts (fB (c 50))) (fS (c 50)) 0 [] Value.none Value.none Value.none Value.none none Value.none Value.none 0)) #[])
noncomputable def o415 (P : Params) : Obj := (Obj.mk (Value.type "code") none (Data.fields #[(Value.str (Str.ofString "_law_digits") 659), (Value.str (Str.ofString "_law_digits") 660), (Value.str (Str.ofString "/claim/cut.py") 661), (Value.int 288 0), (Value.int 1 0), (Value.int 0 0), (Value.int 0 0), (Value.int 3 0), (Value.ref 360), (Value.bool Bool.true), (Value.int 181 0), (Value.ref 361), Value.none, (Value.ref 362), (Value.ref 363), (Value.ref 364), (Value.int 664 0), (Value.int 288 0), (Value.str (Str.ofString "/claim/cut.py") 665)]) #[])
noncomputable def o416 (P : Params) : Obj := (Obj.mk (Value.type "function") none (Data.func (FuncData.mk (Str.ofString "_law_digits") (Str.ofString "_law_digits") (fA (c 50)) (FuncBody.stmts (fB (c 50))) (fS (c 50)) 3 [] Value.none Value.none Value.none (Value.str (Str.ofString "law_pq1404_01") 620) none (Value.ref 365) Value.none 0)) #[])
noncomputable def o417 (P : Params) : Obj := (Obj.mk (Value.type "tuple") none (Data.seq #[] 0) #[])
noncomputable def o418 (P : Params) : Obj := (Obj.mk Value.none none (Data.fields #[]) #[])
noncomputable def o419 (P : Params) : Obj := (Obj.mk (Value.type "tuple") none (Data.seq #[(Value.str (Str.ofString "x") 670), (Value.str (Str.ofString "digits") 671), (Value.str (Str.ofString "places") 672), (Value.str (Str.ofString "top") 673), (Value.str (Str.ofString "below") 674), (Value.str (Str.ofString "lap") 675), (Value.str (Str.ofString "low") 676), (Value.str (Str.ofString "rest_of") 677)] 0) #[])
noncomputable def o420 (P : Params) : Obj := (Obj.mk (Value.type "tuple") none (Data.seq #[] 0) #[])
noncomputable def o421 (P : Params) : Obj := (Obj.mk Value.none none (Data.func (FuncData.mk (Str.ofString "_law_due") (Str.ofString "_law_due") (fA (c 51)) (FuncBody.stmts (fB (c 51))) (fS (c 51)) 0 [] Value.none Value.none Value.none Value.none none Value.none Value.none 0)) #[])
noncomputable def o422 (P : Params) : Obj := (Obj.mk (Value.type "code") none (Data.fields #[(Value.str (Str.ofString "_law_due") 667), (Value.str (Str.ofString "_law_due") 668), (Value.str (Str.ofString "/claim/cut.py") 669), (Value.int 293 0), (Value.int 2 0), (Value.int 0 0), (Value.int 0 0), (Value.int 3 0), (Value.ref 367), (Value.bool Bool.true), (Value.int 181 0), (Value.ref 368), Value.none, (Value.ref 369), (Value.ref 370), (Value.ref 371), (Value.int 678 0), (Value.int 293 0), (Value.str (Str.ofString "/claim/cut.py") 679)]) #[])
noncomputable def o423 (P : Params) : Obj := (Obj.mk (Value.type "function") none (Data.func (FuncData.mk (Str.ofString "_law_due") (Str.ofString "_law_due") (fA (c 51)) (FuncBody.stmts (fB (c 51))) (fS (c 51)) 3 [] Value.none Value.none Value.none (Value.str (Str.ofString "law_pq1404_01") 620) none (Value.ref 372) Value.none 0)) #[])
noncomputable def o424 (P : Params) : Obj := (Obj.mk (Value.type "tuple") none (Data.seq #[] 0) #[])
noncomputable def o425 (P : Params) : Obj := (Obj.mk Value.none none (Data.fields #[]) #[])
noncomputable def o426 (P : Params) : Obj := (Obj.mk Value.none none (Data.func (FuncData.mk (Str.ofString "law") (Str.ofString "law") (fA (c 52)) (FuncBody.stmts (fB (c 52))) (fS (c 52)) 0 [] Value.none Value.none Value.none Value.none none Value.none Value.none 0)) #[])
noncomputable def o427 (P : Params) : Obj := (Obj.mk (Value.type "code") none (Data.fields #[(Value.str (Str.ofString "law") 681), (Value.str (Str.ofString "law") 682), (Value.str (Str.ofString "/claim/cut.py") 683), (Value.int 313 0), (Value.int 1 0), (Value.int 0 0), (Value.int 0 0), (Value.int 3 0), (Value.ref 374), (Value.bool Bool.true), (Value.int 181 0), (Value.ref 375), Value.none, Value.none, Value.none, (Value.ref 376), (Value.int 684 0), (Value.int 313 0), (Value.str (Str.ofString "/claim/cut.py") 685)]) #[])
noncomputable def o428 (P : Params) : Obj := (Obj.mk (Value.type "function") none (Data.func (FuncData.mk (Str.ofString "law") (Str.ofString "law") (fA (c 52)) (FuncBody.stmts (fB (c 52))) (fS (c 52)) 3 [] Value.none Value.none Value.none (Value.str (Str.ofString "law_pq1404_01") 620) none (Value.ref 377) Value.none 0)) #[])
noncomputable def tree47 (P : Params) : BT := (BT.node (boot_o_0 P) (BT.node (boot_o_1 P) (BT.node (boot_o_3 P) (BT.node (boot_o_7 P) BT.nil BT.nil) (BT.node (o43 P) BT.nil BT.nil)) (BT.node (boot_o_5 P) (BT.node (boot_o_9 P) BT.nil BT.nil) (BT.node (o45 P) BT.nil BT.nil))) (BT.node (boot_o_2 P) (BT.node (boot_o_4 P) (BT.node (boot_o_8 P) BT.nil BT.nil) (BT.node (o44 P) BT.nil BT.nil)) (BT.node (boot_o_6 P) (BT.node (boot_o_10 P) BT.nil BT.nil) (BT.node (o46 P) BT.nil BT.nil))))
noncomputable def tree85 (P : Params) : BT := (BT.node (boot_o_0 P) (BT.node (boot_o_1 P) (BT.node (o50 P) (BT.node (boot_o_7 P) (BT.node (o52 P) (BT.node (o68 P) BT.nil BT.nil) (BT.node (o84 P) BT.nil BT.nil)) (BT.node (o60 P) (BT.node (o76 P) BT.nil BT.nil) BT.nil)) (BT.node (o43 P) (BT.node (o56 P) (BT.node (o72 P) BT.nil BT.nil) BT.nil) (BT.node (o64 P) (BT.node (o80 P) BT.nil BT.nil) BT.nil))) (BT.node (boot_o_5 P) (BT.node (boot_o_9 P) (BT.node (o54 P) (BT.node (o70 P) BT.nil BT.nil) BT.nil) (BT.node (o62 P) (BT.node (o78 P) BT.nil BT.nil) BT.nil)) (BT.node (o45 P) (BT.node (o58 P) (BT.node (o74 P) BT.nil BT.nil) BT.nil) (BT.node (o66 P) (BT.node (o82 P) BT.nil BT.nil) BT.nil)))) (BT.node (o49 P) (BT.node (boot_o_4 P) (BT.node (boot_o_8 P) (BT.node (o53 P) (BT.node (o69 P) BT.nil BT.nil) (BT.node (o85 P) BT.nil BT.nil)) (BT.node (o61 P) (BT.node (o77 P) BT.nil BT.nil) BT.nil)) (BT.node (o51 P) (BT.node (o57 P) (BT.node (o73 P) BT.nil BT.nil) BT.nil) (BT.node (o65 P) (BT.node (o81 P) BT.nil BT.nil) BT.nil))) (BT.node (boot_o_6 P) (BT.node (boot_o_10 P) (BT.node (o55 P) (BT.node (o71 P) BT.nil BT.nil) BT.nil) (BT.node (o63 P) (BT.node (o79 P) BT.nil BT.nil) BT.nil)) (BT.node (o46 P) (BT.node (o59 P) (BT.node (o75 P) BT.nil BT.nil) BT.nil) (BT.node (o67 P) (BT.node (o83 P) BT.nil BT.nil) BT.nil)))))
noncomputable def tree107 (P : Params) : BT := (BT.node (boot_o_0 P) (BT.node (boot_o_1 P) (BT.node (o86 P) (BT.node (boot_o_7 P) (BT.node (o52 P) (BT.node (o68 P) (BT.node (o103 P) BT.nil BT.nil) BT.nil) (BT.node (o84 P) BT.nil BT.nil)) (BT.node (o60 P) (BT.node (o76 P) BT.nil BT.nil) (BT.node (o95 P) BT.nil BT.nil))) (BT.node (o43 P) (BT.node (o56 P) (BT.node (o72 P) (BT.node (o107 P) BT.nil BT.nil) BT.nil) (BT.node (o91 P) BT.nil BT.nil)) (BT.node (o64 P) (BT.node (o80 P) BT.nil BT.nil) (BT.node (o99 P) BT.nil BT.nil)))) (BT.node (boot_o_5 P) (BT.node (boot_o_9 P) (BT.node (o54 P) (BT.node (o70 P) (BT.node (o105 P) BT.nil BT.nil) BT.nil) (BT.node (o89 P) BT.nil BT.nil)) (BT.node (o62 P) (BT.node (o78 P) BT.nil BT.nil) (BT.node (o97 P) BT.nil BT.nil))) (BT.node (o45 P) (BT.node (o58 P) (BT.node (o74 P) BT.nil BT.nil) (BT.node (o93 P) BT.nil BT.nil)) (BT.node (o66 P) (BT.node (o88 P) BT.nil BT.nil) (BT.node (o101 P) BT.nil BT.nil))))) (BT.node (o49 P) (BT.node (boot_o_4 P) (BT.node (boot_o_8 P) (BT.node (o53 P) (BT.node (o69 P) (BT.node (o104 P) BT.nil BT.nil) BT.nil) (BT.node (o85 P) BT.nil BT.nil)) (BT.node (o61 P) (BT.node (o77 P) BT.nil BT.nil) (BT.node (o96 P) BT.nil BT.nil))) (BT.node (o87 P) (BT.node (o57 P) (BT.node (o73 P) BT.nil BT.nil) (BT.node (o92 P) BT.nil BT.nil)) (BT.node (o65 P) (BT.node (o81 P) BT.nil BT.nil) (BT.node (o100 P) BT.nil BT.nil)))) (BT.node (boot_o_6 P) (BT.node (boot_o_10 P) (BT.node (o55 P) (BT.node (o71 P) (BT.node (o106 P) BT.nil BT.nil) BT.nil) (BT.node (o90 P) BT.nil BT.nil)) (BT.node (o63 P) (BT.node (o79 P) BT.nil BT.nil) (BT.node (o98 P) BT.nil BT.nil))) (BT.node (o46 P) (BT.node (o59 P) (BT.node (o75 P) BT.nil BT.nil) (BT.node (o94 P) BT.nil BT.nil)) (BT.node (o67 P) (BT.node (o83 P) BT.nil BT.nil) (BT.node (o102 P) BT.nil BT.nil))))))
noncomputable def tree138 (P : Params) : BT := (BT.node (boot_o_0 P) (BT.node (boot_o_1 P) (BT.node (o108 P) (BT.node (boot_o_7 P) (BT.node (o52 P) (BT.node (o68 P) (BT.node (o103 P) BT.nil BT.nil) (BT.node (o137 P) BT.nil BT.nil)) (BT.node (o84 P) (BT.node (o121 P) BT.nil BT.nil) BT.nil)) (BT.node (o60 P) (BT.node (o76 P) (BT.node (o113 P) BT.nil BT.nil) BT.nil) (BT.node (o95 P) (BT.node (o129 P) BT.nil BT.nil) BT.nil))) (BT.node (o43 P) (BT.node (o56 P) (BT.node (o72 P) (BT.node (o107 P) BT.nil BT.nil) BT.nil) (BT.node (o91 P) (BT.node (o125 P) BT.nil BT.nil) BT.nil)) (BT.node (o64 P) (BT.node (o80 P) (BT.node (o117 P) BT.nil BT.nil) BT.nil) (BT.node (o99 P) (BT.node (o133 P) BT.nil BT.nil) BT.nil)))) (BT.node (boot_o_5 P) (BT.node (boot_o_9 P) (BT.node (o54 P) (BT.node (o70 P) (BT.node (o105 P) BT.nil BT.nil) BT.nil) (BT.node (o89 P) (BT.node (o123 P) BT.nil BT.nil) BT.nil)) (BT.node (o62 P) (BT.node (o78 P) (BT.node (o115 P) BT.nil BT.nil) BT.nil) (BT.node (o97 P) (BT.node (o131 P) BT.nil BT.nil) BT.nil))) (BT.node (o45 P) (BT.node (o58 P) (BT.node (o74 P) (BT.node (o111 P) BT.nil BT.nil) BT.nil) (BT.node (o93 P) (BT.node (o127 P) BT.nil BT.nil) BT.nil)) (BT.node (o66 P) (BT.node (o88 P) (BT.node (o119 P) BT.nil BT.nil) BT.nil) (BT.node (o101 P) (BT.node (o135 P) BT.nil BT.nil) BT.nil))))) (BT.node (o49 P) (BT.node (boot_o_4 P) (BT.node (boot_o_8 P) (BT.node (o53 P) (BT.node (o69 P) (BT.node (o104 P) BT.nil BT.nil) (BT.node (o138 P) BT.nil BT.nil)) (BT.node (o85 P) (BT.node (o122 P) BT.nil BT.nil) BT.nil)) (BT.node (o61 P) (BT.node (o77 P) (BT.node (o114 P) BT.nil BT.nil) BT.nil) (BT.node (o96 P) (BT.node (o130 P) BT.nil BT.nil) BT.nil))) (BT.node (o109 P) (BT.node (o57 P) (BT.node (o73 P) (BT.node (o110 P) BT.nil BT.nil) BT.nil) (BT.node (o92 P) (BT.node (o126 P) BT.nil BT.nil) BT.nil)) (BT.node (o65 P) (BT.node (o81 P) (BT.node (o118 P) BT.nil BT.nil) BT.nil) (BT.node (o100 P) (BT.node (o134 P) BT.nil BT.nil) BT.nil)))) (BT.node (boot_o_6 P) (BT.node (boot_o_10 P) (BT.node (o55 P) (BT.node (o71 P) (BT.node (o106 P) BT.nil BT.nil) BT.nil) (BT.node (o90 P) (BT.node (o124 P) BT.nil BT.nil) BT.nil)) (BT.node (o63 P) (BT.node (o79 P) (BT.node (o116 P) BT.nil BT.nil) BT.nil) (BT.node (o98 P) (BT.node (o132 P) BT.nil BT.nil) BT.nil))) (BT.node (o46 P) (BT.node (o59 P) (BT.node (o75 P) (BT.node (o112 P) BT.nil BT.nil) BT.nil) (BT.node (o94 P) (BT.node (o128 P) BT.nil BT.nil) BT.nil)) (BT.node (o67 P) (BT.node (o83 P) (BT.node (o120 P) BT.nil BT.nil) BT.nil) (BT.node (o102 P) (BT.node (o136 P) BT.nil BT.nil) BT.nil))))))
noncomputable def tree201 (P : Params) : BT := (BT.node (boot_o_0 P) (BT.node (boot_o_1 P) (BT.node (o139 P) (BT.node (boot_o_7 P) (BT.node (o52 P) (BT.node (o68 P) (BT.node (o103 P) (BT.node (o171 P) BT.nil BT.nil) BT.nil) (BT.node (o137 P) BT.nil BT.nil)) (BT.node (o84 P) (BT.node (o121 P) (BT.node (o187 P) BT.nil BT.nil) BT.nil) (BT.node (o155 P) BT.nil BT.nil))) (BT.node (o60 P) (BT.node (o76 P) (BT.node (o113 P) (BT.node (o179 P) BT.nil BT.nil) BT.nil) (BT.node (o147 P) BT.nil BT.nil)) (BT.node (o95 P) (BT.node (o129 P) (BT.node (o195 P) BT.nil BT.nil) BT.nil) (BT.node (o163 P) BT.nil BT.nil)))) (BT.node (o43 P) (BT.node (o56 P) (BT.node (o72 P) (BT.node (o107 P) (BT.node (o175 P) BT.nil BT.nil) BT.nil) (BT.node (o143 P) BT.nil BT.nil)) (BT.node (o91 P) (BT.node (o125 P) (BT.node (o191 P) BT.nil BT.nil) BT.nil) (BT.node (o159 P) BT.nil BT.nil))) (BT.node (o64 P) (BT.node (o80 P) (BT.node (o117 P) (BT.node (o183 P) BT.nil BT.nil) BT.nil) (BT.node (o151 P) BT.nil BT.nil)) (BT.node (o99 P) (BT.node (o133 P) (BT.node (o199 P) BT.nil BT.nil) BT.nil) (BT.node (o167 P) BT.nil BT.nil))))) (BT.node (boot_o_5 P) (BT.node (boot_o_9 P) (BT.node (o54 P) (BT.node (o70 P) (BT.node (o105 P) (BT.node (o173 P) BT.nil BT.nil) BT.nil) (BT.node (o141 P) BT.nil BT.nil)) (BT.node (o89 P) (BT.node (o123 P) (BT.node (o189 P) BT.nil BT.nil) BT.nil) (BT.node (o157 P) BT.nil BT.nil))) (BT.node (o62 P) (BT.node (o78 P) (BT.node (o115 P) (BT.node (o181 P) BT.nil BT.nil) BT.nil) (BT.node (o149 P) BT.nil BT.nil)) (BT.node (o97 P) (BT.node (o131 P) (BT.node (o197 P) BT.nil BT.nil) BT.nil) (BT.node (o165 P) BT.nil BT.nil)))) (BT.node (o45 P) (BT.node (o58 P) (BT.node (o74 P) (BT.node (o111 P) (BT.node (o177 P) BT.nil BT.nil) BT.nil) (BT.node (o145 P) BT.nil BT.nil)) (BT.node (o93 P) (BT.node (o127 P) (BT.node (o193 P) BT.nil BT.nil) BT.nil) (BT.node (o161 P) BT.nil BT.nil))) (BT.node (o66 P) (BT.node (o88 P) (BT.node (o119 P) (BT.node (o185 P) BT.nil BT.nil) BT.nil) (BT.node (o153 P) BT.nil BT.nil)) (BT.node (o101 P) (BT.node (o135 P) (BT.node (o201 P) BT.nil BT.nil) BT.nil) (BT.node (o169 P) BT.nil BT.nil)))))) (BT.node (o49 P) (BT.node (boot_o_4 P) (BT.node (boot_o_8 P) (BT.node (o53 P) (BT.node (o69 P) (BT.node (o104 P) (BT.node (o172 P) BT.nil BT.nil) BT.nil) (BT.node (o138 P) BT.nil BT.nil)) (BT.node (o85 P) (BT.node (o122 P) (BT.node (o188 P) BT.nil BT.nil) BT.nil) (BT.node (o156 P) BT.nil BT.nil))) (BT.node (o61 P) (BT.node (o77 P) (BT.node (o114 P) (BT.node (o180 P) BT.nil BT.nil) BT.nil) (BT.node (o148 P) BT.nil BT.nil)) (BT.node (o96 P) (BT.node (o130 P) (BT.node (o196 P) BT.nil BT.nil) BT.nil) (BT.node (o164 P) BT.nil BT.nil)))) (BT.node (o140 P) (BT.node (o57 P) (BT.node (o73 P) (BT.node (o110 P) (BT.node (o176 P) BT.nil BT.nil) BT.nil) (BT.node (o144 P) BT.nil BT.nil)) (BT.node (o92 P) (BT.node (o126 P) (BT.node (o192 P) BT.nil BT.nil) BT.nil) (BT.node (o160 P) BT.nil BT.nil))) (BT.node (o65 P) (BT.node (o81 P) (BT.node (o118 P) (BT.node (o184 P) BT.nil BT.nil) BT.nil) (BT.node (o152 P) BT.nil BT.nil)) (BT.node (o100 P) (BT.node (o134 P) (BT.node (o200 P) BT.nil BT.nil) BT.nil) (BT.node (o168 P) BT.nil BT.nil))))) (BT.node (boot_o_6 P) (BT.node (boot_o_10 P) (BT.node (o55 P) (BT.node (o71 P) (BT.node (o106 P) (BT.node (o174 P) BT.nil BT.nil) BT.nil) (BT.node (o142 P) BT.nil BT.nil)) (BT.node (o90 P) (BT.node (o124 P) (BT.node (o190 P) BT.nil BT.nil) BT.nil) (BT.node (o158 P) BT.nil BT.nil))) (BT.node (o63 P) (BT.node (o79 P) (BT.node (o116 P) (BT.node (o182 P) BT.nil BT.nil) BT.nil) (BT.node (o150 P) BT.nil BT.nil)) (BT.node (o98 P) (BT.node (o132 P) (BT.node (o198 P) BT.nil BT.nil) BT.nil) (BT.node (o166 P) BT.nil BT.nil)))) (BT.node (o46 P) (BT.node (o59 P) (BT.node (o75 P) (BT.node (o112 P) (BT.node (o178 P) BT.nil BT.nil) BT.nil) (BT.node (o146 P) BT.nil BT.nil)) (BT.node (o94 P) (BT.node (o128 P) (BT.node (o194 P) BT.nil BT.nil) BT.nil) (BT.node (o162 P) BT.nil BT.nil))) (BT.node (o67 P) (BT.node (o83 P) (BT.node (o120 P) (BT.node (o186 P) BT.nil BT.nil) BT.nil) (BT.node (o154 P) BT.nil BT.nil)) (BT.node (o102 P) (BT.node (o136 P) BT.nil BT.nil) (BT.node (o170 P) BT.nil BT.nil)))))))
noncomputable def tree278 (P : Params) : BT := (BT.node (boot_o_0 P) (BT.node (boot_o_1 P) (BT.node (o202 P) (BT.node (boot_o_7 P) (BT.node (o52 P) (BT.node (o68 P) (BT.node (o103 P) (BT.node (o171 P) BT.nil BT.nil) (BT.node (o237 P) BT.nil BT.nil)) (BT.node (o137 P) (BT.node (o205 P) BT.nil BT.nil) (BT.node (o269 P) BT.nil BT.nil))) (BT.node (o84 P) (BT.node (o121 P) (BT.node (o187 P) BT.nil BT.nil) (BT.node (o253 P) BT.nil BT.nil)) (BT.node (o155 P) (BT.node (o221 P) BT.nil BT.nil) BT.nil))) (BT.node (o60 P) (BT.node (o76 P) (BT.node (o113 P) (BT.node (o179 P) BT.nil BT.nil) (BT.node (o245 P) BT.nil BT.nil)) (BT.node (o147 P) (BT.node (o213 P) BT.nil BT.nil) (BT.node (o277 P) BT.nil BT.nil))) (BT.node (o95 P) (BT.node (o129 P) (BT.node (o195 P) BT.nil BT.nil) (BT.node (o261 P) BT.nil BT.nil)) (BT.node (o163 P) (BT.node (o229 P) BT.nil BT.nil) BT.nil)))) (BT.node (o43 P) (BT.node (o56 P) (BT.node (o72 P) (BT.node (o107 P) (BT.node (o175 P) BT.nil BT.nil) (BT.node (o241 P) BT.nil BT.nil)) (BT.node (o143 P) (BT.node (o209 P) BT.nil BT.nil) (BT.node (o273 P) BT.nil BT.nil))) (BT.node (o91 P) (BT.node (o125 P) (BT.node (o191 P) BT.nil BT.nil) (BT.node (o257 P) BT.nil BT.nil)) (BT.node (o159 P) (BT.node (o225 P) BT.nil BT.nil) BT.nil))) (BT.node (o64 P) (BT.node (o80 P) (BT.node (o117 P) (BT.node (o183 P) BT.nil BT.nil) (BT.node (o249 P) BT.nil BT.nil)) (BT.node (o151 P) (BT.node (o217 P) BT.nil BT.nil) BT.nil)) (BT.node (o99 P) (BT.node (o133 P) (BT.node (o199 P) BT.nil BT.nil) (BT.node (o265 P) BT.nil BT.nil)) (BT.node (o167 P) (BT.node (o233 P) BT.nil BT.nil) BT.nil))))) (BT.node (boot_o_5 P) (BT.node (boot_o_9 P) (BT.node (o54 P) (BT.node (o70 P) (BT.node (o105 P) (BT.node (o173 P) BT.nil BT.nil) (BT.node (o239 P) BT.nil BT.nil)) (BT.node (o141 P) (BT.node (o207 P) BT.nil BT.nil) (BT.node (o271 P) BT.nil BT.nil))) (BT.node (o89 P) (BT.node (o123 P) (BT.node (o189 P) BT.nil BT.nil) (BT.node (o255 P) BT.nil BT.nil)) (BT.node (o157 P) (BT.node (o223 P) BT.nil BT.nil) BT.nil))) (BT.node (o62 P) (BT.node (o78 P) (BT.node (o115 P) (BT.node (o181 P) BT.nil BT.nil) (BT.node (o247 P) BT.nil BT.nil)) (BT.node (o149 P) (BT.node (o215 P) BT.nil BT.nil) BT.nil)) (BT.node (o97 P) (BT.node (o131 P) (BT.node (o197 P) BT.nil BT.nil) (BT.node (o263 P) BT.nil BT.nil)) (BT.node (o165 P) (BT.node (o231 P) BT.nil BT.nil) BT.nil)))) (BT.node (o45 P) (BT.node (o58 P) (BT.node (o74 P) (BT.node (o111 P) (BT.node (o177 P) BT.nil BT.nil) (BT.node (o243 P) BT.nil BT.nil)) (BT.node (o145 P) (BT.node (o211 P) BT.nil BT.nil) (BT.node (o275 P) BT.nil BT.nil))) (BT.node (o93 P) (BT.node (o127 P) (BT.node (o193 P) BT.nil BT.nil) (BT.node (o259 P) BT.nil BT.nil)) (BT.node (o161 P) (BT.node (o227 P) BT.nil BT.nil) BT.nil))) (BT.node (o66 P) (BT.node (o88 P) (BT.node (o119 P) (BT.node (o185 P) BT.nil BT.nil) (BT.node (o251 P) BT.nil BT.nil)) (BT.node (o153 P) (BT.node (o219 P) BT.nil BT.nil) BT.nil)) (BT.node (o101 P) (BT.node (o135 P) (BT.node (o201 P) BT.nil BT.nil) (BT.node (o267 P) BT.nil BT.nil)) (BT.node (o169 P) (BT.node (o235 P) BT.nil BT.nil) BT.nil)))))) (BT.node (o49 P) (BT.node (boot_o_4 P) (BT.node (boot_o_8 P) (BT.node (o53 P) (BT.node (o69 P) (BT.node (o104 P) (BT.node (o172 P) BT.nil BT.nil) (BT.node (o238 P) BT.nil BT.nil)) (BT.node (o138 P) (BT.node (o206 P) BT.nil BT.nil) (BT.node (o270 P) BT.nil BT.nil))) (BT.node (o85 P) (BT.node (o122 P) (BT.node (o188 P) BT.nil BT.nil) (BT.node (o254 P) BT.nil BT.nil)) (BT.node (o156 P) (BT.node (o222 P) BT.nil BT.nil) BT.nil))) (BT.node (o61 P) (BT.node (o77 P) (BT.node (o114 P) (BT.node (o180 P) BT.nil BT.nil) (BT.node (o246 P) BT.nil BT.nil)) (BT.node (o148 P) (BT.node (o214 P) BT.nil BT.nil) (BT.node (o278 P) BT.nil BT.nil))) (BT.node (o96 P) (BT.node (o130 P) (BT.node (o196 P) BT.nil BT.nil) (BT.node (o262 P) BT.nil BT.nil)) (BT.node (o164 P) (BT.node (o230 P) BT.nil BT.nil) BT.nil)))) (BT.node (o203 P) (BT.node (o57 P) (BT.node (o73 P) (BT.node (o110 P) (BT.node (o176 P) BT.nil BT.nil) (BT.node (o242 P) BT.nil BT.nil)) (BT.node (o144 P) (BT.node (o210 P) BT.nil BT.nil) (BT.node (o274 P) BT.nil BT.nil))) (BT.node (o92 P) (BT.node (o126 P) (BT.node (o192 P) BT.nil BT.nil) (BT.node (o258 P) BT.nil BT.nil)) (BT.node (o160 P) (BT.node (o226 P) BT.nil BT.nil) BT.nil))) (BT.node (o65 P) (BT.node (o81 P) (BT.node (o118 P) (BT.node (o184 P) BT.nil BT.nil) (BT.node (o250 P) BT.nil BT.nil)) (BT.node (o152 P) (BT.node (o218 P) BT.nil BT.nil) BT.nil)) (BT.node (o100 P) (BT.node (o134 P) (BT.node (o200 P) BT.nil BT.nil) (BT.node (o266 P) BT.nil BT.nil)) (BT.node (o168 P) (BT.node (o234 P) BT.nil BT.nil) BT.nil))))) (BT.node (boot_o_6 P) (BT.node (boot_o_10 P) (BT.node (o55 P) (BT.node (o71 P) (BT.node (o106 P) (BT.node (o174 P) BT.nil BT.nil) (BT.node (o240 P) BT.nil BT.nil)) (BT.node (o142 P) (BT.node (o208 P) BT.nil BT.nil) (BT.node (o272 P) BT.nil BT.nil))) (BT.node (o90 P) (BT.node (o124 P) (BT.node (o190 P) BT.nil BT.nil) (BT.node (o256 P) BT.nil BT.nil)) (BT.node (o158 P) (BT.node (o224 P) BT.nil BT.nil) BT.nil))) (BT.node (o63 P) (BT.node (o79 P) (BT.node (o116 P) (BT.node (o182 P) BT.nil BT.nil) (BT.node (o248 P) BT.nil BT.nil)) (BT.node (o150 P) (BT.node (o216 P) BT.nil BT.nil) BT.nil)) (BT.node (o98 P) (BT.node (o132 P) (BT.node (o198 P) BT.nil BT.nil) (BT.node (o264 P) BT.nil BT.nil)) (BT.node (o166 P) (BT.node (o232 P) BT.nil BT.nil) BT.nil)))) (BT.node (o46 P) (BT.node (o59 P) (BT.node (o75 P) (BT.node (o112 P) (BT.node (o178 P) BT.nil BT.nil) (BT.node (o244 P) BT.nil BT.nil)) (BT.node (o146 P) (BT.node (o212 P) BT.nil BT.nil) (BT.node (o276 P) BT.nil BT.nil))) (BT.node (o94 P) (BT.node (o128 P) (BT.node (o194 P) BT.nil BT.nil) (BT.node (o260 P) BT.nil BT.nil)) (BT.node (o162 P) (BT.node (o228 P) BT.nil BT.nil) BT.nil))) (BT.node (o67 P) (BT.node (o83 P) (BT.node (o120 P) (BT.node (o186 P) BT.nil BT.nil) (BT.node (o252 P) BT.nil BT.nil)) (BT.node (o154 P) (BT.node (o220 P) BT.nil BT.nil) BT.nil)) (BT.node (o102 P) (BT.node (o136 P) (BT.node (o204 P) BT.nil BT.nil) (BT.node (o268 P) BT.nil BT.nil)) (BT.node (o170 P) (BT.node (o236 P) BT.nil BT.nil) BT.nil)))))))
noncomputable def tree358 (P : Params) : BT := (BT.node (boot_o_0 P) (BT.node (boot_o_1 P) (BT.node (o279 P) (BT.node (boot_o_7 P) (BT.node (o52 P) (BT.node (o68 P) (BT.node (o103 P) (BT.node (o171 P) (BT.node (o303 P) BT.nil BT.nil) BT.nil) (BT.node (o237 P) BT.nil BT.nil)) (BT.node (o137 P) (BT.node (o205 P) (BT.node (o335 P) BT.nil BT.nil) BT.nil) (BT.node (o269 P) BT.nil BT.nil))) (BT.node (o84 P) (BT.node (o121 P) (BT.node (o187 P) (BT.node (o319 P) BT.nil BT.nil) BT.nil) (BT.node (o253 P) BT.nil BT.nil)) (BT.node (o155 P) (BT.node (o221 P) (BT.node (o351 P) BT.nil BT.nil) BT.nil) (BT.node (o287 P) BT.nil BT.nil)))) (BT.node (o60 P) (BT.node (o76 P) (BT.node (o113 P) (BT.node (o179 P) (BT.node (o311 P) BT.nil BT.nil) BT.nil) (BT.node (o245 P) BT.nil BT.nil)) (BT.node (o147 P) (BT.node (o213 P) (BT.node (o343 P) BT.nil BT.nil) BT.nil) (BT.node (o277 P) BT.nil BT.nil))) (BT.node (o95 P) (BT.node (o129 P) (BT.node (o195 P) (BT.node (o327 P) BT.nil BT.nil) BT.nil) (BT.node (o261 P) BT.nil BT.nil)) (BT.node (o163 P) (BT.node (o229 P) BT.nil BT.nil) (BT.node (o295 P) BT.nil BT.nil))))) (BT.node (o43 P) (BT.node (o56 P) (BT.node (o72 P) (BT.node (o107 P) (BT.node (o175 P) (BT.node (o307 P) BT.nil BT.nil) BT.nil) (BT.node (o241 P) BT.nil BT.nil)) (BT.node (o143 P) (BT.node (o209 P) (BT.node (o339 P) BT.nil BT.nil) BT.nil) (BT.node (o273 P) BT.nil BT.nil))) (BT.node (o91 P) (BT.node (o125 P) (BT.node (o191 P) (BT.node (o323 P) BT.nil BT.nil) BT.nil) (BT.node (o257 P) BT.nil BT.nil)) (BT.node (o159 P) (BT.node (o225 P) (BT.node (o355 P) BT.nil BT.nil) BT.nil) (BT.node (o291 P) BT.nil BT.nil)))) (BT.node (o64 P) (BT.node (o80 P) (BT.node (o117 P) (BT.node (o183 P) (BT.node (o315 P) BT.nil BT.nil) BT.nil) (BT.node (o249 P) BT.nil BT.nil)) (BT.node (o151 P) (BT.node (o217 P) (BT.node (o347 P) BT.nil BT.nil) BT.nil) (BT.node (o283 P) BT.nil BT.nil))) (BT.node (o99 P) (BT.node (o133 P) (BT.node (o199 P) (BT.node (o331 P) BT.nil BT.nil) BT.nil) (BT.node (o265 P) BT.nil BT.nil)) (BT.node (o167 P) (BT.node (o233 P) BT.nil BT.nil) (BT.node (o299 P) BT.nil BT.nil)))))) (BT.node (boot_o_5 P) (BT.node (boot_o_9 P) (BT.node (o54 P) (BT.node (o70 P) (BT.node (o105 P) (BT.node (o173 P) (BT.node (o305 P) BT.nil BT.nil) BT.nil) (BT.node (o239 P) BT.nil BT.nil)) (BT.node (o141 P) (BT.node (o207 P) (BT.node (o337 P) BT.nil BT.nil) BT.nil) (BT.node (o271 P) BT.nil BT.nil))) (BT.node (o89 P) (BT.node (o123 P) (BT.node (o189 P) (BT.node (o321 P) BT.nil BT.nil) BT.nil) (BT.node (o255 P) BT.nil BT.nil)) (BT.node (o157 P) (BT.node (o223 P) (BT.node (o353 P) BT.nil BT.nil) BT.nil) (BT.node (o289 P) BT.nil BT.nil)))) (BT.node (o62 P) (BT.node (o78 P) (BT.node (o115 P) (BT.node (o181 P) (BT.node (o313 P) BT.nil BT.nil) BT.nil) (BT.node (o247 P) BT.nil BT.nil)) (BT.node (o149 P) (BT.node (o215 P) (BT.node (o345 P) BT.nil BT.nil) BT.nil) (BT.node (o281 P) BT.nil BT.nil))) (BT.node (o97 P) (BT.node (o131 P) (BT.node (o197 P) (BT.node (o329 P) BT.nil BT.nil) BT.nil) (BT.node (o263 P) BT.nil BT.nil)) (BT.node (o165 P) (BT.node (o231 P) BT.nil BT.nil) (BT.node (o297 P) BT.nil BT.nil))))) (BT.node (o45 P) (BT.node (o58 P) (BT.node (o74 P) (BT.node (o111 P) (BT.node (o177 P) (BT.node (o309 P) BT.nil BT.nil) BT.nil) (BT.node (o243 P) BT.nil BT.nil)) (BT.node (o145 P) (BT.node (o211 P) (BT.node (o341 P) BT.nil BT.nil) BT.nil) (BT.node (o275 P) BT.nil BT.nil))) (BT.node (o93 P) (BT.node (o127 P) (BT.node (o193 P) (BT.node (o325 P) BT.nil BT.nil) BT.nil) (BT.node (o259 P) BT.nil BT.nil)) (BT.node (o161 P) (BT.node (o227 P) (BT.node (o357 P) BT.nil BT.nil) BT.nil) (BT.node (o293 P) BT.nil BT.nil)))) (BT.node (o66 P) (BT.node (o88 P) (BT.node (o119 P) (BT.node (o185 P) (BT.node (o317 P) BT.nil BT.nil) BT.nil) (BT.node (o251 P) BT.nil BT.nil)) (BT.node (o153 P) (BT.node (o219 P) (BT.node (o349 P) BT.nil BT.nil) BT.nil) (BT.node (o285 P) BT.nil BT.nil))) (BT.node (o101 P) (BT.node (o135 P) (BT.node (o201 P) (BT.node (o333 P) BT.nil BT.nil) BT.nil) (BT.node (o267 P) BT.nil BT.nil)) (BT.node (o169 P) (BT.node (o235 P) BT.nil BT.nil) (BT.node (o301 P) BT.nil BT.nil))))))) (BT.node (o49 P) (BT.node (boot_o_4 P) (BT.node (boot_o_8 P) (BT.node (o53 P) (BT.node (o69 P) (BT.node (o104 P) (BT.node (o172 P) (BT.node (o304 P) BT.nil BT.nil) BT.nil) (BT.node (o238 P) BT.nil BT.nil)) (BT.node (o138 P) (BT.node (o206 P) (BT.node (o336 P) BT.nil BT.nil) BT.nil) (BT.node (o270 P) BT.nil BT.nil))) (BT.node (o85 P) (BT.node (o122 P) (BT.node (o188 P) (BT.node (o320 P) BT.nil BT.nil) BT.nil) (BT.node (o254 P) BT.nil BT.nil)) (BT.node (o156 P) (BT.node (o222 P) (BT.node (o352 P) BT.nil BT.nil) BT.nil) (BT.node (o288 P) BT.nil BT.nil)))) (BT.node (o61 P) (BT.node (o77 P) (BT.node (o114 P) (BT.node (o180 P) (BT.node (o312 P) BT.nil BT.nil) BT.nil) (BT.node (o246 P) BT.nil BT.nil)) (BT.node (o148 P) (BT.node (o214 P) (BT.node (o344 P) BT.nil BT.nil) BT.nil) (BT.node (o278 P) BT.nil BT.nil))) (BT.node (o96 P) (BT.node (o130 P) (BT.node (o196 P) (BT.node (o328 P) BT.nil BT.nil) BT.nil) (BT.node (o262 P) BT.nil BT.nil)) (BT.node (o164 P) (BT.node (o230 P) BT.nil BT.nil) (BT.node (o296 P) BT.nil BT.nil))))) (BT.node (o280 P) (BT.node (o57 P) (BT.node (o73 P) (BT.node (o110 P) (BT.node (o176 P) (BT.node (o308 P) BT.nil BT.nil) BT.nil) (BT.node (o242 P) BT.nil BT.nil)) (BT.node (o144 P) (BT.node (o210 P) (BT.node (o340 P) BT.nil BT.nil) BT.nil) (BT.node (o274 P) BT.nil BT.nil))) (BT.node (o92 P) (BT.node (o126 P) (BT.node (o192 P) (BT.node (o324 P) BT.nil BT.nil) BT.nil) (BT.node (o258 P) BT.nil BT.nil)) (BT.node (o160 P) (BT.node (o226 P) (BT.node (o356 P) BT.nil BT.nil) BT.nil) (BT.node (o292 P) BT.nil BT.nil)))) (BT.node (o65 P) (BT.node (o81 P) (BT.node (o118 P) (BT.node (o184 P) (BT.node (o316 P) BT.nil BT.nil) BT.nil) (BT.node (o250 P) BT.nil BT.nil)) (BT.node (o152 P) (BT.node (o218 P) (BT.node (o348 P) BT.nil BT.nil) BT.nil) (BT.node (o284 P) BT.nil BT.nil))) (BT.node (o100 P) (BT.node (o134 P) (BT.node (o200 P) (BT.node (o332 P) BT.nil BT.nil) BT.nil) (BT.node (o266 P) BT.nil BT.nil)) (BT.node (o168 P) (BT.node (o234 P) BT.nil BT.nil) (BT.node (o300 P) BT.nil BT.nil)))))) (BT.node (boot_o_6 P) (BT.node (boot_o_10 P) (BT.node (o55 P) (BT.node (o71 P) (BT.node (o106 P) (BT.node (o174 P) (BT.node (o306 P) BT.nil BT.nil) BT.nil) (BT.node (o240 P) BT.nil BT.nil)) (BT.node (o142 P) (BT.node (o208 P) (BT.node (o338 P) BT.nil BT.nil) BT.nil) (BT.node (o272 P) BT.nil BT.nil))) (BT.node (o90 P) (BT.node (o124 P) (BT.node (o190 P) (BT.node (o322 P) BT.nil BT.nil) BT.nil) (BT.node (o256 P) BT.nil BT.nil)) (BT.node (o158 P) (BT.node (o224 P) (BT.node (o354 P) BT.nil BT.nil) BT.nil) (BT.node (o290 P) BT.nil BT.nil)))) (BT.node (o63 P) (BT.node (o79 P) (BT.node (o116 P) (BT.node (o182 P) (BT.node (o314 P) BT.nil BT.nil) BT.nil) (BT.node (o248 P) BT.nil BT.nil)) (BT.node (o150 P) (BT.node (o216 P) (BT.node (o346 P) BT.nil BT.nil) BT.nil) (BT.node (o282 P) BT.nil BT.nil))) (BT.node (o98 P) (BT.node (o132 P) (BT.node (o198 P) (BT.node (o330 P) BT.nil BT.nil) BT.nil) (BT.node (o264 P) BT.nil BT.nil)) (BT.node (o166 P) (BT.node (o232 P) BT.nil BT.nil) (BT.node (o298 P) BT.nil BT.nil))))) (BT.node (o46 P) (BT.node (o59 P) (BT.node (o75 P) (BT.node (o112 P) (BT.node (o178 P) (BT.node (o310 P) BT.nil BT.nil) BT.nil) (BT.node (o244 P) BT.nil BT.nil)) (BT.node (o146 P) (BT.node (o212 P) (BT.node (o342 P) BT.nil BT.nil) BT.nil) (BT.node (o276 P) BT.nil BT.nil))) (BT.node (o94 P) (BT.node (o128 P) (BT.node (o194 P) (BT.node (o326 P) BT.nil BT.nil) BT.nil) (BT.node (o260 P) BT.nil BT.nil)) (BT.node (o162 P) (BT.node (o228 P) (BT.node (o358 P) BT.nil BT.nil) BT.nil) (BT.node (o294 P) BT.nil BT.nil)))) (BT.node (o67 P) (BT.node (o83 P) (BT.node (o120 P) (BT.node (o186 P) (BT.node (o318 P) BT.nil BT.nil) BT.nil) (BT.node (o252 P) BT.nil BT.nil)) (BT.node (o154 P) (BT.node (o220 P) (BT.node (o350 P) BT.nil BT.nil) BT.nil) (BT.node (o286 P) BT.nil BT.nil))) (BT.node (o102 P) (BT.node (o136 P) (BT.node (o204 P) (BT.node (o334 P) BT.nil BT.nil) BT.nil) (BT.node (o268 P) BT.nil BT.nil)) (BT.node (o170 P) (BT.node (o236 P) BT.nil BT.nil) (BT.node (o302 P) BT.nil BT.nil))))))))
noncomputable def tree428 (P : Params) : BT := (BT.node (boot_o_0 P) (BT.node (boot_o_1 P) (BT.node (o359 P) (BT.node (boot_o_7 P) (BT.node (o52 P) (BT.node (o68 P) (BT.node (o103 P) (BT.node (o171 P) (BT.node (o303 P) BT.nil BT.nil) BT.nil) (BT.node (o237 P) (BT.node (o369 P) BT.nil BT.nil) BT.nil)) (BT.node (o137 P) (BT.node (o205 P) (BT.node (o335 P) BT.nil BT.nil) BT.nil) (BT.node (o269 P) (BT.node (o401 P) BT.nil BT.nil) BT.nil))) (BT.node (o84 P) (BT.node (o121 P) (BT.node (o187 P) (BT.node (o319 P) BT.nil BT.nil) BT.nil) (BT.node (o253 P) (BT.node (o385 P) BT.nil BT.nil) BT.nil)) (BT.node (o155 P) (BT.node (o221 P) (BT.node (o351 P) BT.nil BT.nil) BT.nil) (BT.node (o287 P) (BT.node (o417 P) BT.nil BT.nil) BT.nil)))) (BT.node (o60 P) (BT.node (o76 P) (BT.node (o113 P) (BT.node (o179 P) (BT.node (o311 P) BT.nil BT.nil) BT.nil) (BT.node (o245 P) (BT.node (o377 P) BT.nil BT.nil) BT.nil)) (BT.node (o147 P) (BT.node (o213 P) (BT.node (o343 P) BT.nil BT.nil) BT.nil) (BT.node (o277 P) (BT.node (o409 P) BT.nil BT.nil) BT.nil))) (BT.node (o95 P) (BT.node (o129 P) (BT.node (o195 P) (BT.node (o327 P) BT.nil BT.nil) BT.nil) (BT.node (o261 P) (BT.node (o393 P) BT.nil BT.nil) BT.nil)) (BT.node (o163 P) (BT.node (o229 P) (BT.node (o361 P) BT.nil BT.nil) BT.nil) (BT.node (o295 P) (BT.node (o425 P) BT.nil BT.nil) BT.nil))))) (BT.node (o43 P) (BT.node (o56 P) (BT.node (o72 P) (BT.node (o107 P) (BT.node (o175 P) (BT.node (o307 P) BT.nil BT.nil) BT.nil) (BT.node (o241 P) (BT.node (o373 P) BT.nil BT.nil) BT.nil)) (BT.node (o143 P) (BT.node (o209 P) (BT.node (o339 P) BT.nil BT.nil) BT.nil) (BT.node (o273 P) (BT.node (o405 P) BT.nil BT.nil) BT.nil))) (BT.node (o91 P) (BT.node (o125 P) (BT.node (o191 P) (BT.node (o323 P) BT.nil BT.nil) BT.nil) (BT.node (o257 P) (BT.node (o389 P) BT.nil BT.nil) BT.nil)) (BT.node (o159 P) (BT.node (o225 P) (BT.node (o355 P) BT.nil BT.nil) BT.nil) (BT.node (o291 P) (BT.node (o421 P) BT.nil BT.nil) BT.nil)))) (BT.node (o64 P) (BT.node (o80 P) (BT.node (o117 P) (BT.node (o183 P) (BT.node (o315 P) BT.nil BT.nil) BT.nil) (BT.node (o249 P) (BT.node (o381 P) BT.nil BT.nil) BT.nil)) (BT.node (o151 P) (BT.node (o217 P) (BT.node (o347 P) BT.nil BT.nil) BT.nil) (BT.node (o283 P) (BT.node (o413 P) BT.nil BT.nil) BT.nil))) (BT.node (o99 P) (BT.node (o133 P) (BT.node (o199 P) (BT.node (o331 P) BT.nil BT.nil) BT.nil) (BT.node (o265 P) (BT.node (o397 P) BT.nil BT.nil) BT.nil)) (BT.node (o167 P) (BT.node (o233 P) (BT.node (o365 P) BT.nil BT.nil) BT.nil) (BT.node (o299 P) BT.nil BT.nil)))))) (BT.node (boot_o_5 P) (BT.node (boot_o_9 P) (BT.node (o54 P) (BT.node (o70 P) (BT.node (o105 P) (BT.node (o173 P) (BT.node (o305 P) BT.nil BT.nil) BT.nil) (BT.node (o239 P) (BT.node (o371 P) BT.nil BT.nil) BT.nil)) (BT.node (o141 P) (BT.node (o207 P) (BT.node (o337 P) BT.nil BT.nil) BT.nil) (BT.node (o271 P) (BT.node (o403 P) BT.nil BT.nil) BT.nil))) (BT.node (o89 P) (BT.node (o123 P) (BT.node (o189 P) (BT.node (o321 P) BT.nil BT.nil) BT.nil) (BT.node (o255 P) (BT.node (o387 P) BT.nil BT.nil) BT.nil)) (BT.node (o157 P) (BT.node (o223 P) (BT.node (o353 P) BT.nil BT.nil) BT.nil) (BT.node (o289 P) (BT.node (o419 P) BT.nil BT.nil) BT.nil)))) (BT.node (o62 P) (BT.node (o78 P) (BT.node (o115 P) (BT.node (o181 P) (BT.node (o313 P) BT.nil BT.nil) BT.nil) (BT.node (o247 P) (BT.node (o379 P) BT.nil BT.nil) BT.nil)) (BT.node (o149 P) (BT.node (o215 P) (BT.node (o345 P) BT.nil BT.nil) BT.nil) (BT.node (o281 P) (BT.node (o411 P) BT.nil BT.nil) BT.nil))) (BT.node (o97 P) (BT.node (o131 P) (BT.node (o197 P) (BT.node (o329 P) BT.nil BT.nil) BT.nil) (BT.node (o263 P) (BT.node (o395 P) BT.nil BT.nil) BT.nil)) (BT.node (o165 P) (BT.node (o231 P) (BT.node (o363 P) BT.nil BT.nil) BT.nil) (BT.node (o297 P) (BT.node (o427 P) BT.nil BT.nil) BT.nil))))) (BT.node (o45 P) (BT.node (o58 P) (BT.node (o74 P) (BT.node (o111 P) (BT.node (o177 P) (BT.node (o309 P) BT.nil BT.nil) BT.nil) (BT.node (o243 P) (BT.node (o375 P) BT.nil BT.nil) BT.nil)) (BT.node (o145 P) (BT.node (o211 P) (BT.node (o341 P) BT.nil BT.nil) BT.nil) (BT.node (o275 P) (BT.node (o407 P) BT.nil BT.nil) BT.nil))) (BT.node (o93 P) (BT.node (o127 P) (BT.node (o193 P) (BT.node (o325 P) BT.nil BT.nil) BT.nil) (BT.node (o259 P) (BT.node (o391 P) BT.nil BT.nil) BT.nil)) (BT.node (o161 P) (BT.node (o227 P) (BT.node (o357 P) BT.nil BT.nil) BT.nil) (BT.node (o293 P) (BT.node (o423 P) BT.nil BT.nil) BT.nil)))) (BT.node (o66 P) (BT.node (o88 P) (BT.node (o119 P) (BT.node (o185 P) (BT.node (o317 P) BT.nil BT.nil) BT.nil) (BT.node (o251 P) (BT.node (o383 P) BT.nil BT.nil) BT.nil)) (BT.node (o153 P) (BT.node (o219 P) (BT.node (o349 P) BT.nil BT.nil) BT.nil) (BT.node (o285 P) (BT.node (o415 P) BT.nil BT.nil) BT.nil))) (BT.node (o101 P) (BT.node (o135 P) (BT.node (o201 P) (BT.node (o333 P) BT.nil BT.nil) BT.nil) (BT.node (o267 P) (BT.node (o399 P) BT.nil BT.nil) BT.nil)) (BT.node (o169 P) (BT.node (o235 P) (BT.node (o367 P) BT.nil BT.nil) BT.nil) (BT.node (o301 P) BT.nil BT.nil))))))) (BT.node (o49 P) (BT.node (boot_o_4 P) (BT.node (boot_o_8 P) (BT.node (o53 P) (BT.node (o69 P) (BT.node (o104 P) (BT.node (o172 P) (BT.node (o304 P) BT.nil BT.nil) BT.nil) (BT.node (o238 P) (BT.node (o370 P) BT.nil BT.nil) BT.nil)) (BT.node (o138 P) (BT.node (o206 P) (BT.node (o336 P) BT.nil BT.nil) BT.nil) (BT.node (o270 P) (BT.node (o402 P) BT.nil BT.nil) BT.nil))) (BT.node (o85 P) (BT.node (o122 P) (BT.node (o188 P) (BT.node (o320 P) BT.nil BT.nil) BT.nil) (BT.node (o254 P) (BT.node (o386 P) BT.nil BT.nil) BT.nil)) (BT.node (o156 P) (BT.node (o222 P) (BT.node (o352 P) BT.nil BT.nil) BT.nil) (BT.node (o288 P) (BT.node (o418 P) BT.nil BT.nil) BT.nil)))) (BT.node (o61 P) (BT.node (o77 P) (BT.node (o114 P) (BT.node (o180 P) (BT.node (o312 P) BT.nil BT.nil) BT.nil) (BT.node (o246 P) (BT.node (o378 P) BT.nil BT.nil) BT.nil)) (BT.node (o148 P) (BT.node (o214 P) (BT.node (o344 P) BT.nil BT.nil) BT.nil) (BT.node (o278 P) (BT.node (o410 P) BT.nil BT.nil) BT.nil))) (BT.node (o96 P) (BT.node (o130 P) (BT.node (o196 P) (BT.node (o328 P) BT.nil BT.nil) BT.nil) (BT.node (o262 P) (BT.node (o394 P) BT.nil BT.nil) BT.nil)) (BT.node (o164 P) (BT.node (o230 P) (BT.node (o362 P) BT.nil BT.nil) BT.nil) (BT.node (o296 P) (BT.node (o426 P) BT.nil BT.nil) BT.nil))))) (BT.node (o360 P) (BT.node (o57 P) (BT.node (o73 P) (BT.node (o110 P) (BT.node (o176 P) (BT.node (o308 P) BT.nil BT.nil) BT.nil) (BT.node (o242 P) (BT.node (o374 P) BT.nil BT.nil) BT.nil)) (BT.node (o144 P) (BT.node (o210 P) (BT.node (o340 P) BT.nil BT.nil) BT.nil) (BT.node (o274 P) (BT.node (o406 P) BT.nil BT.nil) BT.nil))) (BT.node (o92 P) (BT.node (o126 P) (BT.node (o192 P) (BT.node (o324 P) BT.nil BT.nil) BT.nil) (BT.node (o258 P) (BT.node (o390 P) BT.nil BT.nil) BT.nil)) (BT.node (o160 P) (BT.node (o226 P) (BT.node (o356 P) BT.nil BT.nil) BT.nil) (BT.node (o292 P) (BT.node (o422 P) BT.nil BT.nil) BT.nil)))) (BT.node (o65 P) (BT.node (o81 P) (BT.node (o118 P) (BT.node (o184 P) (BT.node (o316 P) BT.nil BT.nil) BT.nil) (BT.node (o250 P) (BT.node (o382 P) BT.nil BT.nil) BT.nil)) (BT.node (o152 P) (BT.node (o218 P) (BT.node (o348 P) BT.nil BT.nil) BT.nil) (BT.node (o284 P) (BT.node (o414 P) BT.nil BT.nil) BT.nil))) (BT.node (o100 P) (BT.node (o134 P) (BT.node (o200 P) (BT.node (o332 P) BT.nil BT.nil) BT.nil) (BT.node (o266 P) (BT.node (o398 P) BT.nil BT.nil) BT.nil)) (BT.node (o168 P) (BT.node (o234 P) (BT.node (o366 P) BT.nil BT.nil) BT.nil) (BT.node (o300 P) BT.nil BT.nil)))))) (BT.node (boot_o_6 P) (BT.node (boot_o_10 P) (BT.node (o55 P) (BT.node (o71 P) (BT.node (o106 P) (BT.node (o174 P) (BT.node (o306 P) BT.nil BT.nil) BT.nil) (BT.node (o240 P) (BT.node (o372 P) BT.nil BT.nil) BT.nil)) (BT.node (o142 P) (BT.node (o208 P) (BT.node (o338 P) BT.nil BT.nil) BT.nil) (BT.node (o272 P) (BT.node (o404 P) BT.nil BT.nil) BT.nil))) (BT.node (o90 P) (BT.node (o124 P) (BT.node (o190 P) (BT.node (o322 P) BT.nil BT.nil) BT.nil) (BT.node (o256 P) (BT.node (o388 P) BT.nil BT.nil) BT.nil)) (BT.node (o158 P) (BT.node (o224 P) (BT.node (o354 P) BT.nil BT.nil) BT.nil) (BT.node (o290 P) (BT.node (o420 P) BT.nil BT.nil) BT.nil)))) (BT.node (o63 P) (BT.node (o79 P) (BT.node (o116 P) (BT.node (o182 P) (BT.node (o314 P) BT.nil BT.nil) BT.nil) (BT.node (o248 P) (BT.node (o380 P) BT.nil BT.nil) BT.nil)) (BT.node (o150 P) (BT.node (o216 P) (BT.node (o346 P) BT.nil BT.nil) BT.nil) (BT.node (o282 P) (BT.node (o412 P) BT.nil BT.nil) BT.nil))) (BT.node (o98 P) (BT.node (o132 P) (BT.node (o198 P) (BT.node (o330 P) BT.nil BT.nil) BT.nil) (BT.node (o264 P) (BT.node (o396 P) BT.nil BT.nil) BT.nil)) (BT.node (o166 P) (BT.node (o232 P) (BT.node (o364 P) BT.nil BT.nil) BT.nil) (BT.node (o298 P) (BT.node (o428 P) BT.nil BT.nil) BT.nil))))) (BT.node (o46 P) (BT.node (o59 P) (BT.node (o75 P) (BT.node (o112 P) (BT.node (o178 P) (BT.node (o310 P) BT.nil BT.nil) BT.nil) (BT.node (o244 P) (BT.node (o376 P) BT.nil BT.nil) BT.nil)) (BT.node (o146 P) (BT.node (o212 P) (BT.node (o342 P) BT.nil BT.nil) BT.nil) (BT.node (o276 P) (BT.node (o408 P) BT.nil BT.nil) BT.nil))) (BT.node (o94 P) (BT.node (o128 P) (BT.node (o194 P) (BT.node (o326 P) BT.nil BT.nil) BT.nil) (BT.node (o260 P) (BT.node (o392 P) BT.nil BT.nil) BT.nil)) (BT.node (o162 P) (BT.node (o228 P) (BT.node (o358 P) BT.nil BT.nil) BT.nil) (BT.node (o294 P) (BT.node (o424 P) BT.nil BT.nil) BT.nil)))) (BT.node (o67 P) (BT.node (o83 P) (BT.node (o120 P) (BT.node (o186 P) (BT.node (o318 P) BT.nil BT.nil) BT.nil) (BT.node (o252 P) (BT.node (o384 P) BT.nil BT.nil) BT.nil)) (BT.node (o154 P) (BT.node (o220 P) (BT.node (o350 P) BT.nil BT.nil) BT.nil) (BT.node (o286 P) (BT.node (o416 P) BT.nil BT.nil) BT.nil))) (BT.node (o102 P) (BT.node (o136 P) (BT.node (o204 P) (BT.node (o334 P) BT.nil BT.nil) BT.nil) (BT.node (o268 P) (BT.node (o400 P) BT.nil BT.nil) BT.nil)) (BT.node (o170 P) (BT.node (o236 P) (BT.node (o368 P) BT.nil BT.nil) BT.nil) (BT.node (o302 P) BT.nil BT.nil))))))))
noncomputable def heap46 (P : Params) : Heap := (Heap.mk ⟨[(boot_o_0 P), (boot_o_1 P), (boot_o_2 P), (boot_o_3 P), (boot_o_4 P), (boot_o_5 P), (boot_o_6 P), (boot_o_7 P), (boot_o_8 P), (boot_o_9 P), (boot_o_10 P), (o43 P), (o44 P), (o45 P), (o46 P)]⟩ (Life.mk [] [] [] 0 [] [] Bool.false #[] [] 0 Bool.false Bool.false Bool.false 0 [2000, 10, 10] Bool.false 0 Bool.true [] [] 0 Bool.false))
noncomputable def heap429 (P : Params) : Heap := (Heap.mk ⟨[(boot_o_0 P), (boot_o_1 P), (o49 P), (o359 P), (boot_o_4 P), (boot_o_5 P), (boot_o_6 P), (boot_o_7 P), (boot_o_8 P), (boot_o_9 P), (boot_o_10 P), (o43 P), (o360 P), (o45 P), (o46 P), (o52 P), (o53 P), (o54 P), (o55 P), (o56 P), (o57 P), (o58 P), (o59 P), (o60 P), (o61 P), (o62 P), (o63 P), (o64 P), (o65 P), (o66 P), (o67 P), (o68 P), (o69 P), (o70 P), (o71 P), (o72 P), (o73 P), (o74 P), (o75 P), (o76 P), (o77 P), (o78 P), (o79 P), (o80 P), (o81 P), (o88 P), (o83 P), (o84 P), (o85 P), (o89 P), (o90 P), (o91 P), (o92 P), (o93 P), (o94 P), (o95 P), (o96 P), (o97 P), (o98 P), (o99 P), (o100 P), (o101 P), (o102 P), (o103 P), (o104 P), (o105 P), (o106 P), (o107 P), (o110 P), (o111 P), (o112 P), (o113 P), (o114 P), (o115 P), (o116 P), (o117 P), (o118 P), (o119 P), (o120 P), (o121 P), (o122 P), (o123 P), (o124 P), (o125 P), (o126 P), (o127 P), (o128 P), (o129 P), (o130 P), (o131 P), (o132 P), (o133 P), (o134 P), (o135 P), (o136 P), (o137 P), (o138 P), (o141 P), (o142 P), (o143 P), (o144 P), (o145 P), (o146 P), (o147 P), (o148 P), (o149 P), (o150 P), (o151 P), (o152 P), (o153 P), (o154 P), (o155 P), (o156 P), (o157 P), (o158 P), (o159 P), (o160 P), (o161 P), (o162 P), (o163 P), (o164 P), (o165 P), (o166 P), (o167 P), (o168 P), (o169 P), (o170 P), (o171 P), (o172 P), (o173 P), (o174 P), (o175 P), (o176 P), (o177 P), (o178 P), (o179 P), (o180 P), (o181 P), (o182 P), (o183 P), (o184 P), (o185 P), (o186 P), (o187 P), (o188 P), (o189 P), (o190 P), (o191 P), (o192 P), (o193 P), (o194 P), (o195 P), (o196 P), (o197 P), (o198 P), (o199 P), (o200 P), (o201 P), (o204 P), (o205 P), (o206 P), (o207 P), (o208 P), (o209 P), (o210 P), (o211 P), (o212 P), (o213 P), (o214 P), (o215 P), (o216 P), (o217 P), (o218 P), (o219 P), (o220 P), (o221 P), (o222 P), (o223 P), (o224 P), (o225 P), (o226 P), (o227 P), (o228 P), (o229 P), (o230 P), (o231 P), (o232 P), (o233 P), (o234 P), (o235 P), (o236 P), (o237 P), (o238 P), (o239 P), (o240 P), (o241 P), (o242 P), (o243 P), (o244 P), (o245 P), (o246 P), (o247 P), (o248 P), (o249 P), (o250 P), (o251 P), (o252 P), (o253 P), (o254 P), (o255 P), (o256 P), (o257 P), (o258 P), (o259 P), (o260 P), (o261 P), (o262 P), (o263 P), (o264 P), (o265 P), (o266 P), (o267 P), (o268 P), (o269 P), (o270 P), (o271 P), (o272 P), (o273 P), (o274 P), (o275 P), (o276 P), (o277 P), (o278 P), (o281 P), (o282 P), (o283 P), (o284 P), (o285 P), (o286 P), (o287 P), (o288 P), (o289 P), (o290 P), (o291 P), (o292 P), (o293 P), (o294 P), (o295 P), (o296 P), (o297 P), (o298 P), (o299 P), (o300 P), (o301 P), (o302 P), (o303 P), (o304 P), (o305 P), (o306 P), (o307 P), (o308 P), (o309 P), (o310 P), (o311 P), (o312 P), (o313 P), (o314 P), (o315 P), (o316 P), (o317 P), (o318 P), (o319 P), (o320 P), (o321 P), (o322 P), (o323 P), (o324 P), (o325 P), (o326 P), (o327 P), (o328 P), (o329 P), (o330 P), (o331 P), (o332 P), (o333 P), (o334 P), (o335 P), (o336 P), (o337 P), (o338 P), (o339 P), (o340 P), (o341 P), (o342 P), (o343 P), (o344 P), (o345 P), (o346 P), (o347 P), (o348 P), (o349 P), (o350 P), (o351 P), (o352 P), (o353 P), (o354 P), (o355 P), (o356 P), (o357 P), (o358 P), (o361 P), (o362 P), (o363 P), (o364 P), (o365 P), (o366 P), (o367 P), (o368 P), (o369 P), (o370 P), (o371 P), (o372 P), (o373 P), (o374 P), (o375 P), (o376 P), (o377 P), (o378 P), (o379 P), (o380 P), (o381 P), (o382 P), (o383 P), (o384 P), (o385 P), (o386 P), (o387 P), (o388 P), (o389 P), (o390 P), (o391 P), (o392 P), (o393 P), (o394 P), (o395 P), (o396 P), (o397 P), (o398 P), (o399 P), (o400 P), (o401 P), (o402 P), (o403 P), (o404 P), (o405 P), (o406 P), (o407 P), (o408 P), (o409 P), (o410 P), (o411 P), (o412 P), (o413 P), (o414 P), (o415 P), (o416 P), (o417 P), (o418 P), (o419 P), (o420 P), (o421 P), (o422 P), (o423 P), (o424 P), (o425 P), (o426 P), (o427 P), (o428 P)]⟩ (Life.mk [] [] [] 0 [] [] Bool.false #[] [] 0 Bool.false Bool.false Bool.false 0 [2000, 10, 10] Bool.false 0 Bool.true [] [] 0 Bool.false))
noncomputable def Kh (P : Params) : Frag := (nat_lit 2, (o49 P)) :: (nat_lit 3, (o359 P)) :: (nat_lit 15, (o52 P)) :: (nat_lit 17, (o54 P)) :: (nat_lit 18, (o55 P)) :: (nat_lit 20, (o57 P)) :: (nat_lit 21, (o58 P)) :: (nat_lit 22, (o59 P)) :: (nat_lit 24, (o61 P)) :: (nat_lit 25, (o62 P)) :: (nat_lit 27, (o64 P)) :: (nat_lit 28, (o65 P)) :: (nat_lit 29, (o66 P)) :: (nat_lit 31, (o68 P)) :: (nat_lit 32, (o69 P)) :: (nat_lit 34, (o71 P)) :: (nat_lit 35, (o72 P)) :: (nat_lit 36, (o73 P)) :: (nat_lit 43, (o80 P)) :: (nat_lit 44, (o81 P)) :: (nat_lit 45, (o88 P)) :: (nat_lit 46, (o83 P)) :: (nat_lit 49, (o89 P)) :: (nat_lit 56, (o96 P)) :: (nat_lit 58, (o98 P)) :: (nat_lit 59, (o99 P)) :: (nat_lit 61, (o101 P)) :: (nat_lit 62, (o102 P)) :: (nat_lit 63, (o103 P)) :: (nat_lit 64, (o104 P)) :: (nat_lit 65, (o105 P)) :: (nat_lit 75, (o117 P)) :: (nat_lit 76, (o118 P)) :: (nat_lit 78, (o120 P)) :: (nat_lit 79, (o121 P)) :: (nat_lit 81, (o123 P)) :: (nat_lit 82, (o124 P)) :: (nat_lit 83, (o125 P)) :: (nat_lit 85, (o127 P)) :: (nat_lit 86, (o128 P)) :: (nat_lit 88, (o130 P)) :: (nat_lit 89, (o131 P)) :: (nat_lit 90, (o132 P)) :: (nat_lit 91, (o133 P)) :: (nat_lit 92, (o134 P)) :: (nat_lit 93, (o135 P)) :: (nat_lit 94, (o136 P)) :: (nat_lit 104, (o148 P)) :: (nat_lit 106, (o150 P)) :: (nat_lit 107, (o151 P)) :: (nat_lit 109, (o153 P)) :: (nat_lit 110, (o154 P)) :: (nat_lit 111, (o155 P)) :: (nat_lit 113, (o157 P)) :: (nat_lit 114, (o158 P)) :: (nat_lit 116, (o160 P)) :: (nat_lit 117, (o161 P)) :: (nat_lit 118, (o162 P)) :: (nat_lit 120, (o164 P)) :: (nat_lit 121, (o165 P)) :: (nat_lit 123, (o167 P)) :: (nat_lit 124, (o168 P)) :: (nat_lit 125, (o169 P)) :: (nat_lit 127, (o171 P)) :: (nat_lit 128, (o172 P)) :: (nat_lit 130, (o174 P)) :: (nat_lit 131, (o175 P)) :: (nat_lit 132, (o176 P)) :: (nat_lit 134, (o178 P)) :: (nat_lit 135, (o179 P)) :: (nat_lit 137, (o181 P)) :: (nat_lit 138, (o182 P)) :: (nat_lit 139, (o183 P)) :: (nat_lit 141, (o185 P)) :: (nat_lit 142, (o186 P)) :: (nat_lit 144, (o188 P)) :: (nat_lit 145, (o189 P)) :: (nat_lit 146, (o190 P)) :: (nat_lit 149, (o193 P)) :: (nat_lit 150, (o194 P)) :: (nat_lit 151, (o195 P)) :: (nat_lit 152, (o196 P)) :: (nat_lit 153, (o197 P)) :: (nat_lit 154, (o198 P)) :: (nat_lit 155, (o199 P)) :: (nat_lit 158, (o204 P)) :: (nat_lit 160, (o206 P)) :: (nat_lit 161, (o207 P)) :: (nat_lit 163, (o209 P)) :: (nat_lit 164, (o210 P)) :: (nat_lit 165, (o211 P)) :: (nat_lit 167, (o213 P)) :: (nat_lit 168, (o214 P)) :: (nat_lit 170, (o216 P)) :: (nat_lit 171, (o217 P)) :: (nat_lit 172, (o218 P)) :: (nat_lit 174, (o220 P)) :: (nat_lit 175, (o221 P)) :: (nat_lit 177, (o223 P)) :: (nat_lit 178, (o224 P)) :: (nat_lit 179, (o225 P)) :: (nat_lit 182, (o228 P)) :: (nat_lit 183, (o229 P)) :: (nat_lit 184, (o230 P)) :: (nat_lit 185, (o231 P)) :: (nat_lit 188, (o234 P)) :: (nat_lit 189, (o235 P)) :: (nat_lit 190, (o236 P)) :: (nat_lit 192, (o238 P)) :: (nat_lit 193, (o239 P)) :: (nat_lit 195, (o241 P)) :: (nat_lit 196, (o242 P)) :: (nat_lit 197, (o243 P)) :: (nat_lit 198, (o244 P)) :: (nat_lit 201, (o247 P)) :: (nat_lit 202, (o248 P)) :: (nat_lit 203, (o249 P)) :: (nat_lit 204, (o250 P)) :: (nat_lit 205, (o251 P)) :: (nat_lit 207, (o253 P)) :: (nat_lit 208, (o254 P)) :: (nat_lit 210, (o256 P)) :: (nat_lit 211, (o257 P)) :: (nat_lit 212, (o258 P)) :: (nat_lit 214, (o260 P)) :: (nat_lit 215, (o261 P)) :: (nat_lit 217, (o263 P)) :: (nat_lit 218, (o264 P)) :: (nat_lit 219, (o265 P)) :: (nat_lit 221, (o267 P)) :: (nat_lit 222, (o268 P)) :: (nat_lit 224, (o270 P)) :: (nat_lit 225, (o271 P)) :: (nat_lit 226, (o272 P)) :: (nat_lit 228, (o274 P)) :: (nat_lit 229, (o275 P)) :: (nat_lit 231, (o277 P)) :: (nat_lit 232, (o278 P)) :: (nat_lit 233, (o281 P)) :: (nat_lit 235, (o283 P)) :: (nat_lit 236, (o284 P)) :: (nat_lit 238, (o286 P)) :: (nat_lit 239, (o287 P)) :: (nat_lit 240, (o288 P)) :: (nat_lit 242, (o290 P)) :: (nat_lit 243, (o291 P)) :: (nat_lit 245, (o293 P)) :: (nat_lit 246, (o294 P)) :: (nat_lit 247, (o295 P)) :: (nat_lit 249, (o297 P)) :: (nat_lit 250, (o298 P)) :: (nat_lit 252, (o300 P)) :: (nat_lit 253, (o301 P)) :: (nat_lit 254, (o302 P)) :: (nat_lit 256, (o304 P)) :: (nat_lit 257, (o305 P)) :: (nat_lit 259, (o307 P)) :: (nat_lit 260, (o308 P)) :: (nat_lit 261, (o309 P)) :: (nat_lit 263, (o311 P)) :: (nat_lit 264, (o312 P)) :: (nat_lit 266, (o314 P)) :: (nat_lit 267, (o315 P)) :: (nat_lit 268, (o316 P)) :: (nat_lit 270, (o318 P)) :: (nat_lit 271, (o319 P)) :: (nat_lit 273, (o321 P)) :: (nat_lit 274, (o322 P)) :: (nat_lit 275, (o323 P)) :: (nat_lit 277, (o325 P)) :: (nat_lit 278, (o326 P)) :: (nat_lit 280, (o328 P)) :: (nat_lit 281, (o329 P)) :: (nat_lit 282, (o330 P)) :: (nat_lit 284, (o332 P)) :: (nat_lit 285, (o333 P)) :: (nat_lit 287, (o335 P)) :: (nat_lit 288, (o336 P)) :: (nat_lit 289, (o337 P)) :: (nat_lit 292, (o340 P)) :: (nat_lit 293, (o341 P)) :: (nat_lit 294, (o342 P)) :: (nat_lit 297, (o345 P)) :: (nat_lit 298, (o346 P)) :: (nat_lit 299, (o347 P)) :: (nat_lit 302, (o350 P)) :: (nat_lit 303, (o351 P)) :: (nat_lit 304, (o352 P)) :: (nat_lit 306, (o354 P)) :: (nat_lit 307, (o355 P)) :: (nat_lit 309, (o357 P)) :: (nat_lit 310, (o358 P)) :: (nat_lit 311, (o361 P)) :: (nat_lit 313, (o363 P)) :: (nat_lit 314, (o364 P)) :: (nat_lit 316, (o366 P)) :: (nat_lit 317, (o367 P)) :: (nat_lit 318, (o368 P)) :: (nat_lit 320, (o370 P)) :: (nat_lit 321, (o371 P)) :: (nat_lit 323, (o373 P)) :: (nat_lit 324, (o374 P)) :: (nat_lit 325, (o375 P)) :: (nat_lit 327, (o377 P)) :: (nat_lit 328, (o378 P)) :: (nat_lit 330, (o380 P)) :: (nat_lit 331, (o381 P)) :: (nat_lit 332, (o382 P)) :: (nat_lit 334, (o384 P)) :: (nat_lit 335, (o385 P)) :: (nat_lit 337, (o387 P)) :: (nat_lit 338, (o388 P)) :: (nat_lit 339, (o389 P)) :: (nat_lit 341, (o391 P)) :: (nat_lit 342, (o392 P)) :: (nat_lit 344, (o394 P)) :: (nat_lit 345, (o395 P)) :: (nat_lit 346, (o396 P)) :: (nat_lit 348, (o398 P)) :: (nat_lit 349, (o399 P)) :: (nat_lit 351, (o401 P)) :: (nat_lit 352, (o402 P)) :: (nat_lit 353, (o403 P)) :: (nat_lit 355, (o405 P)) :: (nat_lit 356, (o406 P)) :: (nat_lit 358, (o408 P)) :: (nat_lit 359, (o409 P)) :: (nat_lit 360, (o410 P)) :: (nat_lit 362, (o412 P)) :: (nat_lit 363, (o413 P)) :: (nat_lit 365, (o415 P)) :: (nat_lit 366, (o416 P)) :: (nat_lit 367, (o417 P)) :: (nat_lit 369, (o419 P)) :: (nat_lit 370, (o420 P)) :: (nat_lit 372, (o422 P)) :: (nat_lit 373, (o423 P)) :: (nat_lit 374, (o424 P)) :: (nat_lit 377, (o427 P)) :: (nat_lit 378, (o428 P)) :: []
noncomputable def sts49 : List Stmt := [c 0, c 1, c 2, c 3, c 4, c 5]
noncomputable def sts86 : List Stmt := [c 6, c 7]
noncomputable def sts108 : List Stmt := [c 8, c 9]
noncomputable def sts139 : List Stmt := [c 10]
noncomputable def sts202 : List Stmt := [c 11, c 12, c 13, c 14, c 15, c 16, c 17, c 18, c 19, c 20, c 21, c 22, c 23, c 24, c 25, c 26]
noncomputable def sts279 : List Stmt := [c 27, c 28, c 29, c 30, c 31, c 32, c 33, c 34, c 35, c 36, c 37, c 38, c 39, c 40, c 41]
noncomputable def sts359 : List Stmt := [c 42, c 43, c 44, c 45, c 46, c 47, c 48, c 49, c 50, c 51, c 52]

noncomputable def view39 : Program := view pw [0, 2, 3, 5, 6, 8, 10, 11, 12, 13, 14, 16, 19, 20, 21, 22, 23, 24, 25, 26, 27, 28, 29, 30, 31, 32, 33, 35, 36, 37, 38, 39, 41, 42, 43, 44, 46, 47, 48, 49, 50, 51, 52]
noncomputable def env41 : Env := { scope := pw.main.scope, locals := mainNs, globals := mainNs, cells := [], code := Value.ref 13, frame := some 14 }
noncomputable abbrev ann0 : Option Value := some (Value.ref 6)
noncomputable abbrev code0 : Code := Code.body (behindTheImports pw) env41
noncomputable abbrev st (t : Params → BT) (n k : Nat) (w : World) (os : OsState) : SharedT := { tree := t w.params, n := n, life := {}, gens := ⟨[]⟩, drawn := {}, toks := k, os := os }
theorem h_pre : ∀ w : World, (fun os => topGo treeTable pw w 11 ann0 12 { heap := boot_heap w.params, gens := ⟨[]⟩, drawn := boot_drawn, toks := boot_toks, os := os } (topStub pw)) =
    fun os => some ({ heap := heap46 w.params, gens := ⟨[]⟩, drawn := {}, toks := 187, os := os }, ⟨denote treeTable code0, code0, ⟨0, 0, 0, 0⟩, [topFrame ⟨0, 0, 0, 0⟩]⟩) := by
  rw [PySem.W.Fast.te15667345088766844465, PySem.W.Fast.te11892475500146522536, PySem.W.Fast.te14364793385576792824]; intro w; kernel_rfl
theorem h_block : ∀ w : World, (fun os => segRun treeTable pw w 11 ann0 1 1 { heap := heap46 w.params, gens := ⟨[]⟩, drawn := {}, toks := 187, os := os } (blockOf (behindTheImports pw) env41 code0 ⟨0, 0, 0, 0⟩ [topFrame ⟨0, 0, 0, 0⟩])) =
    fun os => some (Flow.next, (st tree47 15 187 w os).abs, code0, ⟨0, 0, 0, 0⟩) := by
  rw [PySem.W.Fast.te14374325043358763698, PySem.W.Fast.te14364793385576792824]; intro w; kernel_rfl
theorem h_piece49 : ∀ w : World, (fun os => segRunT treeTable pw w 11 ann0 1 304 (st tree47 15 187 w os) (piecesOf sts49 env41 code0 ⟨0, 0, 0, 0⟩ [topFrame ⟨0, 0, 0, 0⟩])) =
    fun os => some (Flow.next, st tree85 49 234 w os, code0, ⟨14, 0, 15, 8⟩) := by
  rw [PySem.W.Fast.te10110043849684766642, PySem.W.Fast.te14364793385576792824]; intro w; kernel_rfl
theorem h_piece86 : ∀ w : World, (fun os => segRunT treeTable pw w 11 ann0 1 255 (st tree85 49 234 w os) (piecesOf sts86 env41 code0 ⟨14, 0, 15, 8⟩ [topFrame ⟨0, 0, 0, 0⟩])) =
    fun os => some (Flow.next, st tree107 68 261 w os, code0, ⟨20, 0, 20, 8⟩) := by
  rw [PySem.W.Fast.te10110043849684766642, PySem.W.Fast.te14364793385576792824]; intro w; kernel_rfl
theorem h_piece108 : ∀ w : World, (fun os => segRunT treeTable pw w 11 ann0 1 270 (st tree107 68 261 w os) (piecesOf sts108 env41 code0 ⟨20, 0, 20, 8⟩ [topFrame ⟨0, 0, 0, 0⟩])) =
    fun os => some (Flow.next, st tree138 97 305 w os, code0, ⟨32, 0, 32, 8⟩) := by
  rw [PySem.W.Fast.te10110043849684766642, PySem.W.Fast.te14364793385576792824]; intro w; kernel_rfl
theorem h_piece139 : ∀ w : World, (fun os => segRunT treeTable pw w 11 ann0 1 419 (st tree138 97 305 w os) (piecesOf sts139 env41 code0 ⟨32, 0, 32, 8⟩ [topFrame ⟨0, 0, 0, 0⟩])) =
    fun os => some (Flow.next, st tree201 158 388 w os, code0, ⟨33, 0, 85, 82⟩) := by
  rw [PySem.W.Fast.te10110043849684766642, PySem.W.Fast.te14364793385576792824]; intro w; kernel_rfl
theorem h_piece202 : ∀ w : World, (fun os => segRunT treeTable pw w 11 ann0 1 382 (st tree201 158 388 w os) (piecesOf sts202 env41 code0 ⟨33, 0, 85, 82⟩ [topFrame ⟨0, 0, 0, 0⟩])) =
    fun os => some (Flow.next, st tree278 233 486 w os, code0, ⟨162, 0, 165, 17⟩) := by
  rw [PySem.W.Fast.te10110043849684766642, PySem.W.Fast.te14364793385576792824]; intro w; kernel_rfl
theorem h_piece279 : ∀ w : World, (fun os => segRunT treeTable pw w 11 ann0 1 383 (st tree278 233 486 w os) (piecesOf sts279 env41 code0 ⟨162, 0, 165, 17⟩ [topFrame ⟨0, 0, 0, 0⟩])) =
    fun os => some (Flow.next, st tree358 311 585 w os, code0, ⟨223, 0, 226, 17⟩) := by
  rw [PySem.W.Fast.te10110043849684766642, PySem.W.Fast.te14364793385576792824]; intro w; kernel_rfl
theorem h_piece359 : ∀ w : World, (fun os => segRunT treeTable pw w 11 ann0 1 328 (st tree358 311 585 w os) (piecesOf sts359 env41 code0 ⟨223, 0, 226, 17⟩ [topFrame ⟨0, 0, 0, 0⟩])) =
    fun os => some (Flow.next, st tree428 379 687 w os, code0, ⟨313, 0, 333, 67⟩) := by
  rw [PySem.W.Fast.te10110043849684766642, PySem.W.Fast.te14364793385576792824]; intro w; kernel_rfl
theorem h_fin : ∀ w : World, (fun os => topRun treeTable pw w 11 ann0 2 (st tree428 379 687 w os).abs ⟨doneF .next, code0, ⟨313, 0, 333, 67⟩, [topFrame ⟨0, 0, 0, 0⟩]⟩) =
    fun os => some { heap := heap429 w.params, gens := ⟨[]⟩, drawn := {}, toks := 687, os := os } := by
  rw [PySem.W.Fast.te14082659384304107361, PySem.W.Fast.te14364793385576792824]; intro w; kernel_rfl
theorem h_cut : (sts49 ++ (sts86 ++ (sts108 ++ (sts139 ++ (sts202 ++ (sts279 ++ (sts359 ++ ([])))))))) = behindTheImports pw := by kernel_rfl
theorem h_run (w : World) (os : OsState) : topRun treeTable pw w 11 ann0 (12 + (1 + (304 + (255 + (270 + (419 + (382 + (383 + (328 + 2))))))))) { heap := boot_heap w.params, gens := ⟨[]⟩, drawn := boot_drawn, toks := boot_toks, os := os } (topStub pw) = some { heap := heap429 w.params, gens := ⟨[]⟩, drawn := {}, toks := 687, os := os } := by
  refine go_top (congrFun (h_pre w) os) (piece_block (congrFun (h_block w) os) ?_)
  have e := h_cut
  have hp : ∀ b, sts49 ++ (sts86 ++ (sts108 ++ (sts139 ++ (sts202 ++ (sts279 ++ (sts359 ++ ([]))))))) = b → topRun treeTable pw w 11 ann0 (304 + (255 + (270 + (419 + (382 + (383 + (328 + 2))))))) (st tree47 15 187 w os).abs (restOf b env41 code0 ⟨0, 0, 0, 0⟩ [topFrame ⟨0, 0, 0, 0⟩]) = some { heap := heap429 w.params, gens := ⟨[]⟩, drawn := {}, toks := 687, os := os } := by
    rintro _ rfl
    refine piece_app (segRun_of (congrFun (h_piece49 w) os)) ?_
    refine piece_app (segRun_of (congrFun (h_piece86 w) os)) ?_
    refine piece_app (segRun_of (congrFun (h_piece108 w) os)) ?_
    refine piece_app (segRun_of (congrFun (h_piece139 w) os)) ?_
    refine piece_app (segRun_of (congrFun (h_piece202 w) os)) ?_
    refine piece_app (segRun_of (congrFun (h_piece279 w) os)) ?_
    refine piece_app (segRun_of (congrFun (h_piece359 w) os)) ?_
    exact congrFun (h_fin w) os
  exact hp _ h_cut
noncomputable def asK : List Addr := [2, 3, 15, 17, 18, 20, 21, 22, 24, 25, 27, 28, 29, 31, 32, 34, 35, 36, 43, 44, 45, 46, 49, 56, 58, 59, 61, 62, 63, 64, 65, 75, 76, 78, 79, 81, 82, 83, 85, 86, 88, 89, 90, 91, 92, 93, 94, 104, 106, 107, 109, 110, 111, 113, 114, 116, 117, 118, 120, 121, 123, 124, 125, 127, 128, 130, 131, 132, 134, 135, 137, 138, 139, 141, 142, 144, 145, 146, 149, 150, 151, 152, 153, 154, 155, 158, 160, 161, 163, 164, 165, 167, 168, 170, 171, 172, 174, 175, 177, 178, 179, 182, 183, 184, 185, 188, 189, 190, 192, 193, 195, 196, 197, 198, 201, 202, 203, 204, 205, 207, 208, 210, 211, 212, 214, 215, 217, 218, 219, 221, 222, 224, 225, 226, 228, 229, 231, 232, 233, 235, 236, 238, 239, 240, 242, 243, 245, 246, 247, 249, 250, 252, 253, 254, 256, 257, 259, 260, 261, 263, 264, 266, 267, 268, 270, 271, 273, 274, 275, 277, 278, 280, 281, 282, 284, 285, 287, 288, 289, 292, 293, 294, 297, 298, 299, 302, 303, 304, 306, 307, 309, 310, 311, 313, 314, 316, 317, 318, 320, 321, 323, 324, 325, 327, 328, 330, 331, 332, 334, 335, 337, 338, 339, 341, 342, 344, 345, 346, 348, 349, 351, 352, 353, 355, 356, 358, 359, 360, 362, 363, 365, 366, 367, 369, 370, 372, 373, 374, 377, 378]
noncomputable abbrev loose0 : List Str := [Str.ofString "match_names", Str.ofString "take", Str.ofString "MOST_PART"]
noncomputable abbrev fs (w : World) (os : OsState) : Shared := { heap := heap429 w.params, gens := ⟨[]⟩, drawn := {}, toks := 687, os := os }
noncomputable abbrev rw0 : OpenLaw := PySem.Challenge.rw_pq1404_01
noncomputable abbrev H : Hook := kmHook Kh asK (fun _ => by kernel_rfl) [319]
noncomputable abbrev Xt0 (s : Shared) : Bool := xlAt view39 [] s && recOk (RowW.records rw0.row.toRowW) s
theorem l_st : ∀ (w : World) (os : OsState), (staticsOk (importedModules pw.main.body) (boot_heap w.params) (fs w os).heap && namesBound pw (fs w os).heap && gensDone (fs w os) && laidKept (boot_heap w.params) (fs w os).heap) = true := by
  rw [PySem.W.Fast.te5923862056798008813]; intro w os; kernel_rfl
theorem l_a : ∀ (w : World) (os : OsState), (seen ((recsOf view39).map (·.name)) (ownsOf view39) [] { fs w os with gens := #[] }) = expectedOf view39 := by
  rw [PySem.W.Fast.te5160383126252970620, PySem.W.Fast.te3399658132070893891, PySem.W.Fast.te5991557255702980513]; intro w os; kernel_rfl
theorem l_b : ∀ (w : World) (os : OsState), ((fs w os).heap.bltView) = bltViewBooted := by
  intro w os; kernel_rfl
theorem l_c : ∀ (w : World) (os : OsState), ((fs w os).heap.keysOk (looseW view39 loose0) ((recsOf view39).map (·.name)) ((litsOf view39).map (·.1)) ((clssOf view39 (looseW view39 loose0)).map (·.name)) && (fs w os).heap.accountedOkI (importedModules pw.main.body) && (fs w os).heap.isNs mainGlobals && (fs w os).heap.isNs builtinsNs && tablesOk view39 (fs w os).heap && Xt0 (fs w os) && (if true then (fs w os).gens.size == 0 else !leftWithCleanup (fs w os).gens)) = true := by
  rw [PySem.W.Fast.te10880121769531294198, PySem.W.Fast.te821141287760084731, PySem.W.Fast.te3399658132070893891, PySem.W.Fast.te7409074990110511671, PySem.W.Fast.te13664370479719496447, PySem.W.Fast.te14722251495701143533, PySem.W.Fast.te5923862056798008813, PySem.W.Fast.te10994771534591457954]; intro w os; kernel_rfl
theorem l_d : ∀ (w : World) (os : OsState), (tabsOk view39 (fs w os)) = true := by
  rw [PySem.W.Fast.te479339242167458305]; intro w os; kernel_rfl
theorem l_e : ∀ (w : World) (os : OsState), (pinSeenD view39 (drecsOf view39) (fs w os)) = pinGoodD (drecsOf view39) := by
  rw [PySem.W.Fast.te16090120013241838585, PySem.W.Fast.te3247288618530077131]; intro w os; kernel_rfl
theorem l_f : ∀ (w : World) (os : OsState), (plainSeenE view39 (looseW view39 loose0) (fs w os)) = plainGoodE view39 (looseW view39 loose0) := by
  rw [PySem.W.Fast.te2386780881361962483, PySem.W.Fast.te821141287760084731]; intro w os; kernel_rfl
theorem l_g : ∀ (w : World) (os : OsState), (plainSeenD view39 loose0 (fs w os)) = plainGoodD view39 loose0 := by
  rw [PySem.W.Fast.te11698064438423848299]; intro w os; kernel_rfl
theorem l_h : ∀ (w : World) (os : OsState), (wideSeen view39 (fs w os)) = wideGood view39 := by
  rw [PySem.W.Fast.te7317090234206586261]; intro w os; kernel_rfl
theorem l_i : ∀ (w : World) (os : OsState), (clsSeenW view39 loose0 (fs w os)) = clsGoodW view39 loose0 := by
  rw [PySem.W.Fast.te7369524293546568484]; intro w os; kernel_rfl
theorem l_y : ∀ (w : World) (os : OsState), (H.obs (fs w os)) = H.val w := by
  intro w os; kernel_rfl
theorem h_looks (w : World) : (fun os => ((staticsOk (importedModules pw.main.body) (boot_heap w.params) (heap429 w.params) && namesBound pw (heap429 w.params) && gensDone ⟨heap429 w.params, ⟨[]⟩, {}, 687, os⟩ && laidKept (boot_heap w.params) (heap429 w.params)),
    openSeen view39 loose0 (importedModules pw.main.body) Xt0 true ⟨heap429 w.params, ⟨[]⟩, {}, 687, os⟩, H.obs ⟨heap429 w.params, ⟨[]⟩, {}, 687, os⟩)) = fun _ => (true, openGood view39 loose0, H.val w) := by
  funext os
  refine looks_pair (l_st w os) (looks_pair ?_ (l_y w os))
  unfold openSeen openGood
  exact looks_pair (l_a w os) (looks_pair (l_b w os) (looks_pair (l_c w os) (looks_pair (l_d w os) (looks_pair (l_e w os) (looks_pair (l_f w os) (looks_pair (l_g w os) (looks_pair (l_h w os) (l_i w os))))))))
theorem h_size (w : World) : ((boot_heap w.params).isNs mainGlobals && (⟨[]⟩ : Array GenState).size == 0, (boot_heap w.params).objs.size, (boot_heap w.params).nsMap mainGlobals "__annotations__") = (true, 11, ann0) := by
  rw [PySem.W.Fast.te8920871248978507458]; kernel_rfl
theorem h_opening : opening pw = plainProg pw.main.scope.names := by kernel_rfl
theorem h_fence (s : Shared) : fenceModules? pw s = some s := by kernel_rfl
theorem h_left : LeftO pw view39 loose0 Xt0 H.obs H.val 4794 :=
  LeftO.of_pieces (boot_open h_opening (by decide) h_fence) h_size h_run (by decide) h_looks
theorem sd1 : namesResolve PySem.Challenge.rw_pq1404_01.row.prog = true := by
  rw [PySem.W.Fast.te8377067652309620493]; kernel_rfl
theorem sd2 : noRoadLSs { strict := !(importedModules PySem.Challenge.rw_pq1404_01.row.prog.main.body).all cThrough.contains, foot := none, bare := (["vars", "dir", "locals"] : List Str).filter (readsOut PySem.Challenge.rw_pq1404_01.row.prog PySem.Challenge.rw_pq1404_01.row.prog.main.body) } PySem.Challenge.rw_pq1404_01.row.prog.main.body = true := by
  rw [PySem.W.Fast.te8326940854005059898]; kernel_rfl
theorem sd3 : (namesMeet PySem.Challenge.rw_pq1404_01.row.prog PySem.Challenge.rw_pq1404_01.row.prog.main.body fun _ n => attrL n) = true := by
  rw [PySem.W.Fast.te17119622794617984870]; kernel_rfl
theorem sd4 : (PySem.Challenge.rw_pq1404_01.bound'.all fun n => !builtinNamed n || PySem.Challenge.rw_pq1404_01.about == [n] || !PySem.Challenge.rw_pq1404_01.reads n) = true := by
  rw [PySem.W.Fast.te797321630700447069, PySem.W.Fast.te6984425678791042302]; kernel_rfl
theorem sd5 : namesMeet PySem.Challenge.rw_pq1404_01.prog PySem.Challenge.rw_pq1404_01.above (fun _ n => !PySem.Challenge.rw_pq1404_01.own.contains n) = true := by
  rw [PySem.W.Fast.te17119622794617984870]; kernel_rfl
theorem said : PySem.Challenge.rw_pq1404_01.wellSaid = true := by
  unfold OpenLaw.wellSaid OpenRow.wellSaid OpenRow.partSaid looksOpen
  repeat' with_reducible refine look_both ?_ ?_
  all_goals first | with_reducible exact sd1 | with_reducible exact sd2 | with_reducible exact sd3 | with_reducible exact sd4 | with_reducible exact sd5 | kernel_rfl
theorem hMap : ∀ P, asK = (Kh P).map (·.1) := fun _ => by kernel_rfl
theorem okAll : (chainsOk view39 && opensWell PySem.Challenge.rw_pq1404_01.row.prog && (frees PySem.Challenge.rw_pq1404_01.row.toRowW && PySem.Challenge.rw_pq1404_01.row.within.isEmpty)) = true := by decide +kernel
theorem fill_me : (fun (_ : OpenLaw) (_ : Params → Frag) => True) PySem.Challenge.rw_pq1404_01 Kh := by
  k_fill
  trivial
section
variable {prog : Program} {w : World} {A : Around} {s : Shared} {base : Heap} {outer : List Env} {K : Frag} {p : Program} {loose : List Str} {mean : ExcName → Option Value} {mg mb : Str → Option Value}
  {R : Result → Shared → Prop} {name qual : Str} {params params₀ : Arguments} {body body₀ : List Stmt} {scope scope₀ : Scope} {dV kV doc pm cdv ct oc : Value} {an od : Option Addr} {osl : Array (Option Value)} {f : Addr} {args : Args} {binds : List (Str × Value)}

theorem enter0 (_B : Below A base outer s.heap) (X : K.In s.heap) (T : Top p loose mean mg mb s.heap)
    (ho : K.lookup f = some ⟨oc, od, .func (fnOf name qual params₀ body₀ scope₀ dV kV doc pm an cdv ct), osl⟩) (hp : params₀ = params) (hb : body₀ = body) (hs : scope₀ = scope) (hcd : codeIn K cdv qual = true) (hroom : A.depth < recursionLimit)
    (hbind : BindsTo s (fnOf name qual params body scope dV kV doc pm an cdv ct) args binds) (hloc : ∀ y ∈ binds, scope.names.lookup y.1 = some .local)
    (h : ∀ L' h₁, Fr s.heap L' h₁ (fun y => binds.reverse.lookup y) → News s.heap L' h₁ [] →
      wpAny (model prog w) (A.deeper (envOf qual scope L' f cdv)) (execs body (envOf qual scope L' f cdv))
        (fun fl s' => R (.ok (.ret (match fl with | .ret v => v | _ => .none))) s')
        (fun e s' => wpAny (model prog w) (A.deeper (envOf qual scope L' f cdv)) (leaving (envOf qual scope L' f cdv) e) (fun _ s'' => R (.error e) s'') (fun e' s'' => R (.error e') s'') s')
        { s with heap := h₁, toks := s.toks + binds.length })
    (hco : scope.isCoroutine = false) (hgen : scope.isGenerator = false) (hk : scope.kind = .function)
    (hcell : ∀ x ∈ scope.names, x.2 ≠ .cell) : codeAny (model prog w) A (.call (.ref f) args) R s := by
  subst hp hb hs
  refine codeAny_call_def (fd := fnOf name qual params₀ body₀ scope₀ dV kV doc pm an cdv ct) (body := body₀) (binds := binds) hroom (X _ _ ho) rfl T.nolimit (codeRec_of X hcd) rfl hbind hcell hloc (fun h₁ hns hk₁ => ?_) hco hgen hk
  exact h _ h₁ ⟨hns, hk₁, Nat.le_refl _⟩ News.nil

/-- where a caller stands -/
noncomputable def Cx (w : World) (A : Around) (h : Heap) : Prop := A.handled = none ∧ ∃ (base : Heap) (outer : List Env) (p : Program) (loose : List Str) (mean : ExcName → Option Value) (mg mb : Str → Option Value),
  Below A base outer h ∧ (Kh w.params).In h ∧ Top p loose mean mg mb h
noncomputable def Rm (A : Around) (k : Nat) : Prop := A.depth + k ≤ 900 ∧ A.units + 8 * k ≤ 9000
theorem Rm.deeper {env : Env} {k k' : Nat} (h : Rm A k) (e : k' + 1 ≤ k) : Rm (A.deeper env) k' := by
  obtain ⟨h1, h2⟩ := h
  refine ⟨?_, ?_⟩
  · rw [depth_deeper]; omega
  · rw [units_deeper]; omega
theorem Rm.le {k k' : Nat} (h : Rm A k) (e : k' ≤ k) : Rm A k' := ⟨by have := h.1; omega, by have := h.2; omega⟩
theorem Rm.deeper2 {env env' : Env} {k k' : Nat} (h : Rm A k) (e : k' + 2 ≤ k) : Rm ((A.deeper env).deeper env') k' := Rm.deeper (k := k' + 1) (Rm.deeper h (by omega)) (Nat.le_refl _)
theorem cx_push {env : Env} {h₀ h : Heap} {L : Addr} {m : Str → Option Value} (hh : A.handled = none) (B : Below A base outer h₀) (F : Fr h₀ L h m) (X : (Kh w.params).In h₀) (T : Top p loose mean mg mb h₀)
    (hf : env.frame = some L) (hk : env.scope.kind = .function) : Cx w (A.deeper env) h :=
  ⟨hh, base, env :: outer, p, loose, mean, mg, mb, pushX B F hf hk, X.keeps F.keep, T.keeps F.keep⟩
end

/-- the data: None, or a pair of ints -/
inductive D where
  | no
  | pr (a b : Int)
  deriving DecidableEq
noncomputable def At (h : Heap) (v : Value) : D → Prop
  | .no => v = .none
  | .pr a b => ∃ x ta tb, v = .ref x ∧ IsTup h x #[.int a ta, .int b tb]
theorem At.keeps {h h' : Heap} {v : Value} {d : D} (x : At h v d) (k : h.StaysIn h') : At h' v d := by
  cases d with
  | no => exact x
  | pr a b => obtain ⟨y, ta, tb, e, t⟩ := x; exact ⟨y, ta, tb, e, t.keeps k⟩

/-- a value made since h: None, or a new pair -/
noncomputable def FAt (h h' : Heap) (v : Value) : D → Prop
  | .no => v = .none
  | .pr a b => ∃ x ta tb, v = .ref x ∧ h.get? x = none ∧ IsTup h' x #[.int a ta, .int b tb]
theorem FAt.at {h h' : Heap} {v : Value} {d : D} (x : FAt h h' v d) : At h' v d := by
  cases d with
  | no => exact x
  | pr a b => obtain ⟨y, ta, tb, e, _, t⟩ := x; exact ⟨y, ta, tb, e, t⟩
theorem FAt.weaken {h₀ h h' : Heap} {v : Value} {d : D} (x : FAt h h' v d) (k : h₀.StaysIn h) : FAt h₀ h' v d := by
  cases d with
  | no => exact x
  | pr a b =>
    obtain ⟨y, ta, tb, e, hn, t⟩ := x
    refine ⟨y, ta, tb, e, ?_, t⟩
    cases q : h₀.get? y with
    | none => rfl
    | some o => have := k _ _ q; rw [hn] at this; cases this
section
variable {s : Shared} {h' : Heap} {L : Addr} {m : Str → Option Value} {tk' : Nat} {Q : Value → Shared → Prop} {t : Tok}
theorem ret_int {x y : Int} (hret : ∀ t h' tk', s.heap.StaysIn h' → Q (.int x t) { s with heap := h', toks := tk' }) (F : Fr s.heap L h' m) (e : y = x) : Q (.int y t) { s with heap := h', toks := tk' } := by
  subst e; exact hret t h' tk' F.keep
theorem ret_bool {x y : Bool} (hret : ∀ h' tk', s.heap.StaysIn h' → Q (.bool x) { s with heap := h', toks := tk' }) (F : Fr s.heap L h' m) (e : y = x) : Q (.bool y) { s with heap := h', toks := tk' } := by
  subst e; exact hret h' tk' F.keep
theorem ret_at {d : D} {v : Value} (hret : ∀ v h' tk', s.heap.StaysIn h' → FAt s.heap h' v d → Q v { s with heap := h', toks := tk' }) (F : Fr s.heap L h' m) (e : FAt s.heap h' v d) : Q v { s with heap := h', toks := tk' } := hret v h' tk' F.keep e
theorem ret_pair {a b : Int} {ta tb : Tok} {x : Addr} {n : Nat} {news : List (Addr × Obj)} (hret : ∀ v h' tk', s.heap.StaysIn h' → FAt s.heap h' v (.pr a b) → Q v { s with heap := h', toks := tk' }) (F : Fr s.heap L h' m) (N : News s.heap L h' news)
    (hm : (x, ({ cls := .type "tuple", data := .seq #[.int a ta, .int b tb] n } : Obj)) ∈ news) : Q (.ref x) { s with heap := h', toks := tk' } :=
  hret _ h' tk' F.keep ⟨x, ta, tb, rfl, (N _ hm).2.2, _, (N _ hm).1, rfl, n, rfl⟩
end
theorem at_news {h₀ h : Heap} {L x : Addr} {a b : Int} {ta tb : Tok} {n : Nat} {news : List (Addr × Obj)} (N : News h₀ L h news) (hm : (x, ({ cls := .type "tuple", data := .seq #[.int a ta, .int b tb] n } : Obj)) ∈ news) : FAt h₀ h (.ref x) (.pr a b) :=
  ⟨x, ta, tb, rfl, (N _ hm).2.2, _, (N _ hm).1, rfl, n, rfl⟩
/-- a post-condition, put out of sight: its terms need not be written anew under each binder -/
noncomputable def AbsQ (Q Q' : Flow → Shared → Prop) : Prop := ∀ f s, Q f s → Q' f s
theorem AbsQ.out {Q Q' : Flow → Shared → Prop} {f : Flow} {s : Shared} (a : AbsQ Q Q') (h : Q f s) : Q' f s := a f s h
section
variable {M : Model} {A : Around} {l : List Stmt} {env : Env} {Q Q0 : Flow → Shared → Prop} {E : Value → Shared → Prop} {s : Shared}
theorem execs_absQ (h : ∀ Q', AbsQ Q Q' → wpAny M A (execs l env) Q' E s) : wpAny M A (execs l env) Q E s := h Q fun _ _ e => e
theorem execs_knownQ (_a : AbsQ Q0 Q) (h : wpAny M A (execs l env) Q E s) : wpAny M A (execs l env) Q E s := h
end
theorem mem_1 {α : Type} {a b : α} {l : List α} : a ∈ b :: a :: l := .tail _ (.head _)
theorem mem_2 {α : Type} {a b c : α} {l : List α} : a ∈ b :: c :: a :: l := .tail _ (.tail _ (.head _))
theorem mem_3 {α : Type} {a b c d : α} {l : List α} : a ∈ b :: c :: d :: a :: l := .tail _ (.tail _ (.tail _ (.head _)))
theorem mem_4 {α : Type} {a b c d e : α} {l : List α} (h : a ∈ l) : a ∈ b :: c :: d :: e :: l := .tail _ (.tail _ (.tail _ (.tail _ h)))
theorem nm_nil {a : Nat} : a ∉ ([] : List Nat) := fun h => nomatch h
theorem nm_cons {a b : Nat} {l : List Nat} (h : a ≠ b) (n : a ∉ l) : a ∉ b :: l := fun m => (List.mem_cons.mp m).elim h n
theorem am_nil {α : Type} {n : List α} : ∀ q ∈ ([] : List α), q ∈ n := fun _ h => nomatch h
theorem am_cons {α : Type} {a : α} {l n : List α} (h : a ∈ n) (r : ∀ q ∈ l, q ∈ n) : ∀ q ∈ a :: l, q ∈ n := fun q hq => by
  rcases List.mem_cons.mp hq with rfl | hq
  · exact h
  · exact r q hq

/-- two names that a loop turns, both holding ints -/
noncomputable def two (x y : Str) (a b : Value) (m : Str → Option Value) : Str → Option Value := fun z => if z = x then some a else if z = y then some b else m z
theorem fr_congr {h₀ h : Heap} {L : Addr} {m m' : Str → Option Value} (F : Fr h₀ L h m) (e : ∀ z, m z = m' z) : Fr h₀ L h m' := by
  have : m = m' := funext e
  exact this ▸ F
theorem two_at {x y : Str} {a b : Value} {m m' : Str → Option Value} (hx : m' x = some a) (hy : m' y = some b) (hr : ∀ z, z ≠ x → z ≠ y → m' z = m z) : ∀ z, m' z = two x y a b m z := by
  intro z
  unfold two
  by_cases h1 : z = x
  · rw [if_pos h1, h1, hx]
  · rw [if_neg h1]
    by_cases h2 : z = y
    · rw [if_pos h2, h2, hy]
    · rw [if_neg h2]; exact hr z h1 h2
theorem two_two {x y : Str} {a b a' b' : Value} {m m' : Str → Option Value} (hx : m' x = some a') (hy : m' y = some b') (hr : ∀ z, z ≠ x → z ≠ y → m' z = two x y a b m z) : ∀ z, m' z = two x y a' b' m z :=
  two_at hx hy fun z h1 h2 => by rw [hr z h1 h2]; unfold two; rw [if_neg h1, if_neg h2]
section
variable {prog : Program} {w : World} {A : Around} {E : Value → Shared → Prop} {Q : Flow → Shared → Prop} {s : Shared} {env : Env} {h₀ : Heap} {L : Addr}
noncomputable def Two (h₀ : Heap) (L : Addr) (x y : Str) (m₀ : Str → Option Value) (J : Nat → Int → Int → Prop) (n : Nat) (s : Shared) (f : Flow) (s₃ : Shared) : Prop :=
  f = .next ∧ ∃ h' tk m' n' a b ta tb, s₃ = { s with heap := h', toks := tk } ∧ Fr h₀ L h' m' ∧ m' x = some (.int a ta) ∧ m' y = some (.int b tb) ∧ (∀ z, z ≠ x → z ≠ y → m' z = m₀ z) ∧ n' < n ∧ J n' a b
theorem Two.intro {x y : Str} {m₀ m' : Str → Option Value} {J : Nat → Int → Int → Prop} {n n' : Nat} {h' : Heap} {tk : Nat} {a b : Int} {ta tb : Tok} (F : Fr h₀ L h' m') (h1 : m' x = some (.int a ta)) (h2 : m' y = some (.int b tb))
    (h3 : ∀ z, z ≠ x → z ≠ y → m' z = m₀ z) (h4 : n' < n) (h5 : J n' a b) : Two h₀ L x y m₀ J n s .next { s with heap := h', toks := tk } := ⟨rfl, h', tk, m', n', a, b, ta, tb, rfl, F, h1, h2, h3, h4, h5⟩
theorem While_two {test : Expr} {body : List Stmt} {pos : Pos} {m m₀ : Str → Option Value} (x y : Str) (J : Nat → Int → Int → Prop) {n₀ : Nat} {a b : Int} {ta tb : Tok} (F : Fr h₀ L s.heap m)
    (h1 : m x = some (.int a ta)) (h2 : m y = some (.int b tb)) (h3 : ∀ z, z ≠ x → z ≠ y → m z = m₀ z) (hJ : J n₀ a b)
    (turn : ∀ n a b ta tb h₁ tk₁, J n a b → Fr h₀ L h₁ (two x y (.int a ta) (.int b tb) m₀) → News h₀ L h₁ [] →
      wpAny (model prog w) A (isTrue test env (eval test env)) (fun c s₂ =>
        if c = true then wpAny (model prog w) A (execs body env) (Two h₀ L x y m₀ J n s) E s₂ else Q .next s₂) E { s with heap := h₁, toks := tk₁ })
    (hE : PassesOwn (model prog w) A env E := by passes_own) :
    wpAny (model prog w) A (exec (.While test body [] pos) env) Q E s := by
  refine While_inv (news := []) (fun n m' nx => ∃ a b ta tb, (∀ z, m' z = two x y (.int a ta) (.int b tb) m₀ z) ∧ J n a b) F News.nil ⟨a, b, ta, tb, two_at h1 h2 h3, hJ⟩ ?_ hE
  rintro n m₁ nx h₁ tk₁ F₁ _ ⟨a, b, ta, tb, hm, hJ⟩
  refine wpAny_mono (turn n a b ta tb h₁ tk₁ hJ (fr_congr F₁ hm) News.nil) (fun c s₂ h => ?_) fun _ _ e => e
  cases c with
  | false => exact h
  | true =>
    simp only [if_true] at h ⊢
    refine wpAny_mono h (fun f s₃ h => ?_) fun _ _ e => e
    obtain ⟨rfl, h', tk, m', n', a, b, ta, tb, rfl, F', h1, h2, h3, hn, hJ⟩ := h
    exact ⟨rfl, h', tk, m', [], n', rfl, F', News.nil, hn, a, b, ta, tb, two_at h1 h2 h3, hJ⟩
end
local macro_rules | `(tactic| walk_at "Two") => `(tactic| k_extra "my Two")
theorem word_1 : True := by
  k_with "my Two" => ((refine' Two.intro (by assumption) (by exact rfl) (by exact rfl) (by intro z9m hz19m hz29m; simp only [two, hz19m, hz29m, if_false]) ?_ ?_))
  trivial
noncomputable def Stop (p : Prop) : Prop := p
theorem Stop.out {p : Prop} (h : Stop p) : p := h
local macro_rules | `(tactic| walk_at "exec While") => `(tactic| k_extra "my exec While")
theorem word_2 : True := by
  k_with "my exec While" => ((refine Stop.out ?_))
  trivial
structure Hand : Prop where
local macro_rules | `(tactic| walk_at "pyIter ref") => `(tactic| k_extra "my pyIter ref")
theorem word_3 : True := by
  k_with "my pyIter ref" => (((rename Hand => hHand9m); (with_reducible show wpAny _ _ (pyIter (Value.ref _)) _ _ _); (refine Stop.out ?_)))
  trivial
section
variable {prog : Program} {w : World} {A : Around} {E : Value → Shared → Prop} {s : Shared} {env : Env} {h₀ : Heap} {x : Str} {body : List Stmt} {Q : Flow → Shared → Prop}
theorem iter_range_J {r : Addr} {a₀ b₀ : Int} {t₀ u₀ v₀ : Tok} {n : Nat} {m₀ : Str → Option Value} {news : List (Addr × Obj)} (J : Nat → (Str → Option Value) → List (Addr × Obj) → Prop)
    (hh : A.handled = none) (hr : IsRange s.heap r a₀ b₀ 1 t₀ u₀ v₀) (hsmall : Builtin.Range.small a₀ b₀ 1 = true) (hsz : Builtin.Range.rangeSize a₀ b₀ 1 = (n : Int)) (F : Fr h₀ env.locals s.heap m₀) (N : News h₀ env.locals s.heap news) (hj : J 0 m₀ news)
    (turn : ∀ i t m₁ nx h tk own, i < n → OwnOff own (nx.map (·.1)) → J i m₁ nx → Fr h₀ env.locals h (fun y => if y = x then some (.int (a₀ + (i : Nat)) t) else m₁ y) → News h₀ env.locals h (nx ++ own) →
      wpAny (model prog w) A (execs body env) (InvPostG h₀ env.locals (J (i + 1)) own { s with heap := h, toks := tk } Q) E { s with heap := h, toks := tk })
    (done : ∀ m₁ nx h tk, J n m₁ nx → Fr h₀ env.locals h m₁ → News h₀ env.locals h nx → Q .next { s with heap := h, toks := tk }) :
    wpAny (model prog w) A (pyIter (.ref r)) (fun it s₂ => LoopAtV prog w A h₀ env x body Q E it s₂) E s := by
  refine wpAny_pyIter_range hr hsmall ?_
  have W : Walks prog w A s.heap.objs.size [s.heap.objs.size] [s.heap.objs.size] n (fun i v => i < n ∧ ∃ t, v = .int (a₀ + i * 1) t)
      (fun i h => IsRangeIter h s.heap.objs.size (a₀ + (i : Nat) * 1) ((n : Int) - (i : Nat)) 1) := (Walks.range hh _ a₀ 1 n).bound
  refine kdr_loop J W (fun _ h => h) (fun _ h => h) ?_ ?_ ?_ ?_ (by show IsRangeIter _ _ _ _ _; rw [hsz]; simpa using Heap.get?_push_size _ rfl) (F.push _) (fun p hp => ⟨Heap.get?_push_of_some _ (N p hp).1, (N p hp).2⟩) hj ?_ ?_
  · intro i h hi b hb
    rw [List.mem_singleton.mp hb]
    exact ⟨_, hi⟩
  · intro hm
    exact absurd F.ns.lt ((List.mem_singleton.mp hm) ▸ Nat.lt_irrefl _)
  · intro b hb
    rw [List.mem_singleton.mp hb]
    exact next_is_new F
  · intro p hp hI
    exact absurd (Heap.lt_size (N p hp).1) ((List.mem_singleton.mp hI) ▸ Nat.lt_irrefl _)
  · rintro i v m₁ nx h tk own hi ⟨_, t, rfl⟩ hoff hJ F₁ N₁
    rw [show a₀ + (i : Int) * 1 = a₀ + (i : Int) by omega] at F₁
    exact turn i t m₁ nx h tk own hi hoff hJ F₁ N₁
  · rintro m₁ nx h tk hJ F₁ N₁
    exact done m₁ nx h tk hJ F₁ N₁

/-- a turn's end, two names -/
noncomputable def End2 (h₀ : Heap) (L : Addr) (x y z : Str) (m₀ : Str → Option Value) (a b : Int) (own : List (Addr × Obj)) (s : Shared) (f : Flow) (s' : Shared) : Prop :=
  f = .next ∧ ∃ h' tk m' ta tb, s' = { s with heap := h', toks := tk } ∧ Fr h₀ L h' m' ∧ News h₀ L h' own ∧ m' y = some (.int a ta) ∧ m' z = some (.int b tb) ∧ ∀ q, q ≠ x → q ≠ y → q ≠ z → m' q = m₀ q
theorem End2.intro {L : Addr} {y z : Str} {m₀ m' : Str → Option Value} {a b : Int} {own own' : List (Addr × Obj)} {h' : Heap} {tk : Nat} {ta tb : Tok} (F : Fr h₀ L h' m') (N : News h₀ L h' own') (hs : ∀ p ∈ own, p ∈ own') (h1 : m' y = some (.int a ta)) (h2 : m' z = some (.int b tb))
    (h3 : ∀ q, q ≠ x → q ≠ y → q ≠ z → m' q = m₀ q) : End2 h₀ L x y z m₀ a b own s .next { s with heap := h', toks := tk } := ⟨rfl, h', tk, m', ta, tb, rfl, F, fun p hp => N p (hs p hp), h1, h2, h3⟩
theorem iter_range_two {r : Addr} {a₀ b₀ : Int} {t₀ u₀ v₀ : Tok} {n : Nat} {m₀ : Str → Option Value} {ta tb : Tok} (y z : Str) (T B : Nat → Int)
    (hh : A.handled = none) (hr : IsRange s.heap r a₀ b₀ 1 t₀ u₀ v₀) (hsmall : Builtin.Range.small a₀ b₀ 1 = true) (hsz : Builtin.Range.rangeSize a₀ b₀ 1 = (n : Int)) (F : Fr h₀ env.locals s.heap m₀) (hy : m₀ y = some (.int (T 0) ta)) (hz : m₀ z = some (.int (B 0) tb))
    (turn : ∀ i t ta tb h tk own, i < n → Fr h₀ env.locals h (fun q => if q = x then some (.int (a₀ + (i : Nat)) t) else two y z (.int (T i) ta) (.int (B i) tb) m₀ q) → News h₀ env.locals h own →
      wpAny (model prog w) A (execs body env) (End2 h₀ env.locals x y z m₀ (T (i + 1)) (B (i + 1)) own { s with heap := h, toks := tk }) E { s with heap := h, toks := tk })
    (done : ∀ u ta tb h tk, Fr h₀ env.locals h (fun q => if q = x then u else two y z (.int (T n) ta) (.int (B n) tb) m₀ q) → News h₀ env.locals h [] → Q .next { s with heap := h, toks := tk }) :
    wpAny (model prog w) A (pyIter (.ref r)) (fun it s₂ => LoopAtV prog w A h₀ env x body Q E it s₂) E s := by
  have back : ∀ {m₁ : Str → Option Value} {i : Nat} {ta tb : Tok} {u : Option Value}, m₁ y = some (.int (T i) ta) → m₁ z = some (.int (B i) tb) → (∀ q, q ≠ x → q ≠ y → q ≠ z → m₁ q = m₀ q) →
      ∀ q, (if q = x then u else m₁ q) = if q = x then u else two y z (.int (T i) ta) (.int (B i) tb) m₀ q := by
    intro m₁ i ta tb u h1 h2 h3 q
    by_cases hq : q = x
    · rw [if_pos hq, if_pos hq]
    · rw [if_neg hq, if_neg hq]
      unfold two
      by_cases q1 : q = y
      · rw [if_pos q1, q1, h1]
      · rw [if_neg q1]
        by_cases q2 : q = z
        · rw [if_pos q2, q2, h2]
        · rw [if_neg q2, h3 q hq q1 q2]
  refine iter_range_J (news := []) (fun i m nx => nx = [] ∧ ∃ ta tb, m y = some (.int (T i) ta) ∧ m z = some (.int (B i) tb) ∧ ∀ q, q ≠ x → q ≠ y → q ≠ z → m q = m₀ q) hh hr hsmall hsz F News.nil ⟨rfl, ta, tb, hy, hz, fun _ _ _ _ => rfl⟩ ?_ ?_
  · rintro i t m₁ nx h tk own hi _ ⟨rfl, ta, tb, h1, h2, h3⟩ F₁ N₁
    refine wpAny_mono (turn i t ta tb h tk own hi (fr_congr F₁ (back h1 h2 h3)) N₁) (fun f s' he => ?_) fun _ _ e => e
    obtain ⟨rfl, h', tk', m', ta', tb', rfl, F', N', g1, g2, g3⟩ := he
    exact ⟨h', tk', m', own, [], rfl, F', N', fun _ hp => (nomatch hp), fun _ hp => hp, fun _ _ _ hb => (nomatch hb), rfl, ta', tb', g1, g2, g3⟩
  · rintro m₁ nx h tk ⟨rfl, ta, tb, h1, h2, h3⟩ F₁ N₁
    refine done (m₁ x) ta tb h tk (fr_congr F₁ fun q => ?_) N₁
    have := back (u := m₁ x) h1 h2 h3 q
    rw [← this]
    by_cases hq : q = x
    · rw [if_pos hq, hq]
    · rw [if_neg hq]
end
local macro_rules | `(tactic| walk_at "End2") => `(tactic| k_extra "my End2")
theorem word_4 : True := by
  k_with "my End2" => ((refine End2.intro (by assumption) (by assumption) (by exact fun _ hp9m => hp9m) (by exact rfl) (by exact rfl) (by intro z9m hz19m hz29m hz39m; simp only [two, hz19m, hz29m, hz39m, if_false])))
  trivial
theorem For_hand {prog : Program} {w : World} {A : Around} {s : Shared} {env : Env} {h₀ : Heap} {L : Addr} {m : Str → Option Value} {E : Value → Shared → Prop} {Q : Flow → Shared → Prop} {x : Str} {px pos : Pos} {iter : Expr} {body : List Stmt} (_F : Fr h₀ L s.heap m) (hx : env.kindOf x = some .local)
    (hp : (env.scope.kind == .class || (env.scope.kind == .module && env.locals != env.globals)) = false)
    (h : wpAny (model prog w) A (eval iter env) (fun xv s₁ => wpAny (model prog w) A (pyIter xv) (fun it s₂ => LoopAtV prog w A h₀ env x body Q E it s₂) E s₁) E s)
    (hs : ∀ x, foldedSetIterable iter env x = pure x) (hE : PassesOwn (model prog w) A env E := by passes_own) :
    wpAny (model prog w) A (exec (.For (.Name x px) iter body [] pos) env) Q E s := For_invV h₀ hx hp h hs hE
theorem word_5 : True := by
  k_with "my for" => (((rename Hand => hHand9m); (rename Fr _ _ _ _ => kF9); (with_unfolding_all refine For_hand kF9 (by rfl) (by rfl) ?_ (by intro _; rfl))))
  trivial
local macro_rules | `(tactic| walk_at "exec For") => `(tactic| k_extra "my exec For")
theorem word_6 : True := by
  k_with "my exec For" => (k_extra "my for")
  trivial
local macro_rules | `(tactic| walk_at "exec For Name Name") => `(tactic| k_extra "my exec For Name Name")
theorem word_7 : True := by
  k_with "my exec For Name Name" => (k_extra "my for")
  trivial
local macro_rules | `(tactic| walk_at "exec For Name Call") => `(tactic| k_extra "my exec For Name Call")
theorem word_8 : True := by
  k_with "my exec For Name Call" => (k_extra "my for")
  trivial
local macro_rules | `(tactic| walk_at "exec For Name Subscript") => `(tactic| k_extra "my exec For Name Subscript")
theorem word_9 : True := by
  k_with "my exec For Name Subscript" => (k_extra "my for")
  trivial

theorem word_10 : True := by
  k_with "my lit" => (((conv => lhs; whnf); (try exact rfl)))
  trivial
theorem word_11 : True := by
  k_with "my k6" => (((rename Rm _ _ => hR'9m); (have hR9 := hR'9m.1); (simp only [recursionLimit] at *); omega))
  trivial
theorem word_12 : True := by
  k_with "my enter" => (((refine wpAny_call (enter0 (by assumption) (by assumption) (by assumption) (by k_is) (by k_extra "my lit") (by k_extra "my lit") (by k_extra "my lit") (by k_is) (by k_extra "my k6") (by exact BindsTo.of_eq rfl) (by exact locs rfl) ?_ (by exact rfl) (by exact rfl) (by exact rfl) (by decide))); intro L'9m h₁9m F'9m N'9m; (try dsimp only); k_fold))
  trivial
theorem word_13 : True := by
  k_with "my cx" => (((rename Fr _ _ _ _ => kF9); exact cx_push (by with_unfolding_all rfl) (by with_reducible assumption) kF9 (by assumption) (by assumption) rfl rfl))
  trivial
theorem word_14 : True := by
  k_with "my rm" => (((rename Rm _ _ => kR9); first | exact kR9.deeper (by decide) | exact Rm.deeper2 kR9 (by decide)))
  trivial
theorem word_15 : True := by
  k_with "my at" => (((rename Fr _ _ _ _ => kF9); exact At.keeps (by with_reducible assumption) (Fr.keep kF9)))
  trivial
theorem word_16 : True := by
  k_with "my kp" => (((rename Heap.StaysIn _ _ => k9); (rename Fr _ _ _ _ => kF9); (rename News _ _ _ _ => kN9); (have kF9m := kF9.keeps k9); (have kN9m := kN9.grown k9); (clear kF9 kN9); (try dsimp only)))
  trivial
theorem word_17 : True := by
  k_with "my kf" => (((rename FAt _ _ _ _ => a9); (rename Fr _ _ _ _ => kF9); (replace a9 := FAt.weaken a9 kF9.keep); k_extra "my kp"))
  trivial
theorem word_18 : True := by
  k_with "my end" => (fail "no end")
  trivial
theorem word_19 : True := by
  k_with "my go" => (repeat' (first | (k_unfold; (try dsimp only)) | (k_unmd; k_unfold; (try dsimp only)) | (k_end; first | dsimp only | k_extra "my end") | walk1 | (dsimp only; walk1) | (leave1; try dsimp only)))
  trivial
local macro_rules | `(tactic| walk_at "binaryOp FloorDiv int int") => `(tactic| k_extra "my binaryOp FloorDiv int int")
theorem word_20 : True := by
  k_with "my binaryOp FloorDiv int int" => ((with_reducible refine floordiv_int (by omega) ?_ (Or.inl (PyProof.noPylong_small (by omega)))))
  trivial
local macro_rules | `(tactic| walk_at "binaryOp Mod int int") => `(tactic| k_extra "my binaryOp Mod int int")
theorem word_21 : True := by
  k_with "my binaryOp Mod int int" => ((with_reducible refine mod_int' (by omega) ?_))
  trivial
local macro_rules | `(tactic| walk_at "binaryOp Mult int int") => `(tactic| k_extra "my binaryOp Mult int int")
theorem word_22 : True := by
  k_with "my binaryOp Mult int int" => ((with_reducible refine PyProof.Rows.mul_int ?_ (PySem.IntMulOk.of_left (PySem.intBits_le_64 (by omega) (by omega)))))
  trivial
local macro_rules | `(tactic| walk_at "binaryOp Pow int int") => `(tactic| k_extra "my binaryOp Pow int int")
theorem word_23 : True := by
  k_with "my binaryOp Pow int int" => ((with_reducible refine pow_int_small (by omega) (by omega) (by decide) ?_))
  trivial
theorem word_24 : True := by
  k_with "my tup" => (((with_reducible show wpAny _ _ (subscriptTail _ _ (Value.ref _) (Value.int _ _)) _ _ _); (k_dflt ((rename Fr _ _ _ _ => kF9); (with_unfolding_all refine item_tupleT (by first | exact IsTup.keeps (by with_reducible assumption) (Fr.keep kF9) | (rename News _ _ _ _ => kN9; exact News.isTup kN9 (by with_reducible k_extra "my mem"))) (by decide) (by decide) (by exact rfl) (by exact rfl) ?_ (by with_unfolding_all rfl))))))
  trivial
local macro_rules | `(tactic| walk_at "subscriptTail") => `(tactic| k_extra "my subscriptTail")
theorem word_25 : True := by
  k_with "my subscriptTail" => (k_extra "my tup")
  trivial
local macro_rules | `(tactic| walk_at "subscriptTail Name") => `(tactic| k_extra "my subscriptTail Name")
theorem word_26 : True := by
  k_with "my subscriptTail Name" => (k_extra "my tup")
  trivial
local macro_rules | `(tactic| walk_at "subscriptTail Name Constant ref int") => `(tactic| k_extra "my subscriptTail Name Constant ref int")
theorem word_27 : True := by
  k_with "my subscriptTail Name Constant ref int" => (k_extra "my tup")
  trivial
local macro_rules | `(tactic| walk_at "execs cons Assign cons") => `(tactic| k_extra "my execs cons Assign cons")
theorem word_28 : True := by
  k_with "my execs cons Assign cons" => (first | (k_here; k_gentoks) | ((with_reducible refine wpAny_execs_cons ?_); (try dsimp only)))
  trivial
local macro_rules | `(tactic| walk_at "exec If") => `(tactic| k_extra "my exec If")
theorem word_29 : True := by
  k_with "my exec If" => (refine wpAny_If ?_)
  trivial
local macro_rules | `(tactic| walk_at "ite") => `(tactic| k_extra "my ite")
theorem word_30 : True := by
  k_with "my ite" => ((k_closed; k_dflt (first | refine ite_pos (by decide +kernel) ?_ | refine ite_neg (by decide +kernel) ?_)))
  trivial
local macro_rules | `(tactic| walk_at "eval Name") => `(tactic| k_extra "my eval Name")
theorem word_31 : True := by
  k_with "my eval Name" => ((k_here; (first | with_reducible show wpAny _ _ (eval (Expr.Name _ _) (envOf _ _ _ _ _)) _ _ _ | with_reducible show wpAny _ _ (eval (Expr.Name _ _) (envOfC _ _ _ _ _)) _ _ _); k_dflt (first | (refine nameX_L (by k_asm) (by exact rfl) ?_ (by exact rfl) (by kernel_rfl!) (by kernel_rfl!)) | (refine nameX_K (by k_asm) (by k_asm) (by k_asm) (by k_is) ?_ (by exact rfl) (by kernel_rfl!) (by kernel_rfl!)) | (refine nameX_B (by k_asm) (by k_asm) (by k_asm) (by k_is) (by boot_fast) (by decide +kernel) ?_ (by exact rfl) (by kernel_rfl!) (by kernel_rfl!)))))
  trivial
local macro_rules | `(tactic| k_room) => `(tactic| k_extra "my k_room")
theorem word_32 : True := by
  k_with "my k_room" => (((rename Rm _ _ => hR'9m); (have hR9 := hR'9m.1); (simp only [depth_mark, depth_under_make, depth_under_kw, depth_in1, depth_deeper, recursionLimit] at *); omega))
  trivial
local macro_rules | `(tactic| k_in) => `(tactic| k_extra "my k_in")
theorem word_33 : True := by
  k_with "my k_in" => (first | with_reducible assumption | exact Frag.In.keeps (by with_reducible assumption) (Fr.keep (by with_reducible assumption)))
  trivial
theorem word_34 : True := by
  k_with "my mem" => (first | exact List.Mem.head _ | exact mem_1 | exact mem_2 | exact mem_3 | (refine mem_4 ?_; k_extra "my mem"))
  trivial
local macro_rules | `(tactic| k_mem) => `(tactic| k_extra "my k_mem")
theorem word_35 : True := by
  k_with "my k_mem" => (k_extra "my mem")
  trivial
theorem word_36 : True := by
  k_with "my nm" => (repeat' (first | exact nm_nil | refine nm_cons (by k_ne) ?_))
  trivial
theorem word_37 : True := by
  k_with "my am" => (repeat' (first | exact am_nil | refine am_cons (by k_mem) ?_))
  trivial
noncomputable def nearestZ (n d : Int) : Int := if d < 2 * (n - n.fdiv d * d) then n.fdiv d + 1 else if 2 * (n - n.fdiv d * d) = d then (if (n.fdiv d).fmod 2 = 1 then n.fdiv d + 1 else n.fdiv d) else n.fdiv d
section
variable {prog : Program} {w : World} {A : Around} {s : Shared} {Q E : Value → Shared → Prop}
set_option maxHeartbeats 4000000 in
theorem c_nearest (C : Cx w A s.heap) (hR : Rm A 2) (n d : Int) (t1 t2 : Tok) (h1 : 0 < d) (h2 : d < 1073741824) (h3 : -(2 ^ 60) < n) (h4 : n < 2 ^ 60)
  (hret : ∀ t h' tk', s.heap.StaysIn h' → Q (.int (nearestZ n d) t) { s with heap := h', toks := tk' }) :
  wpAny (model prog w) A (call (.ref 253) [.int n t1, .int d t2]) Q E s := by
  obtain ⟨hh, base, outer, p, loose, mean, mg, mb, B, X, T⟩ := C
  obtain ⟨ah, dp, fr, gd, un⟩ := A
  cases hh
  cases B.stack
  k_extra "my enter"
  k_extra "my go"
  all_goals (refine ret_int hret (by assumption) ?_; unfold nearestZ; (repeat' split) <;> first | rfl | omega)

set_option maxHeartbeats 4000000 in
theorem c_isfinite (C : Cx w A s.heap) (hR : Rm A 2) (v : Value) (d : D) (hv : At s.heap v d)
  (hret : ∀ h' tk', s.heap.StaysIn h' → Q (.bool (match d with | .no => false | .pr _ b => decide (0 < b))) { s with heap := h', toks := tk' }) :
  wpAny (model prog w) A (call (.ref 246) [v]) Q E s := by
  obtain ⟨hh, base, outer, p, loose, mean, mg, mb, B, X, T⟩ := C
  obtain ⟨ah, dp, fr, gd, un⟩ := A
  cases hh
  cases B.stack
  cases d with
  | no =>
    cases hv
    k_extra "my enter"
    k_extra "my go"
    all_goals (refine ret_bool hret (by assumption) ?_; simp_all)
  | pr a b =>
    obtain ⟨x, ta, tb, rfl, ht⟩ := hv
    k_extra "my enter"
    k_extra "my go"
    all_goals (refine ret_bool hret (by assumption) ?_; simp_all)

end

theorem fmod_pos' {a b : Int} (h : 0 < b) : 0 ≤ a.fmod b ∧ a.fmod b < b := by
  rw [Int.fmod_eq_emod_of_nonneg a (Int.le_of_lt h)]
  exact ⟨Int.emod_nonneg _ (by omega), Int.emod_lt_of_pos _ h⟩
theorem gcd_turn {a b : Int} (ha : 0 ≤ a) (h : 0 < b) : Int.gcd b (a.fmod b) = Int.gcd a b := by
  rw [Int.fmod_eq_emod_of_nonneg a (Int.le_of_lt h)]
  obtain ⟨m, rfl⟩ := Int.eq_ofNat_of_zero_le ha
  obtain ⟨n, rfl⟩ := Int.eq_ofNat_of_zero_le (Int.le_of_lt h)
  rw [← Int.natCast_emod, Int.gcd_natCast_natCast, Int.gcd_natCast_natCast, Nat.gcd_comm, ← Nat.gcd_rec, Nat.gcd_comm]
theorem gcd_pos' {a b : Int} (h : 0 < b) : 0 < (Int.gcd a b : Int) := by
  have := Int.gcd_pos_of_ne_zero_right a (b := b) (by omega)
  omega
theorem gcd_le' {a b : Int} (h : 0 < b) : (Int.gcd a b : Int) ≤ b := Int.gcd_le_right a h
section
variable {prog : Program} {w : World} {A : Around} {s : Shared} {Q E : Value → Shared → Prop}
set_option maxHeartbeats 4000000 in
theorem c_gcd (C : Cx w A s.heap) (hR : Rm A 2) (a b : Int) (t1 t2 : Tok) (h1 : 0 ≤ a) (h2 : 0 < b)
  (hret : ∀ t h' tk', s.heap.StaysIn h' → 0 < (Int.gcd a b : Int) → (Int.gcd a b : Int) ≤ b → Q (.int (Int.gcd a b : Int) t) { s with heap := h', toks := tk' }) :
  wpAny (model prog w) A (call (.ref 211) [.int a t1, .int b t2]) Q E s := by
  obtain ⟨hh, base, outer, p, loose, mean, mg, mb, B, X, T⟩ := C
  obtain ⟨ah, dp, fr, gd, un⟩ := A
  cases hh
  cases B.stack
  k_extra "my enter"
  rename Fr _ _ _ _ => F
  refine wpAny_execs_cons ?_
  refine While_two (Str.ofString "a") (Str.ofString "b") (fun n x y => 0 ≤ x ∧ 0 ≤ y ∧ n = y.toNat ∧ Int.gcd x y = Int.gcd a b) F rfl rfl (fun _ _ _ => rfl) ⟨h1, Int.le_of_lt h2, rfl, rfl⟩ ?_
  intro n x y tx ty h₃ tk₃ hJ F₃ N₃
  obtain ⟨hx, hy, rfl, hg⟩ := hJ
  k_extra "my go"
  all_goals first
    | exact ret_int (fun t h' tk' k => hret t h' tk' k (gcd_pos' h2) (gcd_le' h2)) (by assumption) (by rw [← hg, show y = 0 by omega, Int.gcd_zero_right]; omega)
    | (have hm := fmod_pos' (a := x) (b := y) (by omega); first | omega | (rw [gcd_turn (by omega) (by omega)]; exact hg))

end
local macro_rules | `(tactic| walk_at "call ref") => `(tactic| k_extra "my call ref")
theorem word_38 : True := by
  k_with "my call ref" => (((with_reducible show wpAny _ _ (call (Value.ref 211) _) _ _ _); (k_dflt ((refine c_gcd (by k_extra "my cx") (by k_extra "my rm") _ _ _ _ (by omega) (by omega) ?_); (intro t'9m h'9m tk'9m k'9m g1'9m g2'9m); k_extra "my kp"))))
  trivial
section
variable {prog : Program} {w : World} {A : Around} {s : Shared} {Q E : Value → Shared → Prop}
theorem bounded_big : (2:Int) ^ 60 < 10 ^ 5000 := by decide +kernel
set_option maxHeartbeats 4000000 in
theorem c_bounded (C : Cx w A s.heap) (hR : Rm A 2) (a b : Int) (t1 t2 : Tok) (h1 : -(2 ^ 60) < a) (h2 : a < 2 ^ 60) (h3 : 0 < b) (h4 : b < 2 ^ 60)
  (hret : ∀ v h' tk', s.heap.StaysIn h' → FAt s.heap h' v (.pr a b) → Q v { s with heap := h', toks := tk' }) :
  wpAny (model prog w) A (call (.ref 218) [.int a t1, .int b t2]) Q E s := by
  obtain ⟨hh, base, outer, p, loose, mean, mg, mb, B, X, T⟩ := C
  obtain ⟨ah, dp, fr, gd, un⟩ := A
  cases hh
  cases B.stack
  k_extra "my enter"
  k_extra "my go"
  exact ret_pair hret (by assumption) (by assumption) (List.Mem.head _)
end

theorem fdiv_lo {n g K : Int} (hg : 0 < g) (h : -K < n) (hK : 0 < K) : -K < n.fdiv g := by
  rw [Int.fdiv_eq_ediv_of_nonneg n (Int.le_of_lt hg)]
  by_cases hn : 0 ≤ n
  · have := Int.ediv_nonneg hn (Int.le_of_lt hg); omega
  · have h1 : n * g ≤ n * 1 := Int.mul_le_mul_of_nonpos_left (by omega) (by omega)
    have : n ≤ n / g := (Int.le_ediv_iff_mul_le hg).mpr (by omega)
    omega
theorem fdiv_hi {n g K : Int} (hg : 0 < g) (h : n < K) (hK : 0 < K) : n.fdiv g < K := by
  rw [Int.fdiv_eq_ediv_of_nonneg n (Int.le_of_lt hg)]
  by_cases hn : 0 ≤ n
  · have := Int.ediv_le_self g hn; omega
  · have : n / g < 0 := Int.ediv_neg_of_neg_of_pos (by omega) hg
    omega
theorem fdiv_pos {b g : Int} (hg : 0 < g) (h : g ≤ b) : 0 < b.fdiv g := by
  rw [Int.fdiv_eq_ediv_of_nonneg b (Int.le_of_lt hg)]
  have : 1 ≤ b / g := (Int.le_ediv_iff_mul_le hg).mpr (by omega)
  omega
theorem gcd_abs (a b : Int) : Int.gcd (if a < 0 then -a else a) b = Int.gcd a b := by
  split
  · exact Int.neg_gcd
  · rfl
theorem word_39 : True := by
  k_with "my call ref" => (((with_reducible show wpAny _ _ (call (Value.ref 218) _) _ _ _); (k_dflt ((refine c_bounded (by k_extra "my cx") (by k_extra "my rm") _ _ _ _ (by first | omega | exact fdiv_lo (by omega) (by omega) (by omega)) (by first | omega | exact fdiv_hi (by omega) (by omega) (by omega)) (by first | omega | exact fdiv_pos (by omega) (by omega)) (by first | omega | exact fdiv_hi (by omega) (by omega) (by omega)) ?_); (intro v'9m h'9m tk'9m k'9m a'9m); k_extra "my kf"))))
  trivial
section
variable {prog : Program} {w : World} {A : Around} {s : Shared} {Q E : Value → Shared → Prop}
set_option maxHeartbeats 4000000 in
theorem c_make (C : Cx w A s.heap) (hR : Rm A 4) (a b : Int) (t1 t2 : Tok) (h1 : -(2 ^ 60) < a) (h2 : a < 2 ^ 60) (h3 : 0 < b) (h4 : b < 1073741824)
  (hret : ∀ v h' tk', s.heap.StaysIn h' → FAt s.heap h' v (.pr (a.fdiv (Int.gcd a b)) (b.fdiv (Int.gcd a b))) → Q v { s with heap := h', toks := tk' }) :
  wpAny (model prog w) A (call (.ref 225) [.int a t1, .int b t2]) Q E s := by
  obtain ⟨hh, base, outer, p, loose, mean, mg, mb, B, X, T⟩ := C
  obtain ⟨ah, dp, fr, gd, un⟩ := A
  cases hh
  cases B.stack
  k_extra "my enter"
  k_extra "my go"
  all_goals first
    | (exfalso; omega)
    | (rw [gcd_abs] at *; exact ret_at hret (by assumption) (by assumption))
end

theorem mul_abs {x y K M : Int} (h1 : -K < x) (h2 : x < K) (h3 : 0 < y) (h4 : y ≤ M) : -(K * M) < x * y ∧ x * y < K * M := by
  have hK : 0 < K := by omega
  have h5 : K * y ≤ K * M := Int.mul_le_mul_of_nonneg_left h4 (by omega)
  have h6 : x * y < K * y := Int.mul_lt_mul_of_pos_right h2 h3
  have h7 : -K * y < x * y := Int.mul_lt_mul_of_pos_right h1 h3
  have h8 : -K * y = -(K * y) := Int.neg_mul ..
  omega
theorem near_bd {n d K : Int} (h : 0 < d) (h1 : -K < n) (h2 : n < K) (hK : 0 < K) : -K < nearestZ n d ∧ nearestZ n d ≤ K := by
  have a := fdiv_lo h h1 hK
  have b := fdiv_hi h h2 hK
  unfold nearestZ
  (repeat' split) <;> omega
theorem pow_bd {p : Int} (h1 : -2 ≤ p) (h2 : p ≤ 4) : 0 < (10 : Int) ^ p.toNat ∧ (10 : Int) ^ p.toNat ≤ 10000 ∧ 0 < (10 : Int) ^ (0 - p).toNat ∧ (10 : Int) ^ (0 - p).toNat ≤ 100 := by
  have : p = -2 ∨ p = -1 ∨ p = 0 ∨ p = 1 ∨ p = 2 ∨ p = 3 ∨ p = 4 := by omega
  rcases this with rfl | rfl | rfl | rfl | rfl | rfl | rfl <;> decide
noncomputable def roundedD (a b p : Int) : D := if 0 ≤ p then .pr ((nearestZ (a * 10 ^ p.toNat) b).fdiv (Int.gcd (nearestZ (a * 10 ^ p.toNat) b) (10 ^ p.toNat))) (((10 : Int) ^ p.toNat).fdiv (Int.gcd (nearestZ (a * 10 ^ p.toNat) b) (10 ^ p.toNat)))
  else .pr (nearestZ a (b * 10 ^ (0 - p).toNat) * 10 ^ (0 - p).toNat) 1
theorem word_40 : True := by
  k_with "my ml" => (first | omega | (have h9 := mul_abs (K := 1024) (M := 100) (by omega) (by omega) (by omega) (by omega); exact Int.lt_trans h9.2 (by decide)) | (have h9 := mul_abs (K := 1048576) (M := 10000) (by omega) (by omega) (by omega) (by omega); first | exact Int.lt_trans (by decide) h9.1 | exact Int.lt_trans h9.2 (by decide)))
  trivial
theorem word_41 : True := by
  k_with "my call ref" => (((with_reducible show wpAny _ _ (call (Value.ref 253) _) _ _ _); (k_dflt ((refine c_nearest (by k_extra "my cx") (by k_extra "my rm") _ _ _ _ (by first | omega | exact Int.mul_pos (by omega) (by omega)) (by k_extra "my ml") (by k_extra "my ml") (by k_extra "my ml") ?_); (intro t'9m h'9m tk'9m k'9m); k_extra "my kp"))))
  trivial
theorem word_42 : True := by
  k_with "my call ref" => (((with_reducible show wpAny _ _ (call (Value.ref 225) _) _ _ _); (k_dflt ((refine c_make (by k_extra "my cx") (by k_extra "my rm") _ _ _ _ (by omega) (by omega) (by omega) (by omega) ?_); (intro v'9m h'9m tk'9m k'9m a'9m); k_extra "my kf"))))
  trivial
section
variable {prog : Program} {w : World} {A : Around} {s : Shared} {Q E : Value → Shared → Prop}
set_option maxHeartbeats 4000000 in
theorem c_rounded (C : Cx w A s.heap) (hR : Rm A 6) (x : Value) (a b q : Int) (t1 : Tok) (hx : At s.heap x (.pr a b)) (h1 : -1048576 < a) (h2 : a < 1048576) (h3 : 0 < b) (h4 : b < 1024) (h5 : -2 ≤ q) (h6 : q ≤ 4)
  (hret : ∀ v h' tk', s.heap.StaysIn h' → FAt s.heap h' v (roundedD a b q) → Q v { s with heap := h', toks := tk' }) :
  wpAny (model prog w) A (call (.ref 260) [x, .int q t1]) Q E s := by
  obtain ⟨hh, base, outer, p, loose, mean, mg, mb, B, X, T⟩ := C
  obtain ⟨ah, dp, fr, gd, un⟩ := A
  cases hh
  cases B.stack
  obtain ⟨x, ta, tb, rfl, ht⟩ := hx
  obtain ⟨hp1, hp2, hp3, hp4⟩ := pow_bd h5 h6
  have hm := mul_abs (K := 1048576) (M := 10000) h1 h2 hp1 hp2
  have hb := mul_abs (K := 1024) (M := 100) (x := b) (by omega) (by omega) hp3 hp4
  have hb0 := Int.mul_pos h3 hp3
  have hn := near_bd (n := a * 10 ^ q.toNat) (K := 1048576 * 10000) h3 hm.1 hm.2 (by decide)
  have hn' := near_bd (n := a) (d := b * 10 ^ (0 - q).toNat) (K := 1048576) hb0 h1 h2 (by decide)
  k_extra "my enter"
  k_extra "my go"
  all_goals first
    | (refine ret_at hret (by assumption) ?_; unfold roundedD; rw [if_pos (by assumption)]; assumption)
    | (unfold roundedD at hret; rw [if_neg (by assumption)] at hret; exact ret_pair hret (by assumption) (by assumption) (List.Mem.head _))
end
theorem word_43 : True := by
  k_with "my call ref" => (((with_reducible show wpAny _ _ (call (Value.ref 246) _) _ _ _); (k_dflt ((refine c_isfinite (by k_extra "my cx") (by k_extra "my rm") _ _ (by k_extra "my at") ?_); (intro h'9m tk'9m k'9m); k_extra "my kp"))))
  trivial
theorem word_44 : True := by
  k_with "my call ref" => (((with_reducible show wpAny _ _ (call (Value.ref 260) _) _ _ _); (k_dflt ((refine c_rounded (by k_extra "my cx") (by k_extra "my rm") _ _ _ _ _ (by k_extra "my at") (by omega) (by omega) (by omega) (by omega) (by omega) (by omega) ?_); (intro v'9m h'9m tk'9m k'9m a'9m); k_extra "my kf"))))
  trivial
section
variable {prog : Program} {w : World} {A : Around} {s : Shared} {Q E : Value → Shared → Prop}
noncomputable def rheD (d : D) (p : Int) : D := match d with
  | .no => .no
  | .pr a b => if 0 < b then (if 308 < p then .pr a b else roundedD a b p) else .pr a b
theorem At.self {h : Heap} {x : Addr} {a b : Int} {ta tb : Tok} (t : IsTup h x #[.int a ta, .int b tb]) : At h (.ref x) (.pr a b) := ⟨x, ta, tb, rfl, t⟩
set_option maxHeartbeats 4000000 in
theorem c_rhe (C : Cx w A s.heap) (hR : Rm A 8) (v : Value) (d : D) (q : Int) (t1 : Tok) (hx : At s.heap v d) (hd : ∀ a b, d = .pr a b → 0 < b → -1048576 < a ∧ a < 1048576 ∧ b < 1024) (hq : 308 < q ∨ (-2 ≤ q ∧ q ≤ 4))
  (hret : ∀ v' h' tk', s.heap.StaysIn h' → (v' = v ∧ rheD d q = d) ∨ FAt s.heap h' v' (rheD d q) → Q v' { s with heap := h', toks := tk' }) :
  wpAny (model prog w) A (call (.ref 267) [v, .int q t1]) Q E s := by
  obtain ⟨hh, base, outer, p, loose, mean, mg, mb, B, X, T⟩ := C
  obtain ⟨ah, dp, fr, gd, un⟩ := A
  cases hh
  cases B.stack
  cases d with
  | no =>
    cases hx
    have hx : At s.heap .none .no := rfl
    k_extra "my enter"
    k_extra "my go"
    all_goals exact hret _ _ _ (Fr.keep (by assumption)) (.inl ⟨rfl, rfl⟩)
  | pr a b =>
    obtain ⟨x, ta, tb, rfl, ht⟩ := hx
    have hx := At.self ht
    replace hd := hd a b rfl
    k_extra "my enter"
    k_extra "my go"
    all_goals first
      | (rename FAt _ _ _ _ => hA; rw [show (if -400 > q then -400 else q) = q from if_neg (by omega)] at hA; refine hret _ _ _ (Fr.keep (by assumption)) (.inr ?_); simp only [rheD]; rw [if_pos (by assumption), if_neg (by assumption)]; exact hA)
      | (rename Fr _ _ _ _ => kF9; refine hret _ _ _ kF9.keep (.inl ⟨rfl, ?_⟩); simp only [rheD]; (repeat' split) <;> first | rfl | (exfalso; omega))
end
theorem word_45 : True := by
  k_with "my call ref" => (((with_reducible show wpAny _ _ (call (Value.ref 267) _) _ _ _); (k_dflt ((refine c_rhe (by k_extra "my cx") (by k_extra "my rm") _ _ _ _ (by k_extra "my at") (by assumption) (by first | with_reducible assumption | omega) ?_); (intro v'9m h'9m tk'9m k'9m a'9m); k_extra "my kp"))))
  trivial
section
variable {prog : Program} {w : World} {A : Around} {s : Shared} {Q E : Value → Shared → Prop}
set_option maxHeartbeats 4000000 in
theorem c_isna (C : Cx w A s.heap) (hR : Rm A 2) (v : Value) (d : D) (hv : At s.heap v d)
  (hret : ∀ h' tk', s.heap.StaysIn h' → Q (.bool (match d with | .no => true | .pr a b => (a == 0) && (b == 0))) { s with heap := h', toks := tk' }) :
  wpAny (model prog w) A (call (.ref 239) [v]) Q E s := by
  obtain ⟨hh, base, outer, p, loose, mean, mg, mb, B, X, T⟩ := C
  obtain ⟨ah, dp, fr, gd, un⟩ := A
  cases hh
  cases B.stack
  cases d with
  | no =>
    cases hv
    k_extra "my enter"
    k_extra "my go"
    all_goals (refine ret_bool hret (by assumption) ?_; rfl)
  | pr a b =>
    obtain ⟨x, ta, tb, rfl, ht⟩ := hv
    k_extra "my enter"
    k_extra "my go"
    all_goals (refine ret_bool hret (by assumption) ?_; simp_all)
end

section
variable {prog : Program} {w : World} {A : Around} {s : Shared} {Q E : Value → Shared → Prop}
noncomputable def leastD (a b : Int) : D := .pr (a.fdiv (Int.gcd a b)) (b.fdiv (Int.gcd a b))
set_option maxHeartbeats 4000000 in
theorem c_least (C : Cx w A s.heap) (hR : Rm A 2) (a b : Int) (t1 t2 : Tok) (h2 : 0 < b) (h3 : b < 1073741824)
  (hret : ∀ v h' tk', s.heap.StaysIn h' → FAt s.heap h' v (leastD a b) → Q v { s with heap := h', toks := tk' }) :
  wpAny (model prog w) A (call (.ref 352) [.int a t1, .int b t2]) Q E s := by
  obtain ⟨hh, base, outer, p, loose, mean, mg, mb, B, X, T⟩ := C
  obtain ⟨ah, dp, fr, gd, un⟩ := A
  cases hh
  cases B.stack
  k_extra "my enter"
  k_extra "my go"
  rename Fr _ _ _ _ => F
  refine While_two (Str.ofString "one") (Str.ofString "other") (fun n x y => 0 ≤ x ∧ 0 ≤ y ∧ n = y.toNat ∧ Int.gcd x y = Int.gcd a b ∧ (x < 1073741824 ∨ 0 < y)  ∧ (0 < y ∨ 0 < x) ∧ y < 1073741824) F rfl rfl (fun _ _ _ => rfl) ⟨by split <;> omega, by omega, rfl, gcd_abs a b, .inr h2, .inl h2, h3⟩ ?_
  intro n x y tx ty h₃ tk₃ hJ F₃ N₃
  obtain ⟨hx, hy, rfl, hg, hb1, hb2, hb3⟩ := hJ
  k_extra "my go"
  all_goals first
    | (have hx9 : x = (Int.gcd a b : Int) := by (rw [← hg, show y = 0 by assumption, Int.gcd_zero_right]; omega)
       subst hx9
       exact ret_pair hret (by assumption) (by assumption) (List.Mem.head _))
    | (have hm := fmod_pos' (a := x) (b := y) (by omega); first | omega | (rw [gcd_turn (by omega) (by omega)]; exact hg))
end

theorem word_46 : True := by
  k_with "my call ref" => (((with_reducible show wpAny _ _ (call (Value.ref 352) _) _ _ _); (k_dflt ((refine c_least (by k_extra "my cx") (by k_extra "my rm") _ _ _ _ (by omega) (by omega) ?_); (intro v'9m h'9m tk'9m k'9m a'9m); k_extra "my kf"))))
  trivial
/-- ten to the n-th times a, by turns -/
noncomputable def up (a : Int) : Nat → Int
  | 0 => a
  | n + 1 => up a n * 10
theorem up_bd {a K : Int} (h1 : -K < a) (h2 : a < K) : ∀ n, n ≤ 4 → -(K * 10000) < up a n ∧ up a n < K * 10000 := by
  intro n hn
  have hK : 0 < K := by omega
  have : n = 0 ∨ n = 1 ∨ n = 2 ∨ n = 3 ∨ n = 4 := by omega
  rcases this with rfl | rfl | rfl | rfl | rfl <;> simp only [up] <;> omega
theorem up_pos {a : Int} (h1 : 0 < a) : ∀ n, 0 < up a n
  | 0 => h1
  | n + 1 => by have := up_pos h1 n; unfold up; omega
noncomputable def finD (a b q : Int) : D :=
  if 0 < q then leastD (nearestZ (up a q.natAbs) b) (10 ^ q.toNat)
  else .pr (nearestZ a (up b q.natAbs) * 10 ^ (0 - q).toNat) 1
noncomputable def dueD (d g : D) : D := match g with
  | .no => .no
  | .pr g0 g1 => if g0 = 0 ∧ g1 = 0 then .no else match d with
    | .no => .no
    | .pr a b => if b = 0 ∨ (g0 = 1 ∧ g1 = 0) then .pr a b else if g1 = 0 then .pr 0 1 else finD a b ((2 * g0 + g1).fdiv (2 * g1))
noncomputable def EOk (d : D) : Prop := ∀ a b, d = .pr a b → b = 0 ∨ (0 < b ∧ b < 1024 ∧ -1048576 < a ∧ a < 1048576)
noncomputable def GOk (d : D) : Prop := ∀ a b, d = .pr a b → -1000 < a ∧ a < 1000 ∧ ((b = 0 ∧ (a = 0 ∨ a = 1 ∨ a = -1)) ∨ (0 < b ∧ b < 10 ∧ -2 ≤ (2 * a + b).fdiv (2 * b) ∧ (2 * a + b).fdiv (2 * b) ≤ 4))
theorem tup_reads {h : Heap} {x : Addr} {a b : Int} {ta tb : Tok} (t : IsTup h x #[.int a ta, .int b tb]) : Reads h (.ref x) (.tuple [.int a, .int b]) [] := by
  obtain ⟨o, ho, hc, n, hd⟩ := t
  exact .tuple ho hc hd (.cons (.int _ _) (.cons (.int _ _) .nil))
theorem Rm.room {A : Around} {env : Env} {k : Nat} (h : Rm A k) : (A.deeper env).units + 64 < cLine := by
  have := h.2
  rw [units_deeper, cLine_is]
  omega
theorem eq_pair {prog : Program} {w : World} {A : Around} {s : Shared} {Q E : Value → Shared → Prop} {x y : Addr} {a b c d : Int} {ta tb tc td : Tok} (hu : A.units + 64 < cLine) (hx : IsTup s.heap x #[.int a ta, .int b tb]) (hy : IsTup s.heap y #[.int c tc, .int d td])
    (h : Q (.bool (decide (a = c ∧ b = d))) s) : wpAny (model prog w) A (compareOp .Eq (.ref x) (.ref y)) Q E s := by
  refine eq_dataH (tup_reads hx) (tup_reads hy) rfl rfl hu ?_
  have e : PyData.eqv (.tuple [.int a, .int b]) (.tuple [.int c, .int d]) = decide (a = c ∧ b = d) := by
    simp [PyData.eqv, PyData.eqvAll]
    rfl
  rw [e]
  exact h
local macro_rules | `(tactic| walk_at "compareOp Eq ref ref") => `(tactic| k_extra "my compareOp Eq ref ref")
theorem word_47 : True := by
  k_with "my compareOp Eq ref ref" => (k_dflt ((rename Rm _ _ => kR9); (rename Fr _ _ _ _ => kF9); (rename News _ _ _ _ => kN9); (refine eq_pair (Rm.room kR9) (by first | exact IsTup.keeps (by with_reducible assumption) (Fr.keep kF9) | exact News.isTup kN9 (by k_mem)) (by first | exact IsTup.keeps (by with_reducible assumption) (Fr.keep kF9) | exact News.isTup kN9 (by k_mem)) ?_)))
  trivial
section
variable {prog : Program} {w : World} {A : Around} {s : Shared} {Q E : Value → Shared → Prop}
set_option maxHeartbeats 8000000 in
theorem c_due (C : Cx w A s.heap) (hR : Rm A 4) (v u : Value) (d g : D) (hx : At s.heap v d) (hg : At s.heap u g) (hd : EOk d) (hgo : GOk g)
  (hret : ∀ v' h' tk', s.heap.StaysIn h' → (v' = v ∧ dueD d g = d) ∨ FAt s.heap h' v' (dueD d g) → Q v' { s with heap := h', toks := tk' }) :
  wpAny (model prog w) A (call (.ref 373) [v, u]) Q E s := by
  obtain ⟨hh, base, outer, p, loose, mean, mg, mb, B, X, T⟩ := C
  obtain ⟨ah, dp, fr, gd, un⟩ := A
  cases hh
  cases B.stack
  have hHand : Hand := ⟨⟩
  cases g with
  | no =>
    cases hg
    k_extra "my enter"
    k_extra "my go"
    all_goals exact hret _ _ _ (Fr.keep (by assumption)) (.inr rfl)
  | pr g0 g1 =>
    obtain ⟨y, tc, td, rfl, ht'⟩ := hg
    have hr' := tup_reads ht'
    replace hgo := hgo g0 g1 rfl
    cases d with
    | no =>
      cases hx
      k_extra "my enter"
      k_extra "my go"
      all_goals (refine hret _ _ _ (Fr.keep (by assumption)) (.inr ?_); simp only [dueD]; (repeat' split) <;> rfl)
    | pr a b =>
      obtain ⟨x, ta, tb, rfl, ht⟩ := hx
      replace hd := hd a b rfl
      k_extra "my enter"
      k_extra "my go"
      all_goals first
        | (refine hret _ _ _ (Fr.keep (by assumption)) (.inl ⟨rfl, ?_⟩); simp only [dueD]; (repeat' split) <;> first | rfl | (exfalso; omega))
        | (refine hret _ _ _ (Fr.keep (by assumption)) (.inr ?_); simp only [dueD]; (repeat' split) <;> first | rfl | exact at_news (by assumption) (List.Mem.head _) | (exfalso; omega))
        | skip
      rename Hand => hHand0
      clear hHand0
      rename IsRange _ _ _ _ _ _ _ _ => hr
      rename Fr _ _ _ _ => F
      obtain ⟨q, hq⟩ : ∃ q, q = (2 * g0 + g1).fdiv (2 * g1) := ⟨_, rfl⟩
      rw [← hq] at hr F hgo
      have hb9 : b ≠ 0 := by assumption
      have hg9 : g1 ≠ 0 := by assumption
      have hd2 := hd.resolve_left hb9
      have hb1 := hd2.1
      have hb2 := hd2.2.1
      have ha1 := hd2.2.2.1
      have ha2 := hd2.2.2.2
      have hg2 := hgo.2.2.resolve_left fun e => hg9 e.1
      have hg1 := hg2.1
      have hq1 := hg2.2.2.1
      have hq2 := hg2.2.2.2
      clear hd hd2 hgo hg2 hb9 hg9
      rw [show (if q < 0 then -q else q) = ((q.natAbs : Nat) : Int) by split <;> omega] at hr
      obtain ⟨hp1, hp2, hp3, hp4⟩ := pow_bd (p := q) (by omega) (by omega)
      have hn4 : q.natAbs ≤ 4 := by omega
      refine Stop.out ?_
      by_cases hq0 : 0 < q
      · refine iter_range_two (n := q.natAbs) (Str.ofString "top") (Str.ofString "below") (up a) (fun _ => b) rfl hr (small_one (by omega) (by omega) (by omega) (by omega)) (by rw [rangeSize_nat]; omega) F rfl rfl ?_ ?_
        · intro i t t3 t4 h tk own hi F₁ N₁
          have hu := up_bd (a := a) (K := 1048576) (by omega) (by omega) i (by omega)
          k_extra "my go"
        · intro u t3 t4 h tk F₁ N₁
          have hu := up_bd (a := a) (K := 1048576) (by omega) (by omega) _ hn4
          k_extra "my go"
          all_goals (refine hret _ _ _ (Fr.keep (by assumption)) (.inr ?_); simp only [dueD]; rw [if_neg (by assumption), if_neg (by omega), if_neg (by assumption), ← hq]; unfold finD; first | rw [if_pos (by assumption)] | rw [if_neg (by assumption)])
          all_goals (unfold nearestZ; (repeat' split) <;> first | assumption | exact at_news (by assumption) (List.Mem.head _) | (exfalso; omega))
      · refine iter_range_two (n := q.natAbs) (Str.ofString "top") (Str.ofString "below") (fun _ => a) (up b) rfl hr (small_one (by omega) (by omega) (by omega) (by omega)) (by rw [rangeSize_nat]; omega) F rfl rfl ?_ ?_
        · intro i t t3 t4 h tk own hi F₁ N₁
          have hu := up_bd (a := b) (K := 1024) (by omega) (by omega) i (by omega)
          k_extra "my go"
        · intro u t3 t4 h tk F₁ N₁
          have hu := up_bd (a := b) (K := 1024) (by omega) (by omega) _ hn4
          have hu0 := up_pos (a := b) (by omega) q.natAbs
          k_extra "my go"
          all_goals (refine hret _ _ _ (Fr.keep (by assumption)) (.inr ?_); simp only [dueD]; rw [if_neg (by assumption), if_neg (by omega), if_neg (by assumption), ← hq]; unfold finD; first | rw [if_pos (by assumption)] | rw [if_neg (by assumption)])
          all_goals (unfold nearestZ; (repeat' split) <;> first | assumption | exact at_news (by assumption) (List.Mem.head _) | (exfalso; omega))
end

section
variable {prog : Program} {w : World} {A : Around} {s : Shared} {base : Heap} {outer : List Env} {K : Frag} {p : Program} {loose : List Str} {mean : ExcName → Option Value} {mg mb : Str → Option Value}
  {R : Result → Shared → Prop} {name qual : Str} {params params₀ : Arguments} {body body₀ : List Stmt} {scope scope₀ : Scope} {dV kV doc pm cdv ct oc : Value} {an od : Option Addr} {osl : Array (Option Value)} {f : Addr} {args : Args} {binds : List (Str × Value)} {c : Addr} {o : Obj}
/-- a call that may change the one object c -/
theorem enterH (_B : Below A base outer (s.heap.hide c)) (X : K.In (s.heap.hide c)) (T : Top p loose mean mg mb (s.heap.hide c)) (hc : s.heap.get? c = some o)
    (ho : K.lookup f = some ⟨oc, od, .func (fnOf name qual params₀ body₀ scope₀ dV kV doc pm an cdv ct), osl⟩) (hp : params₀ = params) (hb : body₀ = body) (hs : scope₀ = scope) (hcd : codeIn K cdv qual = true) (hroom : A.depth < recursionLimit)
    (hbind : BindsTo s (fnOf name qual params body scope dV kV doc pm an cdv ct) args binds) (hloc : ∀ y ∈ binds, scope.names.lookup y.1 = some .local)
    (h : ∀ L' h₁, Fr (s.heap.hide c) L' h₁ (fun y => binds.reverse.lookup y) → News (s.heap.hide c) L' h₁ [(c, o)] →
      wpAny (model prog w) (A.deeper (envOf qual scope L' f cdv)) (execs body (envOf qual scope L' f cdv))
        (fun fl s' => R (.ok (.ret (match fl with | .ret v => v | _ => .none))) s')
        (fun e s' => wpAny (model prog w) (A.deeper (envOf qual scope L' f cdv)) (leaving (envOf qual scope L' f cdv) e) (fun _ s'' => R (.error e) s'') (fun e' s'' => R (.error e') s'') s')
        { s with heap := h₁, toks := s.toks + binds.length })
    (hco : scope.isCoroutine = false) (hgen : scope.isGenerator = false) (hk : scope.kind = .function)
    (hcell : ∀ x ∈ scope.names, x.2 ≠ .cell) : codeAny (model prog w) A (.call (.ref f) args) R s := by
  subst hp hb hs
  have X' : K.In s.heap := X.keeps fun _ _ e => Heap.of_hide e
  refine codeAny_call_def (fd := fnOf name qual params₀ body₀ scope₀ dV kV doc pm an cdv ct) (body := body₀) (binds := binds) hroom (X' _ _ ho) rfl (T.nolimit.keeps fun _ _ e => Heap.of_hide e) (codeRec_of X' hcd) rfl hbind hcell hloc (fun h₁ hns hk₁ => ?_) hco hgen hk
  refine h _ h₁ ⟨hns, fun b x e => hk₁ b x (Heap.of_hide e), Nat.le_of_eq (Heap.hide_size _ _)⟩ fun q hq => ?_
  cases List.mem_singleton.mp hq
  exact ⟨hk₁ _ _ hc, Nat.ne_of_lt (Heap.lt_size hc), Heap.hide_self _ _⟩
theorem fr_hide {h₀ h : Heap} {L : Addr} {m : Str → Option Value} {news : List (Addr × Obj)} (F : Fr h₀ L h m) (N : News h₀ L h news) (hm : (c, o) ∈ news) : Fr h₀ L (h.hide c) m := by
  have z := N _ hm
  exact ⟨F.ns.at' fun o e => (Heap.hide_ne h (Ne.symm z.2.1)).trans e, fun b x e => (Heap.hide_ne h fun q => by rw [q, z.2.2] at e; cases e).trans (F.keep b x e), F.above⟩
theorem cxh_push {env : Env} {h₀ h : Heap} {L : Addr} {m : Str → Option Value} {news : List (Addr × Obj)} (hh : A.handled = none) (B : Below A base outer h₀) (F : Fr h₀ L h m) (N : News h₀ L h news) (hm : (c, o) ∈ news) (X : (Kh w.params).In h₀) (T : Top p loose mean mg mb h₀)
    (hf : env.frame = some L) (hk : env.scope.kind = .function) : Cx w (A.deeper env) (h.hide c) :=
  have F' := fr_hide F N hm
  ⟨hh, base, env :: outer, p, loose, mean, mg, mb, pushX B F' hf hk, X.keeps F'.keep, T.keeps F'.keep⟩
/-- after such a call: the caller's frame, and its ledger with c's new object -/
theorem fr_after {h₀ h h' : Heap} {L : Addr} {m : Str → Option Value} {news : List (Addr × Obj)} (F : Fr h₀ L h m) (N : News h₀ L h news) (hm : (c, o) ∈ news) (k : (h.hide c).StaysIn h') : Fr h₀ L h' m := (fr_hide F N hm).keeps k
theorem news_after {h₀ h h' : Heap} {L : Addr} {o' : Obj} {news news' : List (Addr × Obj)} (N : News h₀ L h news) (U : Upd c o o' news news') (k : (h.hide c).StaysIn h') (hc : h'.get? c = some o') : News h₀ L h' news' := by
  obtain ⟨pre, post, rfl, rfl, h1, h2⟩ := U.split
  have other : ∀ q : Addr × Obj, q ∈ pre ++ (c, o) :: post → q.1 ≠ c → h'.get? q.1 = some q.2 ∧ q.1 ≠ L ∧ h₀.get? q.1 = none := fun q hq hn => ⟨k _ _ ((Heap.hide_ne h hn).trans (N q hq).1), (N q hq).2⟩
  intro q hq
  rcases List.mem_append.mp hq with hq | hq
  · exact other q (List.mem_append.mpr (.inl hq)) (h1 q hq)
  · rcases List.mem_cons.mp hq with rfl | hq
    · exact ⟨hc, (N (c, o) (List.mem_append.mpr (.inr (List.mem_cons_self)))).2⟩
    · exact other q (List.mem_append.mpr (.inr (List.mem_cons_of_mem _ hq))) (h2 q hq)
end
theorem word_48 : True := by
  k_with "my enterH" => (((refine wpAny_call (enterH (by assumption) (by assumption) (by assumption) (by assumption) (by k_is) (by k_extra "my lit") (by k_extra "my lit") (by k_extra "my lit") (by k_is) (by k_extra "my k6") (by exact BindsTo.of_eq rfl) (by exact locs rfl) ?_ (by exact rfl) (by exact rfl) (by exact rfl) (by decide))); intro L'9m h₁9m F'9m N'9m; (try dsimp only); k_fold))
  trivial
/-- the coins: a list of ints, not long -/
noncomputable def Pot (h : Heap) (c : Addr) : Prop := ∃ vs ns n, h.get? c = some (listOf vs.toArray n) ∧ IntsAre vs ns ∧ ns.length ≤ 200
theorem pot_elim {h : Heap} {c : Addr} {G : Prop} (p : Pot h c) (k : ∀ vs ns n, h.get? c = some (listOf vs.toArray n) → IntsAre vs ns → ns.length ≤ 200 → G) : G := by
  obtain ⟨vs, ns, n, a, b, d⟩ := p
  exact k vs ns n a b d
section
variable {prog : Program} {w : World} {A : Around} {s : Shared} {Q E : Value → Shared → Prop}
set_option maxHeartbeats 4000000 in
theorem c_coin {c : Addr} (C : Cx w A (s.heap.hide c)) (hR : Rm A 2) (hp : Pot s.heap c) (k : Int) (t1 : Tok) (h1 : 0 < k) (h2 : k < 1000)
  (hret : ∀ r t h' tk', (s.heap.hide c).StaysIn h' → Pot h' c → 0 ≤ r → r < k → Q (.int r t) { s with heap := h', toks := tk' }) :
  wpAny (model prog w) A (call (.ref 345) [.ref c, .int k t1]) Q E s := by
  obtain ⟨hh, base, outer, p, loose, mean, mg, mb, B, X, T⟩ := C
  obtain ⟨ah, dp, fr, gd, un⟩ := A
  obtain ⟨vs, ns, n, hc, hi, hl⟩ := hp
  cases hh
  cases B.stack
  have hlen := hi.length
  k_extra "my enterH"
  k_extra "my go"
  · rename_i kF kN hi'
    have hm := fmod_pos' (a := ns.getLastD 0) h1
    refine hret _ _ _ _ kF.keep ⟨_, _, _, (kN _ (List.Mem.head _)).1, hi', ?_⟩ hm.1 hm.2
    rw [List.length_dropLast]; omega
  · rename Fr _ _ _ _ => kF
    rename News _ _ _ _ => kN
    exact hret _ _ _ _ kF.keep ⟨_, _, _, (kN _ (List.Mem.head _)).1, hi, hl⟩ (Int.le_refl _) h1
end

theorem word_49 : True := by
  k_with "my cxh" => (((rename Fr _ _ _ _ => kF9); (rename News _ _ _ _ => kN9); exact cxh_push (by with_unfolding_all rfl) (by with_reducible assumption) kF9 kN9 (by k_mem) (by assumption) (by assumption) rfl rfl))
  trivial
theorem word_50 : True := by
  k_with "my hp" => (((rename News _ _ _ _ => kN9); exact ⟨_, _, _, (kN9 (_, listOf _ _) (by k_mem)).1, by assumption, by assumption⟩))
  trivial
theorem word_51 : True := by
  k_with "my kh" => (((rename Fr _ _ _ _ => kF9); (rename News _ _ _ _ => kN9); (intro k'9m hP'9m); (refine pot_elim hP'9m fun vs'9m ns'9m n'9m hc'9m hi'9m hl'9m => ?_); (have kF9m := fr_after kF9 kN9 (by k_mem) k'9m); (have kN9m := news_after kN9 (by k_upd) k'9m hc'9m); (clear kF9 kN9 k'9m hc'9m hP'9m); (try dsimp only)))
  trivial
theorem word_52 : True := by
  k_with "my call ref" => (((with_reducible show wpAny _ _ (call (Value.ref 345) _) _ _ _); (k_dflt ((refine c_coin (by k_extra "my cxh") (by k_extra "my rm") (by k_extra "my hp") _ _ (by decide) (by decide) ?_); (intro r'9m t'9m h'9m tk'9m); k_extra "my kh"; (intro g1'9m g2'9m)))))
  trivial
theorem least_eok {a b : Int} (h1 : -1048576 < a) (h2 : a < 1048576) (h3 : 0 < b) (h4 : b < 1024) : EOk (leastD a b) := by
  intro x y e
  cases e
  have hg := gcd_pos' (a := a) h3
  exact .inr ⟨fdiv_pos hg (gcd_le' h3), fdiv_hi hg h4 (by decide), fdiv_lo hg h1 (by decide), fdiv_hi hg h2 (by decide)⟩
theorem least_gok2 {a : Int} (h1 : -4 ≤ a) (h2 : a ≤ 7) : GOk (leastD a 2) := by
  have : a = -4 ∨ a = -3 ∨ a = -2 ∨ a = -1 ∨ a = 0 ∨ a = 1 ∨ a = 2 ∨ a = 3 ∨ a = 4 ∨ a = 5 ∨ a = 6 ∨ a = 7 := by omega
  intro x y e
  rcases this with rfl | rfl | rfl | rfl | rfl | rfl | rfl | rfl | rfl | rfl | rfl | rfl <;> cases e <;> decide
theorem least_gok3 {a : Int} (h : a = 5 ∨ a = 8) : GOk (leastD a 3) := by
  intro x y e
  rcases h with rfl | rfl <;> cases e <;> decide
theorem fat_hide {h h' : Heap} {c : Addr} {v : Value} {d : D} {vs : Array Value} {n : Nat} (x : FAt (h.hide c) h' v d) (hc : h'.get? c = some (listOf vs n)) : FAt h h' v d := by
  cases d with
  | no => exact x
  | pr a b =>
    obtain ⟨y, ta, tb, e, hn, t⟩ := x
    refine ⟨y, ta, tb, e, ?_, t⟩
    by_cases q : y = c
    · obtain ⟨o, ho, hcl, _⟩ := t
      rw [q, hc] at ho; cases ho; exact absurd (Value.type.inj hcl) (by decide)
    · cases z : h.get? y with
      | none => rfl
      | some o => have := (Heap.hide_ne h q).trans z; rw [hn] at this; cases this
theorem eok_no : EOk .no := fun _ _ e => nomatch e
theorem eok_zero {a : Int} : EOk (.pr a 0) := fun _ _ e => by cases e; exact .inl rfl
theorem gok_no : GOk .no := fun _ _ e => nomatch e
theorem gok_zero {a : Int} (h : a = 0 ∨ a = 1 ∨ a = -1) : GOk (.pr a 0) := fun _ _ e => by cases e; exact ⟨by omega, by omega, .inl ⟨rfl, h⟩⟩
section
variable {prog : Program} {w : World} {A : Around} {s : Shared} {Q E : Value → Shared → Prop}
theorem ret_ent {P : D → Prop} {c L : Addr} {vs : List Value} {ns : List Int} {n tk' : Nat} {v : Value} {d : D} {h' : Heap} {m : Str → Option Value} {news : List (Addr × Obj)}
    (hret : ∀ v d h' tk', (s.heap.hide c).StaysIn h' → Pot h' c → FAt s.heap h' v d → P d → Q v { s with heap := h', toks := tk' }) (F : Fr (s.heap.hide c) L h' m) (N : News (s.heap.hide c) L h' news)
    (hm : (c, listOf vs.toArray n) ∈ news) (hi : IntsAre vs ns) (hl : ns.length ≤ 200) (ha : FAt (s.heap.hide c) h' v d) (hp : P d) : Q v { s with heap := h', toks := tk' } := hret _ _ _ _ F.keep ⟨_, _, _, (N _ hm).1, hi, hl⟩ (fat_hide ha (N _ hm).1) hp
set_option maxHeartbeats 4000000 in
theorem c_entry {c : Addr} (C : Cx w A (s.heap.hide c)) (hR : Rm A 4) (hp : Pot s.heap c)
  (hret : ∀ v d h' tk', (s.heap.hide c).StaysIn h' → Pot h' c → FAt s.heap h' v d → EOk d → Q v { s with heap := h', toks := tk' }) :
  wpAny (model prog w) A (call (.ref 359) [.ref c]) Q E s := by
  obtain ⟨hh, base, outer, p, loose, mean, mg, mb, B, X, T⟩ := C
  obtain ⟨ah, dp, fr, gd, un⟩ := A
  obtain ⟨vs, ns, n, hc, hi, hl⟩ := hp
  cases hh
  cases B.stack
  k_extra "my enterH"
  k_extra "my go"
  all_goals (rename Fr _ _ _ _ => kF; rename News _ _ _ _ => kN)
  all_goals first
    | exact ret_ent hret kF kN (by k_mem) (by assumption) (by assumption) (d := .no) rfl eok_no
    | exact ret_ent hret kF kN (by k_mem) (by assumption) (by assumption) (at_news kN (by k_mem)) eok_zero
    | exact ret_ent hret kF kN (by k_mem) (by assumption) (by assumption) (by assumption) (least_eok (by omega) (by omega) (by decide) (by decide))
set_option maxHeartbeats 4000000 in
theorem c_digits {c : Addr} (C : Cx w A (s.heap.hide c)) (hR : Rm A 4) (hp : Pot s.heap c)
  (hret : ∀ v d h' tk', (s.heap.hide c).StaysIn h' → Pot h' c → FAt s.heap h' v d → GOk d → Q v { s with heap := h', toks := tk' }) :
  wpAny (model prog w) A (call (.ref 366) [.ref c]) Q E s := by
  obtain ⟨hh, base, outer, p, loose, mean, mg, mb, B, X, T⟩ := C
  obtain ⟨ah, dp, fr, gd, un⟩ := A
  obtain ⟨vs, ns, n, hc, hi, hl⟩ := hp
  cases hh
  cases B.stack
  k_extra "my enterH"
  k_extra "my go"
  all_goals (rename Fr _ _ _ _ => kF; rename News _ _ _ _ => kN)
  all_goals first
    | exact ret_ent hret kF kN (by k_mem) (by assumption) (by assumption) (d := .no) rfl gok_no
    | exact ret_ent hret kF kN (by k_mem) (by assumption) (by assumption) (at_news kN (by k_mem)) (gok_zero (by decide))
    | exact ret_ent hret kF kN (by k_mem) (by assumption) (by assumption) (by assumption) (least_gok2 (by omega) (by omega))
    | exact ret_ent hret kF kN (by k_mem) (by assumption) (by assumption) (by assumption) (least_gok3 (by omega))
end

local macro_rules | `(tactic| walk_at "call builtin:list.reverse") => `(tactic| k_extra "my call builtin:list.reverse")
theorem word_53 : True := by
  k_with "my call builtin:list.reverse" => (fail "by hand")
  trivial
theorem news_swap {h₀ h : Heap} {L : Addr} {x y : Addr × Obj} {r : List (Addr × Obj)} (N : News h₀ L h (x :: y :: r)) : News h₀ L h (y :: x :: r) := fun p hp => by
  rcases List.mem_cons.mp hp with rfl | hp
  · exact N _ (List.mem_cons_of_mem _ List.mem_cons_self)
  · rcases List.mem_cons.mp hp with rfl | hp
    · exact N _ List.mem_cons_self
    · exact N _ (List.mem_cons_of_mem _ (List.mem_cons_of_mem _ hp))
theorem ints_snoc {vs : List Value} {ns : List Int} {k : Int} {t : Tok} (h : IntsAre vs ns) : IntsAre (vs ++ [.int k t]) (ns ++ [k]) := IntsAre.append h (.cons k t .nil)
theorem sub_a {α : Type} (x y : α) (r : List α) : ∀ p ∈ [x, y], p ∈ y :: x :: r := by
  intro p hp
  rcases List.mem_cons.mp hp with rfl | hp
  · exact List.mem_cons_of_mem _ List.mem_cons_self
  · rw [List.mem_singleton.mp hp]; exact List.mem_cons_self
theorem sub_b {α : Type} (x y : α) (a b : List α) : ∀ p ∈ a, p ∈ x :: y :: (a ++ b) := fun _ hp => List.mem_cons_of_mem _ (List.mem_cons_of_mem _ (List.mem_append_left _ hp))
theorem sub_e {α : Type} (x y : α) (a : List α) : ∀ p ∈ a, p ∈ x :: y :: a := fun _ hp => List.mem_cons_of_mem _ (List.mem_cons_of_mem _ hp)
theorem sub_d {α : Type} (x y : α) (a b : List α) : ∀ p ∈ b, p ∈ x :: y :: (a ++ b) := fun _ hp => List.mem_cons_of_mem _ (List.mem_cons_of_mem _ (List.mem_append_right _ hp))
theorem sub_c {α : Type} (x y : α) (a b : List α) : ∀ p ∈ x :: y :: a, p ∈ x :: y :: (a ++ b) := fun p hp => by
  rcases List.mem_cons.mp hp with rfl | hp
  · exact List.mem_cons_self
  · rcases List.mem_cons.mp hp with rfl | hp
    · exact List.mem_cons_of_mem _ List.mem_cons_self
    · exact sub_b x y a b p hp
theorem ints_rev {vs : List Value} {ns : List Int} (h : IntsAre vs ns) : IntsAre vs.toArray.toList.reverse ns.reverse := by
  induction h with
  | nil => exact .nil
  | cons k t _ ih => simpa using ints_snoc ih
theorem own_app {a b : List (Addr × Obj)} {l l' : List Addr} (h1 : OwnOff a l) (h2 : OwnOff b l') (hs : ∀ x ∈ l, x ∈ l') : OwnOff (a ++ b) l := fun p hp x hx => (List.mem_append.mp hp).elim (fun h => h1 p h x hx) fun h => h2 p h x (hs x hx)
section
variable {prog : Program} {w : World} {A : Around} {s : Shared} {Q E : Value → Shared → Prop}
set_option maxHeartbeats 4000000 in
theorem c_coins {a : Addr} {vs : List Value} {ns : List Int} (C : Cx w A s.heap) (hR : Rm A 2) (hls : s.heap.IsList a vs.toArray) (hi : IntsAre vs ns) (hl : ns.length ≤ 1048576)
  (hret : ∀ c h' tk', s.heap.StaysIn h' → s.heap.get? c = none → Pot h' c → Q (.ref c) { s with heap := h', toks := tk' }) :
  wpAny (model prog w) A (call (.ref 338) [.ref a]) Q E s := by
  obtain ⟨hh, base, outer, p, loose, mean, mg, mb, B, X, T⟩ := C
  obtain ⟨ah, dp, fr, gd, un⟩ := A
  cases hh
  cases B.stack
  have hHand : Hand := ⟨⟩
  k_extra "my enter"
  k_extra "my go"
  rename_i c h2 l1a h1 l ws₀ h kF kN hI hC hL l1
  unfold Stop
  refine' kdl_iter (fun i m nx => ∃ ws ms n, nx = [(l, listOf ws₀.toArray 0), (c, listOf ws.toArray n)] ∧ IntsAre ws ms ∧ ms.length ≤ 12 * i ∧ m (Str.ofString "coins") = some (.ref c)) rfl ?hm kF kN ?hj ?_ ?_
  case hm => exact List.Mem.head _
  case hj => exact ⟨[], [], 0, rfl, .nil, Nat.zero_le _, rfl⟩
  · rintro i v m₁ nx h tk own hv hoff - ⟨ws, ms, n, rfl, hw, hml, hm⟩ F₁ N₁
    obtain ⟨k, t, rfl, hk⟩ := IntsAre.at hI i v hv
    clear kF kN
    have hlen := hI.length
    have hil : i < 50 := by
      have := (List.getElem?_eq_some_iff.mp hk).1
      omega
    have hoff' : OwnOff own [l, c] := hoff
    have hlw := hw.length
    have N₂ : News s.heap _ h ((l, listOf ws₀.toArray 0) :: (c, listOf ws.toArray n) :: own) := N₁
    have F₂ := fr_congr (m' := fun y => if y = Str.ofString "cell" then some (.int k t) else if y = Str.ofString "coins" then some (.ref c) else m₁ y) F₁ (fun z => by by_cases h1 : z = Str.ofString "cell" <;> by_cases h2 : z = Str.ofString "coins" <;> simp_all)
    clear F₁ N₁
    k_extra "my go"
    all_goals
      unfold Stop
      rename IsRange _ _ _ _ _ _ _ _ => hr
      rename Fr _ _ _ _ => F₃
      rename News _ _ _ _ => N₃
      refine iter_range_J (n := 12) (a₀ := 0) (b₀ := 12) (fun j m nx => ∃ ws' ms' n' a' t', nx = (c, listOf ws'.toArray n') :: (l, listOf ws₀.toArray 0) :: own ∧ IntsAre ws' ms' ∧ ms'.length ≤ 12 * i + j ∧ m (Str.ofString "coins") = some (.ref c) ∧ m (Str.ofString "load") = some (.int a' t')) rfl hr (by decide) (by decide) F₃ (news := (c, listOf ws.toArray n) :: (l, listOf ws₀.toArray 0) :: own) (news_swap N₃) ⟨ws, ms, n, _, _, rfl, hw, by omega, rfl, rfl⟩ ?_ ?_
      · rintro j t₁ m₂ nx h₂ tk₂ own₂ hj hoff₂ ⟨ws', ms', n', a', t', rfl, hw', hml', hm1, hm2⟩ F₁ N₁
        clear F₃ N₃ hr
        have N₄ : News s.heap _ h₂ ((c, listOf ws'.toArray n') :: (l, listOf ws₀.toArray 0) :: (own ++ own₂)) := N₁
        have hoff₃ : OwnOff (own ++ own₂) [l, c] := own_app hoff' hoff₂ (by simp)
        have hlw' := hw'.length
        have F₄ := fr_congr (m' := fun y => if y = Str.ofString "lap" then some (.int (0 + (j : Nat)) t₁) else if y = Str.ofString "coins" then some (.ref c) else if y = Str.ofString "load" then some (.int a' t') else m₂ y) F₁ (fun z => by by_cases h1 : z = Str.ofString "lap" <;> by_cases h2 : z = Str.ofString "coins" <;> by_cases h3 : z = Str.ofString "load" <;> simp_all)
        clear F₁ N₁
        k_extra "my go"
        all_goals (rename Fr _ _ _ _ => kF; rename News _ _ _ _ => kN; rw [List.push_toArray] at kN)
        · exact InvEndG.intro kF kN (nx := [(l, listOf ws₀.toArray 0), (c, _)]) ⟨List.Mem.head _, _, ms' ++ [a'.fmod 190], _, rfl, ints_snoc hw', by rw [List.length_append, List.length_singleton]; omega, rfl⟩ hoff (sub_a _ _ _) (sub_b _ _ _ _)
        · exact InvEndG.intro kF kN (nx := (c, _) :: (l, listOf ws₀.toArray 0) :: own) ⟨_, ms' ++ [a'.fmod 190], _, _, _, rfl, ints_snoc hw', by rw [List.length_append, List.length_singleton]; omega, rfl, rfl⟩ hoff₂ (sub_c _ _ _ _) (sub_d _ _ _ _)
      · rintro m₂ nx h₂ tk₂ ⟨ws', ms', n', a', t', rfl, hw', hml', hm1, hm2⟩ F₁ N₁
        clear F₃ N₃ hr
        try k_extra "my go"
        exact InvEndG.intro F₁ N₁ (nx := [(l, listOf ws₀.toArray 0), (c, _)]) ⟨List.Mem.head _, _, _, _, rfl, hw', by omega, hm1⟩ hoff (sub_a _ _ _) (sub_e _ _ _)
  · rintro m₁ nx h tk ⟨ws, ms, n, rfl, hw, hml, hm⟩ F₁ N₁
    have hlen := hI.length
    have hlw := hw.length
    clear kF kN
    have F₂ := fr_congr (m' := fun y => if y = Str.ofString "coins" then some (.ref c) else m₁ y) F₁ (fun z => by by_cases h2 : z = Str.ofString "coins" <;> simp_all)
    clear F₁
    k_extra "my go"
    rename Fr _ _ _ _ => kF
    rename News _ _ _ _ => kN
    rename IntsAre _ (List.take 120 ms) => hI
    have hlr := hI.length
    refine kl_reverse kF kN rfl (Upd.head (by k_all)) (by simp only [sizeLine_eq]; omega) ?_
    intro h' F' N'
    k_extra "my go"
    refine hret _ _ _ F'.keep (N' _ (List.Mem.head _)).2.2 ⟨_, _, _, (N' _ (List.Mem.head _)).1, ints_rev hI, ?_⟩
    rw [List.length_reverse]; omega
end

/-- a new object, made by a call: onto the caller's ledger -/
theorem news_fresh {h₀ h h' : Heap} {L c : Addr} {m : Str → Option Value} {o : Obj} {news : List (Addr × Obj)} (F : Fr h₀ L h m) (N : News h₀ L h news) (k : h.StaysIn h') (hc : h.get? c = none) (e : h'.get? c = some o) : News h₀ L h' ((c, o) :: news) := fun p hp => by
  rcases List.mem_cons.mp hp with rfl | hp
  · refine ⟨e, fun q => ?_, ?_⟩
    · obtain ⟨oL, _, _, hL, _⟩ := F.ns
      have q' : c = L := q
      rw [← q', hc] at hL; cases hL
    · cases q : h₀.get? c with
      | none => rfl
      | some o' => have := F.keep c o' q; rw [hc] at this; cases this
  · exact ⟨k _ _ (N p hp).1, (N p hp).2⟩
noncomputable def NeAll (c : Addr) : List (Addr × Obj) → Prop
  | [] => True
  | p :: r => @Ne Nat p.1 c ∧ NeAll c r
theorem ne_fresh {h₀ h : Heap} {L c : Addr} : ∀ {news : List (Addr × Obj)}, News h₀ L h news → h.get? c = none → NeAll c news
  | [], _, _ => trivial
  | p :: _, N, hc => ⟨fun q => (by have := (N p List.mem_cons_self).1; have q' : p.1 = c := q; rw [q', hc] at this; exact nomatch this), ne_fresh (fun q hq => N q (List.mem_cons_of_mem _ hq)) hc⟩
structure Hand2 : Prop where
/-- all of R stands below b -/
noncomputable def Bnd (R : List (Addr × Obj)) (b : Addr) : Prop := ∀ p ∈ R, @LT.lt Nat _ p.1 b
theorem Bnd.ne {R : List (Addr × Obj)} {b d : Addr} (h : Bnd R b) (hd : @LE.le Nat _ b d) : ∀ p ∈ R, p.1 ≠ d := fun p hp q => by
  have h1 : @LT.lt Nat _ p.1 b := h p hp
  have q' : @Eq Nat p.1 d := q
  omega
theorem lt_tail {x : Addr × Obj} {l : List (Addr × Obj)} {d : Addr} (h : ∀ p ∈ x :: l, p.1 < d) : ∀ p ∈ l, p.1 < d := fun p hp => h p (List.mem_cons_of_mem _ hp)
theorem bnd_mk {l : List (Addr × Obj)} {d : Addr} (h : ∀ p ∈ l, p.1 < d) : Bnd l d := h
noncomputable def LtL (d : Nat) (l : List Nat) : Prop := ∀ c ∈ l, c < d
noncomputable def NeL (d : Nat) (l : List Nat) : Prop := ∀ c ∈ l, c ≠ d
section
variable {c d x : Nat} {l : List Nat}
theorem LtL.lt (h : LtL d l) (m : c ∈ l) : c < d := h c m
theorem LtL.le (h : LtL d l) (m : c ∈ l) : c ≤ d := Nat.le_of_lt (h c m)
theorem LtL.ne (h : LtL d l) (m : c ∈ l) : c ≠ d := Nat.ne_of_lt (h c m)
theorem LtL.en (h : LtL d l) (m : c ∈ l) : d ≠ c := Nat.ne_of_gt (h c m)
theorem LtL.ne1 (h : LtL d l) (m : c ∈ l) : c ≠ d + 1 := by have := h c m; omega
theorem LtL.ne2 (h : LtL d l) (m : c ∈ l) : c ≠ d + 1 + 1 := by have := h c m; omega
theorem LtL.ne3 (h : LtL d l) (m : c ∈ l) : c ≠ d + 1 + 1 + 1 := by have := h c m; omega
theorem NeL.ne (h : NeL d l) (m : c ∈ l) : c ≠ d := h c m
theorem NeL.en (h : NeL d l) (m : c ∈ l) : d ≠ c := fun e => h c m e.symm
theorem LtL.up (h : LtL d l) (hx : d < x) : LtL x (d :: l) := fun c hc => by
  rcases List.mem_cons.mp hc with rfl | hc
  · exact hx
  · exact Nat.lt_trans (h c hc) hx
end
theorem ltl_of {d : Addr} {l : List (Addr × Obj)} (h : ∀ p ∈ l, p.1 < d) : LtL d (l.map fun p => p.1) := fun c hc => by
  obtain ⟨p, hp, rfl⟩ := List.mem_map.mp hc
  exact h p hp
theorem nel_of {d : Addr} : ∀ {l : List (Addr × Obj)}, NeAll d l → NeL d (l.map fun p => p.1)
  | [], _ => fun _ h => nomatch h
  | p :: r, h => fun c hc => by
    rcases List.mem_cons.mp hc with rfl | hc
    · exact h.1
    · exact nel_of h.2 c hc
theorem off1_nel {d : Addr} : ∀ {l : List (Addr × Obj)}, LCg.Off1 d l → NeL d (l.map fun p => p.1)
  | [], _ => fun _ h => nomatch h
  | p :: r, h => fun c hc => by
    rcases List.mem_cons.mp hc with rfl | hc
    · exact h.1
    · exact off1_nel h.2 c hc
theorem off3_nel {a b d : Addr} {l : List (Addr × Obj)} (h : LCg.Off3 a b d l) (n : @Ne Nat a b ∧ @Ne Nat a d ∧ @Ne Nat b d) : NeL a (b :: d :: l.map fun p => p.1) ∧ NeL b (d :: l.map fun p => p.1) ∧ NeL d (l.map fun p => p.1) := by
  have key : ∀ c ∈ (l.map fun p => p.1), c ≠ a ∧ c ≠ b ∧ c ≠ d := fun c hc => by
    obtain ⟨p, hp, rfl⟩ := List.mem_map.mp hc
    exact h.mem p hp
  refine ⟨fun c hc => ?_, fun c hc => ?_, fun c hc => (key c hc).2.2⟩
  · rcases List.mem_cons.mp hc with rfl | hc
    · exact fun e => n.1 e.symm
    · rcases List.mem_cons.mp hc with rfl | hc
      · exact fun e => n.2.1 e.symm
      · exact (key c hc).1
  · rcases List.mem_cons.mp hc with rfl | hc
    · exact fun e => n.2.2 e.symm
    · exact (key c hc).2.1
theorem nd_nel {a : Nat} {l : List Nat} (h : (a :: l).Nodup) : NeL a l := fun c hc e => (List.nodup_cons.mp h).1 (e ▸ hc)
theorem nd_tl {a : Nat} {l : List Nat} (h : (a :: l).Nodup) : l.Nodup := (List.nodup_cons.mp h).2
theorem all_ltl {d : Addr} {l : List Nat} {r : List (Addr × Obj)} (h : LtL d l) (e : (r.map fun p => p.1) = l) : ∀ p ∈ r, p.1 ≠ d := fun p hp => h.ne (by rw [← e]; exact List.mem_map.mpr ⟨p, hp, rfl⟩)
theorem all_nel {d : Addr} {l : List Nat} {r : List (Addr × Obj)} (h : NeL d l) (e : (r.map fun p => p.1) = l) : ∀ p ∈ r, p.1 ≠ d := fun p hp => h.ne (by rw [← e]; exact List.mem_map.mpr ⟨p, hp, rfl⟩)
theorem ledger_list {h₀ h : Heap} {L l : Addr} {items : Array Value} {n : Nat} {news : List (Addr × Obj)} (N : News h₀ L h news) (hm : (l, listOf items n) ∈ news) : h.IsList l items := ⟨_, (N _ hm).1, rfl, n, rfl⟩
section
variable {prog : Program} {w : World} {A : Around} {E : Value → Shared → Prop} {s : Shared} {h₀ : Heap} {L : Addr} {l : Addr}
theorem led_len {news : List (Addr × Obj)} {us : List Value} {n : Nat} {Q : Value → Shared → Prop} (N : News h₀ L s.heap news) (hm : (l, listOf us.toArray n) ∈ news) (hfit : us.length < 100000)
    (h : Q (.int (us.length : Int) (s.toks + 1)) { s with toks := s.toks + 1 + 1 }) : wpAny (model prog w) A (call (.builtin "len") [.ref l]) Q E s := by
  have hl := ledger_list N hm
  have e : us.toArray.size = us.length := List.size_toArray ..
  exact len_list hl (by rw [e]; omega) (by rw [e]; exact h)
end
theorem idx_led {prog : Program} {w : World} {A : Around} {s : Shared} {Q E : Value → Shared → Prop} {h₀ : Heap} {L l : Addr} {news : List (Addr × Obj)} {items : List Value} {n : Nat} {k : Int} {u : Tok} {x : Value} {value slice : Expr} (N : News h₀ L s.heap news) (hm : (l, listOf items.toArray n) ∈ news) (h0 : 0 ≤ k) (hfit : k < 2 ^ 63) (hx : items[k.toNat]? = some x) (h : Q x s)
    (hs : subscripted slice false (.ref l) (.int k u) = operate [.ref l, .int k u] (getItem (.ref l) (.int k u)) := by with_unfolding_all rfl) : wpAny (model prog w) A (subscriptTail value slice (.ref l) (.int k u)) Q E s :=
  kba_turn (value' := .Name (PySem.Str.ofString "_") ⟨0, 0, 0, 0⟩) (fun _ => rfl) (item_listL (ledger_list N hm) h0 hfit hx h hs fun _ => rfl)
theorem len_led {prog : Program} {w : World} {A : Around} {s : Shared} {Q E : Value → Shared → Prop} {h₀ : Heap} {L l : Addr} {news : List (Addr × Obj)} {items : Array Value} {n k : Nat} (N : News h₀ L s.heap news) (hm : (l, listOf items n) ∈ news) (hk : items.size = k) (hfit : k < 100000) (h : Q (.int (k : Int) (s.toks + 1)) { s with toks := s.toks + 1 + 1 }) : wpAny (model prog w) A (call (.builtin "len") [.ref l]) Q E s := by
  subst hk
  exact len_list (ledger_list N hm) (by omega) h
theorem word_54 : True := by
  k_with "my ix" => (((with_reducible show wpAny _ _ (subscriptTail _ _ (Value.ref _) (Value.int _ _)) _ _ _); (k_dflt ((rename News _ _ _ _ => kN9); (refine idx_led kN9 (by k_extra "my mem") (by decide) (by decide) (by exact rfl) ?_)))))
  trivial
theorem word_55 : True := by
  k_with "my subscriptTail" => (first | k_extra "my tup" | k_extra "my ix")
  trivial
theorem word_56 : True := by
  k_with "my subscriptTail Name" => (first | k_extra "my tup" | k_extra "my ix")
  trivial
local macro_rules | `(tactic| walk_at "subscriptTail Attribute") => `(tactic| k_extra "my subscriptTail Attribute")
theorem word_57 : True := by
  k_with "my subscriptTail Attribute" => (k_extra "my ix")
  trivial
local macro_rules | `(tactic| walk_at "subscriptTail Subscript") => `(tactic| k_extra "my subscriptTail Subscript")
theorem word_58 : True := by
  k_with "my subscriptTail Subscript" => (first | k_extra "my tup" | k_extra "my ix")
  trivial
local macro_rules | `(tactic| walk_at "call builtin:len") => `(tactic| k_extra "my call builtin:len")
theorem word_59 : True := by
  k_with "my call builtin:len" => (((with_reducible show wpAny _ _ (call (Value.builtin "len") [Value.ref _]) _ _ _); (k_dflt ((rename News _ _ _ _ => kN9); (refine len_led kN9 (by k_extra "my mem") (by exact rfl) (by decide) ?_)))))
  trivial
theorem word_60 : True := by
  k_with "my call builtin:len" => (((with_reducible show wpAny _ _ (call (Value.builtin "len") [Value.ref _]) _ _ _); (k_dflt ((refine led_len (by k_asm) (by k_mem) (by omega) ?_)))))
  trivial
local macro_rules | `(tactic| walk_at "call ref") => `(tactic| ((with_reducible show wpAny _ _ (call (Value.ref 338) _) _ _ _); (k_dflt ((rename Fr _ _ _ _ => kF9); (rename News _ _ _ _ => kN9); (rename Rm _ _ => kR9); (refine' c_coins (cx_push (by with_unfolding_all rfl) (by with_reducible assumption) kF9 (by assumption) (by assumption) rfl rfl) (by first | exact kR9.deeper (by decide) | exact Rm.deeper2 kR9 (by decide)) ?p0 (by assumption) ?p1 ?_); (case p0 => exact Heap.IsList.at (by assumption) (fun o e => kF9.keep _ o e)); (case p1 => omega); (intro c' h' tk' k' e' hP'); (refine pot_elim hP' fun vs' ns' n' hc' hi' hl' => ?_); (have kF := kF9.keeps k'); (have kN := news_fresh kF9 kN9 k' e' hc'); (have kE := ne_fresh kN9 e'); (clear kF9 kN9 k' hc' e' hP'); (k_lt kE); (try dsimp only)))))
theorem word_61 : True := by
  k_with "my call ref" => (((with_reducible show wpAny _ _ (call (Value.ref 359) _) _ _ _); (k_dflt ((refine c_entry (by k_extra "my cxh") (by k_extra "my rm") (by k_extra "my hp") ?_); (intro v'9m d'9m h'9m tk'9m); k_extra "my kh"; (intro a'9m e'9m)))))
  trivial
theorem word_62 : True := by
  k_with "my call ref" => (((with_reducible show wpAny _ _ (call (Value.ref 366) _) _ _ _); (k_dflt ((refine c_digits (by k_extra "my cxh") (by k_extra "my rm") (by k_extra "my hp") ?_); (intro v'9m d'9m h'9m tk'9m); k_extra "my kh"; (intro a'9m e'9m)))))
  trivial
theorem word_63 : True := by
  k_with "my memA" => (k_extra "my mem")
  trivial
local macro_rules | `(tactic| k_lt $h:ident) => `(tactic| first | ((have hB7 : True := by ((with_reducible rename Bnd _ _ => hB8); exact trivial)); (clear hB7); (replace $h := ltl_of $h); dsimp only [List.map] at $h:ident) | ((have hB9 := $h); (repeat (replace hB9 := lt_tail hB9)); (replace hB9 := bnd_mk hB9); (replace $h := ltl_of $h); dsimp only [List.map] at $h:ident) | ((replace $h := nel_of $h); dsimp only [List.map] at $h:ident))
local macro_rules | `(tactic| k_lt2 $h:ident) => `(tactic| ((replace $h := ltN $h); (with_reducible rename LtL _ _ => lz9); (have lz8 := LtL.up lz9 $h)))
theorem word_64 : True := by
  k_with "my as" => (with_reducible assumption)
  trivial
local macro_rules | `(tactic| k_ne) => `(tactic| k_extra "my k_ne")
theorem word_65 : True := by
  k_with "my k_ne" => ((refine neN ?_; (try dsimp only); (k_dflt (first | exact LtL.ne (by k_extra "my as") (by k_extra "my memA") | exact LtL.en (by k_extra "my as") (by k_extra "my memA") | exact NeL.ne (by k_extra "my as") (by k_extra "my memA") | exact NeL.en (by k_extra "my as") (by k_extra "my memA") | k_extra "my as" | exact Ne.symm (by k_extra "my as") | exact LtL.ne1 (by k_extra "my as") (by k_extra "my memA") | exact LtL.ne2 (by k_extra "my as") (by k_extra "my memA") | exact LtL.ne3 (by k_extra "my as") (by k_extra "my memA") | exact Ne.symm (LtL.ne1 (by k_extra "my as") (by k_extra "my memA")) | exact Ne.symm (LtL.ne2 (by k_extra "my as") (by k_extra "my memA")) | exact Ne.symm (LtL.ne3 (by k_extra "my as") (by k_extra "my memA")) | omega))))
  trivial
local macro_rules | `(tactic| k_all) => `(tactic| k_extra "my k_all")
theorem word_66 : True := by
  k_with "my k_all" => (exact Bnd.ne (by assumption) (by first | exact Nat.le_refl _ | exact LtL.le (by k_extra "my as") (by k_extra "my memA") | omega))
  trivial
theorem word_67 : True := by
  k_with "my k_all" => ((k_dflt (first | exact all_ltl (by k_extra "my as") (by exact rfl) | exact all_nel (by k_extra "my as") (by exact rfl))))
  trivial
local macro_rules | `(tactic| walk_at "FinE") => `(tactic| k_extra "my FinE")
theorem word_68 : True := by
  k_with "my FinE" => (((unfold LCg.FinE); intro D'9m h'9m tk'9m F'9m N'9m o1'9m; (replace o1'9m := off1_nel o1'9m); (try dsimp only [List.map, List.nil_append, List.cons_append] at o1'9m); (try simp only [List.nil_append, List.cons_append] at N'9m); (try dsimp only)))
  trivial
local macro_rules | `(tactic| walk_at "FinA") => `(tactic| k_extra "my FinA")
theorem word_69 : True := by
  k_with "my FinA" => (((unfold LCg.FinA); intro D'9m h'9m tk'9m F'9m N'9m o1'9m; (replace o1'9m := off1_nel o1'9m); (try dsimp only [List.map, List.nil_append, List.cons_append] at o1'9m); (try simp only [List.nil_append, List.cons_append] at N'9m); (try dsimp only)))
  trivial
local macro_rules | `(tactic| walk_at "call type:list") => `(tactic| ((with_reducible show wpAny _ _ (call (Value.type _) [Value.ref _]) _ _ _); (k_dflt ((refine' list_copyK ?k1 ?k2 ?k3 ?_ ?z); (case k1 => k_asm); (case k2 => k_asm); (case k3 => exact ledger_list (by k_asm) (by k_mem)); (case z => (simp only [List.size_toArray, sizeLine_eq]; omega)); (intro D' c' h' F' N' l1); (try k_lt l1); (try k_sweep)))))
local macro_rules | `(tactic| walk_at "CompSrc") => `(tactic| k_extra "my CompSrc")
theorem word_70 : True := by
  k_with "my CompSrc" => (((rename Hand => hHand9m); (with_reducible show LCg.CompSrc _ _ _ _ _ _ _ _ _ _ _ _ _ _); (refine Stop.out ?_)))
  trivial
local macro_rules | `(tactic| walk_at "eval ListComp") => `(tactic| k_extra "my eval ListComp")
theorem word_71 : True := by
  k_with "my eval ListComp" => (((rename Hand => hHand9m); (with_reducible show wpAny _ _ (eval (Expr.ListComp _ _ _ _) _) _ _ _); (refine Stop.out ?_)))
  trivial
local macro_rules | `(tactic| walk_at "exec Assign cons ListComp") => `(tactic| k_extra "my exec Assign cons ListComp")
theorem word_72 : True := by
  k_with "my exec Assign cons ListComp" => (((rename Hand2 => hHand9m); (with_reducible show wpAny _ _ (exec (Stmt.Assign [_] (Expr.ListComp _ _ _ _) _) _) _ _ _); (refine Stop.out ?_)))
  trivial

/-- a value by the ledger: None, or a pair that stood at the start or that the ledger bears -/
noncomputable def AtL (h₀ : Heap) (tups : List (Addr × Obj)) (v : Value) : D → Prop
  | .no => v = .none
  | .pr a b => ∃ x ta tb, v = .ref x ∧ (IsTup h₀ x #[.int a ta, .int b tb] ∨ ∃ o, (x, o) ∈ tups ∧ o.cls = .type "tuple" ∧ ∃ n, o.data = .seq #[.int a ta, .int b tb] n)
theorem AtL.mono {h₀ : Heap} {l l' : List (Addr × Obj)} {v : Value} {d : D} (x : AtL h₀ l v d) (hs : ∀ p ∈ l, p ∈ l') : AtL h₀ l' v d := by
  cases d with
  | no => exact x
  | pr a b =>
    obtain ⟨y, ta, tb, e, t⟩ := x
    exact ⟨y, ta, tb, e, t.imp id fun ⟨o, hm, r⟩ => ⟨o, hs _ hm, r⟩⟩
theorem AtL.at {h₀ h : Heap} {L : Addr} {l : List (Addr × Obj)} {v : Value} {d : D} (x : AtL h₀ l v d) (k : h₀.StaysIn h) (N : News h₀ L h l) : At h v d := by
  cases d with
  | no => exact x
  | pr a b =>
    obtain ⟨y, ta, tb, e, t⟩ := x
    refine ⟨y, ta, tb, e, ?_⟩
    rcases t with t | ⟨o, hm, c, n, hd⟩
    · exact t.keeps k
    · exact ⟨o, (N _ hm).1, c, n, hd⟩
inductive AtsL (h₀ : Heap) (tups : List (Addr × Obj)) : List Value → List D → Prop
  | nil : AtsL h₀ tups [] []
  | cons {v : Value} {d : D} {ys : List Value} {ds : List D} : AtL h₀ tups v d → AtsL h₀ tups ys ds → AtsL h₀ tups (v :: ys) (d :: ds)
theorem AtsL.mono {h₀ : Heap} {l l' : List (Addr × Obj)} {ys : List Value} {ds : List D} (x : AtsL h₀ l ys ds) (hs : ∀ p ∈ l, p ∈ l') : AtsL h₀ l' ys ds := by
  induction x with
  | nil => exact .nil
  | cons a _ ih => exact .cons (a.mono hs) ih
theorem AtsL.snoc {h₀ : Heap} {l : List (Addr × Obj)} {ys : List Value} {ds : List D} {v : Value} {d : D} (x : AtsL h₀ l ys ds) (a : AtL h₀ l v d) : AtsL h₀ l (ys ++ [v]) (ds ++ [d]) := by
  induction x with
  | nil => exact .cons a .nil
  | cons b _ ih => exact .cons b ih
theorem AtsL.length {h₀ : Heap} {l : List (Addr × Obj)} {ys : List Value} {ds : List D} (x : AtsL h₀ l ys ds) : ys.length = ds.length := by
  induction x with
  | nil => rfl
  | cons _ _ ih => simp [ih]
theorem AtsL.get {h₀ : Heap} {l : List (Addr × Obj)} {ys : List Value} {ds : List D} (x : AtsL h₀ l ys ds) : ∀ {i : Nat} {v : Value}, ys[i]? = some v → ∃ d, ds[i]? = some d ∧ AtL h₀ l v d := by
  induction x with
  | nil => intro i v e; simp at e
  | cons a _ ih =>
    intro i v e
    cases i with
    | zero => simp at e; subst e; exact ⟨_, rfl, a⟩
    | succ i => simpa using ih (by simpa using e)
theorem news_add {h₀ h h' : Heap} {L c : Addr} {m : Str → Option Value} {o : Obj} {news : List (Addr × Obj)} (F : Fr h₀ L h m) (N : News h₀ L h' news) (hc : h.get? c = none) (e : h'.get? c = some o) : News h₀ L h' ((c, o) :: news) := fun p hp => by
  rcases List.mem_cons.mp hp with rfl | hp
  · refine ⟨e, fun q => ?_, ?_⟩
    · obtain ⟨oL, _, _, hL, _⟩ := F.ns
      have q' : c = L := q
      rw [← q', hc] at hL; cases hL
    · cases q : h₀.get? c with
      | none => rfl
      | some o' => have := F.keep c o' q; rw [hc] at this; cases this
  · exact N p hp
theorem ne_of_fresh {h₀ h : Heap} {L c : Addr} {news : List (Addr × Obj)} (N : News h₀ L h news) (hc : h.get? c = none) : ∀ p ∈ news, p.1 ≠ c := fun p hp q => by
  have := (N p hp).1; rw [q, hc] at this; cases this
/-- a new value goes onto the ledger's tuples -/
theorem tups_add {h₀ h h' : Heap} {L : Addr} {m : Str → Option Value} {v : Value} {d : D} {all all' tups : List (Addr × Obj)} (F : Fr h₀ L h m) (N : News h₀ L h all) (N' : News h₀ L h' all') (a : FAt h h' v d) :
    ∃ t, News h₀ L h' (t ++ all') ∧ AtL h₀ (t ++ tups) v d ∧ ∀ p ∈ t, (∀ q ∈ all, q.1 ≠ p.1) := by
  cases d with
  | no => exact ⟨[], N', a, fun p hp => nomatch hp⟩
  | pr x y =>
    obtain ⟨b, ta, tb, e, hn, o, ho, hc, n, hd⟩ := a
    refine ⟨[(b, o)], news_add F N' hn ho, ⟨b, ta, tb, e, .inr ⟨o, List.mem_cons_self, hc, n, hd⟩⟩, fun p hp => ?_⟩
    rw [List.mem_singleton.mp hp]
    exact ne_of_fresh N hn

open LCg in
section
variable {prog : Program} {w : World} {A : Around} {h₀ : Heap} {L : Addr} {m : Str → Option Value} {env : Env} {elt : Expr} {x : Str} {scope : Scope} {cl : List (Str × Addr)} {s : Shared} {P : Nat → Value → Prop} {Fin : List Value → List (Addr × Obj) → Prop}
theorem comp_pot {n : Nat} {Pd : D → Prop} {c : Addr} {rest : List (Addr × Obj)} {vs₀ : List Value} {ns₀ : List Int} {nn₀ : Nat} (hi₀ : IntsAre vs₀ ns₀) (hl₀ : ns₀.length ≤ 200)
    (turn : ∀ i v I oI C oC Dd ys m₂ h tk (E' : Value → Shared → Prop) vs ns nn tups, P i v → NsObj oC m₂ → m₂ x = some v → Fr h₀ L h m → News h₀ L h ((I, oI) :: (C, oC) :: (Dd, lst ys) :: (c, listOf vs.toArray nn) :: (rest ++ tups)) → IntsAre vs ns → ns.length ≤ 200 →
      Off3 I C Dd ((c, listOf vs.toArray nn) :: (rest ++ tups)) → ((@Ne Nat I C) ∧ (@Ne Nat I Dd) ∧ (@Ne Nat C Dd)) → OwnOff tups (c :: rest.map (·.1)) →
      wpAny (model prog w) A (eval elt (compEnvC scope cl C env)) (fun y s' => ∃ h' tk' d vs' ns' nn', s' = { s with heap := h', toks := tk' } ∧ Fr h₀ L h' m ∧ News h₀ L h' ((I, oI) :: (C, oC) :: (Dd, lst ys) :: (c, listOf vs'.toArray nn') :: (rest ++ tups)) ∧ IntsAre vs' ns' ∧ ns'.length ≤ 200 ∧ FAt h h' y d ∧ Pd d) E' { s with heap := h, toks := tk })
    (fin : ∀ ys ds vs ns nn tups, ds.length = n → AtsL h₀ tups ys ds → (∀ d ∈ ds, Pd d) → IntsAre vs ns → ns.length ≤ 200 → OwnOff tups (c :: rest.map (·.1)) → Fin ys ((c, listOf vs.toArray nn) :: (rest ++ tups))) :
    CompRest prog w A h₀ L m env elt x scope cl s (fun _ => True) P Fin n 0 [] ((c, listOf vs₀.toArray nn₀) :: rest) := by
  have key : ∀ (j i : Nat) (ys : List Value) (ds : List D) (vs : List Value) (ns : List Int) (nn : Nat) (tups : List (Addr × Obj)), i + j = n → ds.length = i → AtsL h₀ tups ys ds → (∀ d ∈ ds, Pd d) → IntsAre vs ns → ns.length ≤ 200 → OwnOff tups (c :: rest.map (·.1)) →
      CompRest prog w A h₀ L m env elt x scope cl s (fun _ => True) P Fin j i ys ((c, listOf vs.toArray nn) :: (rest ++ tups)) := by
    intro j
    induction j with
    | zero =>
      intro i ys ds vs ns nn tups hij hds ha hp hi hl ho
      exact CompRest.zero (fin ys ds vs ns nn tups (by omega) ha hp hi hl ho)
    | succ j ih =>
      intro i ys ds vs ns nn tups hij hds ha hp hi hl ho
      refine CompRest.succ ?_
      intro v I oI C oC Dd m₂ h tk E' hv hC hx F N off ne
      refine wpAny_mono (turn i v I oI C oC Dd ys m₂ h tk E' vs ns nn tups hv hC hx F N hi hl off ne ho) (fun y s₂ hq => ?_) fun _ _ e => e
      obtain ⟨h', tk', d, vs', ns', nn', rfl, F', N', hi', hl', hf, hd⟩ := hq
      obtain ⟨t, Nt, at_, hne⟩ := tups_add (tups := tups) F N N' hf
      refine ⟨h', tk', (c, listOf vs'.toArray nn') :: (rest ++ (t ++ tups)), rfl, F', ?_, ?_, trivial, ?_⟩
      · intro p hp
        refine Nt p ?_
        simp only [List.mem_cons, List.mem_append] at hp ⊢
        rcases hp with q | q | q | q | q | q | q <;> simp [q]
      · refine Off3.of fun p hp => ?_
        simp only [List.mem_cons, List.mem_append] at hp
        have o3 := off.mem
        rcases hp with q | q | q | q
        · subst q; exact o3 (c, listOf vs.toArray nn) (by simp)
        · exact o3 p (by simp [q])
        · have z := hne p q
          exact ⟨Ne.symm (z (I, oI) (by simp)), Ne.symm (z (C, oC) (by simp)), Ne.symm (z (Dd, lst ys) (by simp))⟩
        · exact o3 p (by simp [q])
      · refine ih (i + 1) (ys ++ [y]) (ds ++ [d]) vs' ns' nn' (t ++ tups) (by omega) (by simp [hds]) ((ha.mono fun p hp => List.mem_append_right _ hp).snoc at_) (fun d' hd' => ?_) hi' hl' ?_
        · rcases List.mem_append.mp hd' with q | q
          · exact hp d' q
          · rw [List.mem_singleton.mp q]; exact hd
        · intro p hp' b hb
          rcases List.mem_append.mp hp' with q | q
          · have z := hne p q
            rcases List.mem_cons.mp hb with rfl | hb
            · exact Ne.symm (z (b, listOf vs.toArray nn) (by simp))
            · obtain ⟨r, hr, rfl⟩ := List.mem_map.mp hb
              exact Ne.symm (z r (by simp [hr]))
          · exact ho p q b hb
  have := key n 0 [] [] vs₀ ns₀ nn₀ [] (by omega) rfl .nil (fun _ h => nomatch h) hi₀ hl₀ (fun _ h => nomatch h)
  simpa using this
theorem comp_val {n : Nat} {S : List (Addr × Obj) → Prop} {Pv : Nat → Value → Prop} {news : List (Addr × Obj)} (hS : S news)
    (turn : ∀ i v I oI C oC Dd ys m₂ h tk (E' : Value → Shared → Prop), i < n → P i v → NsObj oC m₂ → m₂ x = some v → Fr h₀ L h m → News h₀ L h ((I, oI) :: (C, oC) :: (Dd, lst ys) :: news) → Off3 I C Dd news → ((@Ne Nat I C) ∧ (@Ne Nat I Dd) ∧ (@Ne Nat C Dd)) →
      wpAny (model prog w) A (eval elt (compEnvC scope cl C env)) (fun y s' => ∃ h' tk', s' = { s with heap := h', toks := tk' } ∧ Fr h₀ L h' m ∧ News h₀ L h' ((I, oI) :: (C, oC) :: (Dd, lst ys) :: news) ∧ Pv i y) E' { s with heap := h, toks := tk })
    (fin : ∀ ys, ys.length = n → (∀ i y, ys[i]? = some y → Pv i y) → Fin ys news) :
    CompRest prog w A h₀ L m env elt x scope cl s S P Fin n 0 [] news := by
  have key : ∀ (j i : Nat) (ys : List Value), i + j = n → ys.length = i → (∀ i y, ys[i]? = some y → Pv i y) → CompRest prog w A h₀ L m env elt x scope cl s S P Fin j i ys news := by
    intro j
    induction j with
    | zero => intro i ys hij hl hp; exact CompRest.zero (fin ys (by omega) hp)
    | succ j ih =>
      intro i ys hij hl hp
      refine CompRest.succ ?_
      intro v I oI C oC Dd m₂ h tk E' hv hC hx F N off ne
      refine wpAny_mono (turn i v I oI C oC Dd ys m₂ h tk E' (by omega) hv hC hx F N off ne) (fun y s₂ hq => ?_) fun _ _ e => e
      obtain ⟨h', tk', rfl, F', N', hy⟩ := hq
      refine ⟨h', tk', news, rfl, F', N', off, hS, ih (i + 1) (ys ++ [y]) (by omega) (by simp [hl]) fun k z hz => ?_⟩
      by_cases hk : k < ys.length
      · rw [List.getElem?_append_left hk] at hz; exact hp k z hz
      · rw [List.getElem?_append_right (by omega)] at hz
        have : k - ys.length = 0 := by
          cases q : k - ys.length with
          | zero => rfl
          | succ r => rw [q] at hz; simp at hz
        rw [this] at hz
        simp at hz
        have hki : k = i := by omega
        rw [hki, ← hz]; exact hy
  exact key n 0 [] (by omega) rfl (fun _ _ e => by simp at e)
end
theorem nat_of {r : Int} (h : 0 ≤ r) : ∃ k : Nat, r = k := ⟨r.toNat, by omega⟩
theorem off_mem {D : Addr} (l : List (Addr × Obj)) (h : LCg.Off1 D l) : ∀ p ∈ l, p.1 ≠ D := by
  induction l with
  | nil => intro p hp; cases hp
  | cons q r ih =>
    intro p hp
    rcases List.mem_cons.mp hp with e | hp
    · rw [e]; exact h.1
    · exact ih h.2 p hp

noncomputable def bs (i : Nat) : Stmt := ((fB (c 52))[i]?).getD default
theorem execs_app (l1 l2 : List Stmt) (env : Env) : execs (l1 ++ l2) env = (do match ← execs l1 env with | .next => execs l2 env | f => pure f) := by
  induction l1 with
  | nil => rfl
  | cons st r ih =>
    rw [List.cons_append, execs_cons, execs_cons, ih]
    simp only [bind_assoc]
    congr
    funext f
    cases f <;> simp
theorem execs_split {M : Model} {A : Around} {l1 l2 : List Stmt} {env : Env} {Q : Flow → Shared → Prop} {E : Value → Shared → Prop} {s : Shared} (h : wpAny M A (execs l1 env) (fun f s' => match f with | .next => wpAny M A (execs l2 env) Q E s' | f => Q f s') E s) : wpAny M A (execs (l1 ++ l2) env) Q E s := by
  rw [execs_app]
  refine wpAny_bind (wpAny_mono h (fun f s' hf => ?_) fun _ _ e => e)
  cases f with
  | next => exact hf
  | _ => exact wpAny_pure hf
noncomputable abbrev vecO (P : Params) (t1 t2 t3 t4 t5 t6 : Tok) (kd : Str) (it av : Value) : Obj := dictOf [⟨PyData.keyHash P (Str.ofString "kind"), .str (Str.ofString "kind") t1, .str kd t2⟩, ⟨PyData.keyHash P (Str.ofString "items"), .str (Str.ofString "items") t3, it⟩,
  ⟨PyData.keyHash P (Str.ofString "attrs"), .str (Str.ofString "attrs") t4, av⟩, ⟨PyData.keyHash P (Str.ofString "shared"), .str (Str.ofString "shared") t5, .bool false⟩, ⟨PyData.keyHash P (Str.ofString "loose"), .str (Str.ofString "loose") t6, .bool false⟩] 5
section
set_option maxHeartbeats 8000000 in
theorem stA {prog : Program} {w : World} {p : Program} {loose : List Str} {mean : ExcName → Option Value} {mg mb : Str → Option Value} {s : Shared} {E : Value → Shared → Prop} {Q : Flow → Shared → Prop} {h₀ : Heap} {L fa a : Addr} {cd : Value} {s0 s1 s2 : Stmt} {scope : Scope} (hs0 : bs 0 = s0) (hs1 : bs 1 = s1) (hs2 : bs 2 = s2) (hs : fS (c 52) = scope)
  (X : (Kh w.params).In h₀) (T : Top p loose mean mg mb h₀) (B : Below callerA h₀ [] h₀) {o1 o2 o3 : Obj}
  (F : Fr h₀ L s.heap (bindL (envOfC (Str.ofString "law") scope L fa cd).kindOf [(Str.ofString "script", .ref a)] fun _ => none))
  (d1 : o1.data = .cell none) (d2 : o2.data = .cell none) (d3 : o3.data = .cell none)
  (N : News h₀ L s.heap [(L + 1 + 1 + 1, o3), (L + 1 + 1, o2), (L + 1, o1), (319, tabObj #[])]) (l0 : @LT.lt Nat _ 319 L)
  {vs : List Value} {ns : List Int} (hl : h₀.IsList a vs.toArray) (hi : IntsAre vs ns) (hlen : ns.length ≤ 63)
  (next : ∀ (X1 DX D1 Dd cc : Addr) (t1 t2 t3 t4 t5 t6 : Tok) (c1 n : Nat) (ys vs' : List Value) (ds : List D) (ns' : List Int) (oe oc : Obj) (R : List (Addr × Obj)) (m0 : Str → Option Value) (h : Heap) (tk : Nat),
    Fr h₀ L h (fun y => if y = Str.ofString "x" then some (.ref X1) else m0 y) →
    News h₀ L h ((X1, instObj 92 DX) :: (DX, vecO w.params t1 t2 t3 t4 t5 t6 (Str.ofString "double") (.ref D1) .none) :: (D1, listOf ys.toArray c1) :: (Dd, LCg.lst ys) :: (cc, listOf vs'.toArray n) :: (L + 1 + 1 + 1, o3) :: (L + 1 + 1, oe) :: (L + 1, oc) :: (319, tabObj #[]) :: R) →
    oe.data = .cell (some (.ref Dd)) → oc.data = .cell (some (.ref cc)) → AtsL h₀ R ys ds → (∀ d ∈ ds, EOk d) → ds.length < 6 → IntsAre vs' ns' → ns'.length ≤ 200 → OwnOff R [Dd, cc, L + 1 + 1 + 1, L + 1 + 1, L + 1, 319] → Bnd R D1 →
    ([X1, DX, D1, Dd, cc, L + 1 + 1 + 1, L + 1 + 1, L + 1, 319] : List Nat).Nodup → @LT.lt Nat _ D1 DX → @LT.lt Nat _ DX X1 → Q .next { s with heap := h, toks := tk }) :
  wpAny (model prog w) (callerA.deeper (envOfC (Str.ofString "law") scope L fa cd)) (execs [s0, s1, s2] (envOfC (Str.ofString "law") scope L fa cd)) Q E s := by
  conv at hs0 => lhs; whnf
  conv at hs1 => lhs; whnf
  conv at hs2 => lhs; whnf
  conv at hs => lhs; whnf
  subst hs0 hs1 hs2 hs
  have hR : Rm callerA 20 := by constructor <;> decide
  have hHand : Hand := ⟨⟩
  k_extra "my go"
  unfold Stop
  rename Fr _ _ _ _ => kF
  refine LCg.ListComp_U (F₀ := kF) (by with_unfolding_all rfl) (by decide) (by rfl) (by decide) (by rfl) ?_
  k_extra "my go"
  unfold Stop
  rename IsRange _ _ _ _ _ _ _ _ => hr
  rename Fr _ _ _ _ => kF
  rename News _ _ _ _ => kN
  try simp only [List.append_eq, List.cons_append, List.nil_append] at kN
  rename (_ : Int) < 6 => g2
  rename 0 ≤ (_ : Int) => g1
  obtain ⟨k, rfl⟩ := nat_of g1
  refine LCg.CompSrc.range (n := k) rfl kF kN hr (small_one (by omega) (by omega) (by omega) (by omega)) (by rw [rangeSize_nat]; omega) (by rw [sizeLine_eq]; omega) ?_
  intro g
  refine comp_pot (Pd := EOk) (by assumption) (by assumption) ?_ ?_
  · intro i v I oI C oC Dd ys m₂ h tk E' vs₂ ns₂ n₂ tups hv hC hx F₂ N₂ hi₂ hl₂ off ne ho
    have of1 := (off3_nel off ne).1
    have of2 := (off3_nel off ne).2.1
    have of3 := (off3_nel off ne).2.2
    clear ne
    dsimp only [List.map, List.cons_append, List.nil_append, List.map_append] at of1 of2 of3
    simp only [List.cons_append, List.nil_append, List.map_cons, List.map_nil] at N₂ ho
    clear kF kN
    k_extra "my go"
    all_goals assumption
  · intro ys ds vs₂ ns₂ n₂ tups hds hat hok hi₂ hl₂ ho
    intro Dd h tk F₂ N₂ off
    have of1 := off1_nel off
    dsimp only [List.map, List.cons_append, List.nil_append, List.map_append] at of1
    simp only [List.cons_append, List.nil_append, List.map_cons, List.map_nil] at N₂ ho
    clear kF kN hr
    have ho2 : OwnOff tups [Dd, _, L + 1 + 1 + 1, L + 1 + 1, L + 1, 319] := fun p hp b hb => by
      rcases List.mem_cons.mp hb with rfl | hb
      · have := off_mem _ off.2.2.2.2.2 p hp
        exact this
      · exact ho p hp b hb
    k_extra "my go"
    rename Fr _ _ _ _ => kF
    rename News _ _ _ _ => kN
    have hly : ys.length = k := hat.length.trans hds
    refine list_copyK kF kN (ledger_list kN (List.Mem.head _)) ?_ (by simp only [List.size_toArray, sizeLine_eq]; omega)
    intro D1 c1 h1 F1 N1 l1
    have hB1 : Bnd tups D1 := fun q hq => l1 q (by simp [hq])
    k_lt l1
    clear kF kN
    k_extra "my go"
    rename Fr _ _ _ _ => kF
    rename News _ _ _ _ => kN
    refine next _ _ _ _ _ _ _ _ _ _ _ _ _ _ _ _ _ _ _ _ _ _ _ kF kN (by assumption) (by assumption) hat hok (by omega) hi₂ hl₂ ho2 hB1 ?_ ?_ ?_
    · simp only [List.nodup_cons, List.mem_cons, List.not_mem_nil, or_false, not_or, not_false_eq_true, List.nodup_nil, and_true]
      (repeat' apply And.intro) <;> k_ne
    · first | with_reducible assumption | exact LtL.lt (by with_reducible assumption) (by k_extra "my memA")
    · first | with_reducible assumption | exact LtL.lt (by with_reducible assumption) (by k_extra "my memA")
end

section
set_option maxHeartbeats 8000000 in
theorem stB {prog : Program} {w : World} {p : Program} {loose : List Str} {mean : ExcName → Option Value} {mg mb : Str → Option Value} {s : Shared} {E : Value → Shared → Prop} {Q : Flow → Shared → Prop} {h₀ : Heap} {L fa : Addr} {cd : Value} {s3 s4 : Stmt} {scope : Scope} (hs3 : bs 3 = s3) (hs4 : bs 4 = s4) (hs : fS (c 52) = scope)
  (X : (Kh w.params).In h₀) (T : Top p loose mean mg mb h₀) (B : Below callerA h₀ [] h₀)
  {X1 DX D1 Dd cc : Addr} {t1 t2 t3 t4 t5 t6 : Tok} {n : Nat} {ys vs : List Value} {ns : List Int} {oe oc : Obj} {R : List (Addr × Obj)} {m0 : Str → Option Value}
  (F : Fr h₀ L s.heap (fun y => if y = Str.ofString "x" then some (.ref X1) else m0 y))
  (N : News h₀ L s.heap ((X1, instObj 92 DX) :: (DX, vecO w.params t1 t2 t3 t4 t5 t6 (Str.ofString "double") (.ref D1) .none) :: (cc, listOf vs.toArray n) :: (Dd, LCg.lst ys) :: (L + 1 + 1, oe) :: (L + 1, oc) :: R))
  (de : oe.data = .cell (some (.ref Dd))) (dc : oc.data = .cell (some (.ref cc))) (hy : ys.length < 6) (hi : IntsAre vs ns) (hlen : ns.length ≤ 200) (ho : OwnOff R [X1, DX, cc])
  (hD : ([X1, DX, cc, Dd, L + 1 + 1, L + 1] : List Nat).Nodup)
  (nextN : ∀ (vs' : List Value) (ns' : List Int) (n' : Nat) (h : Heap) (tk : Nat), Fr h₀ L h (fun y => if y = Str.ofString "heads" then some .none else if y = Str.ofString "x" then some (.ref X1) else m0 y) →
    News h₀ L h ((X1, instObj 92 DX) :: (DX, vecO w.params t1 t2 t3 t4 t5 t6 (Str.ofString "double") (.ref D1) .none) :: (cc, listOf vs'.toArray n') :: (Dd, LCg.lst ys) :: (L + 1 + 1, oe) :: (L + 1, oc) :: R) → IntsAre vs' ns' → ns'.length ≤ 200 → Q .next { s with heap := h, toks := tk })
  (nextH : ∀ (V2 DV2 HL AD HD : Addr) (u1 u2 u3 u4 u5 u6 : Tok) (c1 n' : Nat) (yh vs' : List Value) (ns' : List Int) (oA : Obj) (h : Heap) (tk : Nat), Fr h₀ L h (fun y => if y = Str.ofString "heads" then some (.ref HD) else if y = Str.ofString "x" then some (.ref X1) else m0 y) →
    News h₀ L h ((V2, instObj 92 DV2) :: (DV2, vecO w.params u1 u2 u3 u4 u5 u6 (Str.ofString "character") (.ref HL) .none) :: (HL, listOf yh.toArray c1) :: (AD, oA) :: (HD, LCg.lst yh) :: (X1, instObj 92 DX) :: (DX, vecO w.params t1 t2 t3 t4 t5 t6 (Str.ofString "double") (.ref D1) (.ref AD)) ::
      (cc, listOf vs'.toArray n') :: (Dd, LCg.lst ys) :: (L + 1 + 1, oe) :: (L + 1, oc) :: R) → Obj.IsDictOf (PySem.strKind prog w) oA [(Str.ofString "names", Value.ref V2)] → yh.length = ys.length → (∀ (i : Nat) (y : Value), yh[i]? = some y → ∃ x t, y = Value.str x t ∧ PyData.strOk x = true) → IntsAre vs' ns' → ns'.length ≤ 200 →
    ([V2, DV2, HL, AD, HD, X1, DX, cc, Dd, L + 1 + 1, L + 1] : List Nat).Nodup → Bnd R AD → (∀ p ∈ R, p.1 ≠ HD) → @LT.lt Nat _ AD HL → @LT.lt Nat _ HL DV2 → @LT.lt Nat _ DV2 V2 → Q .next { s with heap := h, toks := tk }) :
  wpAny (model prog w) (callerA.deeper (envOfC (Str.ofString "law") scope L fa cd)) (execs [s3, s4] (envOfC (Str.ofString "law") scope L fa cd)) Q E s := by
  conv at hs3 => lhs; whnf
  conv at hs4 => lhs; whnf
  conv at hs => lhs; whnf
  subst hs3 hs4 hs
  repeat (have nd9 := nd_nel hD; replace hD := nd_tl hD)
  have hR : Rm callerA 20 := by constructor <;> decide
  have hHand : Hand := ⟨⟩
  k_extra "my go"
  · unfold Stop
    rename Fr _ _ _ _ => kF
    refine LCg.ListComp_U (F₀ := kF) (by with_unfolding_all rfl) (by decide) (by rfl) (by decide) (by rfl) ?_
    k_extra "my go"
    unfold Stop
    rename IsRange _ _ _ _ _ _ _ _ => hr
    rename Fr _ _ _ _ => kF
    rename News _ _ _ _ => kN
    refine LCg.CompSrc.range (n := ys.length) rfl kF kN hr (small_one (by omega) (by omega) (by omega) (by omega)) (by rw [rangeSize_nat]; omega) (by rw [sizeLine_eq]; omega) ?_
    intro g
    refine comp_val (Pv := fun _ y => ∃ x t, y = Value.str x t ∧ PyData.strOk x = true) trivial ?_ ?_
    · intro i v I oI C oC Dq yq m₂ h tk E' hi' hv hC hx F₂ N₂ off ne
      obtain ⟨t₇, rfl⟩ := hv
      clear kF kN
      k_extra "my go"
      all_goals try assumption
      have h6 : i = 0 ∨ i = 1 ∨ i = 2 ∨ i = 3 ∨ i = 4 ∨ i = 5 := by omega
      rcases h6 with rfl | rfl | rfl | rfl | rfl | rfl <;> first | rfl | decide +kernel
    · intro yh hyl hyp
      intro HD h tk F₂ N₂ off
      clear kF kN hr
      have of1 := off1_nel off
      dsimp only [List.map, List.cons_append, List.nil_append, List.map_append] at of1
      have hoR := off_mem _ off.2.2.2.2.2.2
      have hyl' : yh.length < 6 := by omega
      k_extra "my go"
      rename Fr _ _ _ _ => kF
      rename News _ _ _ _ => kN
      rename Obj.IsDictOf _ _ (strPairs _) => hdA
      refine nextH _ _ _ _ _ _ _ _ _ _ _ _ _ _ _ _ _ _ _ kF kN hdA hyl hyp (by assumption) (by assumption) ?_ (by assumption) hoR ?_ ?_ ?_
      · simp only [List.nodup_cons, List.mem_cons, List.not_mem_nil, or_false, not_or, not_false_eq_true, List.nodup_nil, and_true]
        (repeat' apply And.intro) <;> k_ne
      · first | with_reducible assumption | exact LtL.lt (by with_reducible assumption) (by k_extra "my memA")
      · first | with_reducible assumption | exact LtL.lt (by with_reducible assumption) (by k_extra "my memA")
      · first | with_reducible assumption | exact LtL.lt (by with_reducible assumption) (by k_extra "my memA")
  · rename Fr _ _ _ _ => kF
    rename News _ _ _ _ => kN
    exact nextN _ _ _ _ _ kF kN (by assumption) (by assumption)
end

section
set_option maxHeartbeats 8000000 in
theorem stC {prog : Program} {w : World} {p : Program} {loose : List Str} {mean : ExcName → Option Value} {mg mb : Str → Option Value} {s : Shared} {E : Value → Shared → Prop} {Q : Flow → Shared → Prop} {h₀ : Heap} {L fa : Addr} {cd : Value} {s5 : Stmt} {scope : Scope} (hs5 : bs 5 = s5) (hs : fS (c 52) = scope)
  (X : (Kh w.params).In h₀) (T : Top p loose mean mg mb h₀) (B : Below callerA h₀ [] h₀)
  {cc : Addr} {n : Nat} {vs : List Value} {ns : List Int} {o3 oc : Obj} {R : List (Addr × Obj)} {m : Str → Option Value}
  (F : Fr h₀ L s.heap m) (N : News h₀ L s.heap ((cc, listOf vs.toArray n) :: (L + 1 + 1 + 1, o3) :: (L + 1, oc) :: R))
  (d3 : o3.data = .cell none) (dc : oc.data = .cell (some (.ref cc))) (hi : IntsAre vs ns) (hlen : ns.length ≤ 200) (ho : OwnOff R [cc, L + 1 + 1 + 1])
  (hD : ([cc, L + 1 + 1 + 1, L + 1] : List Nat).Nodup)
  (next : ∀ (Dg : Addr) (yg vs' : List Value) (gs : List D) (o3' : Obj) (n' : Nat) (tups : List (Addr × Obj)) (h : Heap) (tk : Nat), Fr h₀ L h m →
    News h₀ L h ((Dg, LCg.lst yg) :: (cc, listOf vs'.toArray n') :: (L + 1 + 1 + 1, o3') :: (L + 1, oc) :: (R ++ tups)) → o3'.data = .cell (some (.ref Dg)) → AtsL h₀ tups yg gs → (∀ d ∈ gs, GOk d) → gs.length < 4 →
    (∀ p ∈ R ++ tups, p.1 ≠ Dg) → OwnOff tups (cc :: (L + 1 + 1 + 1) :: (L + 1) :: R.map (·.1)) → ([Dg, cc, L + 1 + 1 + 1, L + 1] : List Nat).Nodup → Q .next { s with heap := h, toks := tk }) :
  wpAny (model prog w) (callerA.deeper (envOfC (Str.ofString "law") scope L fa cd)) (execs [s5] (envOfC (Str.ofString "law") scope L fa cd)) Q E s := by
  conv at hs5 => lhs; whnf
  conv at hs => lhs; whnf
  subst hs5 hs
  repeat (have nd9 := nd_nel hD; replace hD := nd_tl hD)
  have hR : Rm callerA 20 := by constructor <;> decide
  have hHand : Hand := ⟨⟩
  k_extra "my go"
  unfold Stop
  rename Fr _ _ _ _ => kF
  refine LCg.ListComp_U (F₀ := kF) (by with_unfolding_all rfl) (by decide) (by rfl) (by decide) (by rfl) ?_
  k_extra "my go"
  unfold Stop
  rename IsRange _ _ _ _ _ _ _ _ => hr
  rename Fr _ _ _ _ => kF
  rename News _ _ _ _ => kN
  rename (_ : Int) < 4 => g2
  rename 0 ≤ (_ : Int) => g1
  obtain ⟨k, rfl⟩ := nat_of g1
  refine LCg.CompSrc.range (n := k) rfl kF kN hr (small_one (by omega) (by omega) (by omega) (by omega)) (by rw [rangeSize_nat]; omega) (by rw [sizeLine_eq]; omega) ?_
  intro g
  refine comp_pot (Pd := GOk) (by assumption) (by assumption) ?_ ?_
  · intro i v I oI C oC Dd ys m₂ h tk E' vs₂ ns₂ n₂ tups hv hC hx F₂ N₂ hi₂ hl₂ off ne hot
    have of1 := (off3_nel off ne).1
    have of2 := (off3_nel off ne).2.1
    have of3 := (off3_nel off ne).2.2
    clear ne
    dsimp only [List.map, List.cons_append, List.nil_append, List.map_append] at of1 of2 of3
    simp only [List.cons_append, List.map_cons] at N₂ hot
    have hoR : OwnOff (R ++ tups) [cc] := own_app (l' := cc :: (L + 1 + 1 + 1) :: (L + 1) :: R.map (·.1)) (fun p hp b hb => ho p hp b (by simp at hb; simp [hb])) hot (by simp)
    have off' := off.2.2.2
    obtain ⟨R2, hR2⟩ : ∃ R2, R2 = R ++ tups := ⟨_, rfl⟩
    rw [← hR2] at N₂ hoR
    clear kF kN
    k_extra "my go"
    all_goals (subst hR2; assumption)
  · intro yg gs vs₂ ns₂ n₂ tups hds hat hok hi₂ hl₂ hot
    intro Dg h tk F₂ N₂ off
    have of1 := off1_nel off
    dsimp only [List.map, List.cons_append, List.nil_append, List.map_append] at of1
    simp only [List.cons_append, List.map_cons] at N₂ hot
    have hoR : ∀ p ∈ R ++ tups, p.1 ≠ Dg := off_mem _ off.2.2.2
    have hoR2 : OwnOff (R ++ tups) [cc, L + 1 + 1 + 1] := own_app (l' := cc :: (L + 1 + 1 + 1) :: (L + 1) :: R.map (·.1)) ho hot (by simp)
    obtain ⟨R2, hR2⟩ : ∃ R2, R2 = R ++ tups := ⟨_, rfl⟩
    rw [← hR2] at N₂ hoR hoR2
    clear kF kN hr
    k_extra "my go"
    rename Fr _ _ _ _ => kF
    rename News _ _ _ _ => kN
    rw [hR2] at kN hoR
    refine next _ _ _ _ _ _ _ _ _ kF kN (by assumption) hat hok (by omega) hoR hot ?_
    simp only [List.nodup_cons, List.mem_cons, List.not_mem_nil, or_false, not_or, not_false_eq_true, List.nodup_nil, and_true]
    (repeat' apply And.intro) <;> k_ne
end

section
variable {prog : Program} {w : World} {A : Around} {s : Shared} {base : Heap} {outer : List Env} {K : Frag} {p : Program} {loose : List Str} {mean : ExcName → Option Value} {mg mb : Str → Option Value}
  {R : Result → Shared → Prop} {name qual : Str} {params params₀ : Arguments} {body body₀ : List Stmt} {scope scope₀ : Scope} {dV kV doc pm cdv ct oc : Value} {an od : Option Addr} {osl : Array (Option Value)} {f : Addr} {args : Args} {binds : List (Str × Value)} {os : List (Addr × Obj)} {hb : Heap}
/-- a call whose objects os are written out -/
theorem enterO (hhb : hb = hideAll s.heap (os.map (·.1))) (_B : Below A base outer hb) (X : K.In hb) (T : Top p loose mean mg mb hb) (hos : ∀ q ∈ os, s.heap.get? q.1 = some q.2)
    (ho : K.lookup f = some ⟨oc, od, .func (fnOf name qual params₀ body₀ scope₀ dV kV doc pm an cdv ct), osl⟩) (hp : params₀ = params) (hbo : body₀ = body) (hs : scope₀ = scope) (hcd : codeIn K cdv qual = true) (hroom : A.depth < recursionLimit)
    (hbind : BindsTo s (fnOf name qual params body scope dV kV doc pm an cdv ct) args binds) (hloc : ∀ y ∈ binds, scope.names.lookup y.1 = some .local)
    (h : ∀ L' h₁, Fr hb L' h₁ (fun y => binds.reverse.lookup y) → News hb L' h₁ os → (∀ q ∈ os, q.1 < L') →
      wpAny (model prog w) (A.deeper (envOf qual scope L' f cdv)) (execs body (envOf qual scope L' f cdv))
        (fun fl s' => R (.ok (.ret (match fl with | .ret v => v | _ => .none))) s')
        (fun e s' => wpAny (model prog w) (A.deeper (envOf qual scope L' f cdv)) (leaving (envOf qual scope L' f cdv) e) (fun _ s'' => R (.error e) s'') (fun e' s'' => R (.error e') s'') s')
        { s with heap := h₁, toks := s.toks + binds.length })
    (hco : scope.isCoroutine = false) (hgen : scope.isGenerator = false) (hk : scope.kind = .function)
    (hcell : ∀ x ∈ scope.names, x.2 ≠ .cell) : codeAny (model prog w) A (.call (.ref f) args) R s := by
  subst hhb hp hbo hs
  have X' : K.In s.heap := X.keeps fun _ _ e => of_hideAll _ e
  refine codeAny_call_def (fd := fnOf name qual params₀ body₀ scope₀ dV kV doc pm an cdv ct) (body := body₀) (binds := binds) hroom (X' _ _ ho) rfl (T.nolimit.keeps fun _ _ e => of_hideAll _ e) (codeRec_of X' hcd) rfl hbind hcell hloc (fun h₁ hns hk₁ => ?_) hco hgen hk
  refine h _ h₁ ⟨hns, fun b x e => hk₁ b x (of_hideAll _ e), Nat.le_of_eq (hideAll_size _ _)⟩ (fun q hq => ?_) fun q hq => Heap.lt_size (hos q hq)
  exact ⟨hk₁ _ _ (hos q hq), Nat.ne_of_lt (Heap.lt_size (hos q hq)), hideAll_none _ (List.mem_map_of_mem hq)⟩
theorem enterOC (hhb : hb = hideAll s.heap (os.map (·.1))) (_B : Below A base outer hb) (X : K.In hb) (T : Top p loose mean mg mb hb) (hos : ∀ q ∈ os, s.heap.get? q.1 = some q.2)
    (ho : K.lookup f = some ⟨oc, od, .func (fnOf name qual params₀ body₀ scope₀ dV kV doc pm an cdv ct), osl⟩) (hp : params₀ = params) (hbo : body₀ = body) (hs : scope₀ = scope) (hcd : codeIn K cdv qual = true) (hroom : A.depth < recursionLimit)
    (hbind : BindsTo s (fnOf name qual params body scope dV kV doc pm an cdv ct) args binds) (hkind : (binds.all fun y => scope.names.lookup y.1 == some .local || scope.names.lookup y.1 == some .cell) = true)
    (hnd : ((cellsFrom 0 scope.names []).map (·.1)).Nodup)
    (h : ∀ L' h₁ tk cells, Fr hb L' h₁ (bindL (envOfC qual scope L' f cdv).kindOf binds fun _ => none) → News hb L' h₁ (cells ++ os) →
      CellsAre (bindC (envOfC qual scope L' f cdv).kindOf binds fun _ => none) (cellsFrom (L' + 1) scope.names []) cells → (∀ q ∈ os, q.1 < L') →
      wpAny (model prog w) (A.deeper (envOfC qual scope L' f cdv)) (execs body (envOfC qual scope L' f cdv))
        (fun fl s' => R (.ok (.ret (match fl with | .ret v => v | _ => .none))) s')
        (fun e s' => wpAny (model prog w) (A.deeper (envOfC qual scope L' f cdv)) (leaving (envOfC qual scope L' f cdv) e) (fun _ s'' => R (.error e) s'') (fun e' s'' => R (.error e') s'') s')
        { s with heap := h₁, toks := tk })
    (hco : scope.isCoroutine = false) (hgen : scope.isGenerator = false) (hk : scope.kind = .function) : codeAny (model prog w) A (.call (.ref f) args) R s := by
  subst hhb hp hbo hs
  have X' : K.In s.heap := X.keeps fun _ _ e => of_hideAll _ e
  refine codeAny_call_function hroom (X' _ _ ho) rfl hco hgen rfl (codeRec_of X' hcd) (hbind _ _ _ _ ?_)
  refine wpAny_newFunctionEnv_cells hk (kindsX hkind _) fun env' he s' x => ?_
  subst he
  refine ⟨(T.nolimit.keeps fun _ _ e => of_hideAll _ e).keeps x.toInCall.keep, codeAny_func ?_⟩
  obtain ⟨h₁, tk, rfl, _⟩ := x.done
  have hk₁ := x.toInCall.keep
  obtain ⟨cells, NC, Y⟩ := Cl.news (h₀ := s.heap) (Nat.le_refl _) fun n c hm => ⟨x.cell n c (lookup_of_mem_nodup (cellsFrom_names scope₀.names 0 (s.heap.objs.size + 1) [] [] rfl ▸ hnd) hm), x.above n c hm⟩
  refine h s.heap.objs.size h₁ tk cells ⟨x.toInCall.ns, fun b o e => hk₁ b o (of_hideAll _ e), Nat.le_of_eq (hideAll_size _ _)⟩ (fun q hq => ?_) Y fun q hq => Heap.lt_size (hos q hq)
  rcases List.mem_append.mp hq with hq | hq
  · refine ⟨(NC q hq).1, (NC q hq).2.1, ?_⟩
    cases z : (hideAll s.heap (os.map (·.1))).get? q.1 with
    | none => rfl
    | some o => have := of_hideAll _ z; rw [(NC q hq).2.2] at this; cases this
  · exact ⟨hk₁ _ _ (hos q hq), Nat.ne_of_lt (Heap.lt_size (hos q hq)), hideAll_none _ (List.mem_map_of_mem hq)⟩
theorem fr_hides {h₀ h : Heap} {L : Addr} {m : Str → Option Value} {news : List (Addr × Obj)} (F : Fr h₀ L h m) (N : News h₀ L h news) (hm : ∀ q ∈ os, q ∈ news) : Fr h₀ L (hideAll h (os.map (·.1))) m := by
  refine ⟨F.ns.at' fun o e => hideAll_get _ e fun q => ?_, fun b x e => hideAll_get _ (F.keep b x e) fun q => ?_, F.above⟩
  · obtain ⟨r, hr, e'⟩ := List.mem_map.mp q
    exact (N r (hm r hr)).2.1 e'
  · obtain ⟨r, hr, e'⟩ := List.mem_map.mp q
    have := (N r (hm r hr)).2.2
    rw [e', e] at this; cases this
theorem cxo_push {env : Env} {h₀ h : Heap} {L : Addr} {m : Str → Option Value} {news : List (Addr × Obj)} (hh : A.handled = none) (B : Below A base outer h₀) (F : Fr h₀ L h m) (N : News h₀ L h news) (hm : ∀ q ∈ os, q ∈ news) (X : (Kh w.params).In h₀) (T : Top p loose mean mg mb h₀)
    (hf : env.frame = some L) (hk : env.scope.kind = .function) : Cx w (A.deeper env) (hideAll h (os.map (·.1))) :=
  have F' := fr_hides F N hm
  ⟨hh, base, env :: outer, p, loose, mean, mg, mb, pushX B F' hf hk, X.keeps F'.keep, T.keeps F'.keep⟩
theorem stays_all {h h' hb : Heap} (hhb : hb = hideAll h (os.map (·.1))) (k : hb.StaysIn h') (hos : ∀ q ∈ os, h.get? q.1 = some q.2) (hos' : ∀ q ∈ os, h'.get? q.1 = some q.2) : h.StaysIn h' := fun b o e => by
  subst hhb
  by_cases hb : b ∈ os.map (·.1)
  · obtain ⟨r, hr, rfl⟩ := List.mem_map.mp hb
    have := hos r hr
    rw [e] at this
    cases this
    exact hos' r hr
  · exact k _ _ (hideAll_get _ e hb)
end
section
variable {prog : Program} {w : World} {A A₀ : Around} {s : Shared} {base : Heap} {outer : List Env} {K : Frag} {p : Program} {loose : List Str} {mean : ExcName → Option Value} {mg mb m : Str → Option Value} {h₀ : Heap} {L : Addr} {news : List (Addr × Obj)}
  {env : Env} {R : Result → Shared → Prop} {name qual : Str} {params params₀ : Arguments} {body body₀ : List Stmt} {scope scope₀ : Scope} {dV kV doc pm cdv ct oc : Value} {an od : Option Addr} {osl : Array (Option Value)} {f : Addr} {args : Args} {binds : List (Str × Value)}
theorem code_defL (B : Below A₀ base outer h₀) (F : Fr h₀ L s.heap m) (X₀ : K.In h₀) (N : News h₀ L s.heap news) (T : Top p loose mean mg mb h₀) (hA : A.frames = some (env :: outer)) (hf : env.frame = some L) (hke : env.scope.kind = .function)
    (ho : K.lookup f = some ⟨oc, od, .func (fnOf name qual params₀ body₀ scope₀ dV kV doc pm an cdv ct), osl⟩) (hp : params₀ = params) (hb : body₀ = body) (hs : scope₀ = scope) (hcd : codeIn K cdv qual = true) (hroom : A.depth < recursionLimit)
    (hbind : BindsTo s (fnOf name qual params body scope dV kV doc pm an cdv ct) args binds) (hloc : ∀ y ∈ binds, scope.names.lookup y.1 = some .local)
    (h : ∀ g L' h₁, Fr h₀ L g m → Fr g L' h₁ (fun y => binds.reverse.lookup y) → News g L' h₁ news → Below A base (env :: outer) g → K.In g → Top p loose mean mg mb g →
      wpAny (model prog w) (A.deeper (envOf qual scope L' f cdv)) (execs body (envOf qual scope L' f cdv))
        (fun fl s' => LeaveK h₀ L m g R (match fl with | .ret v => v | _ => .none) s')
        (fun e s' => wpAny (model prog w) (A.deeper (envOf qual scope L' f cdv)) (leaving (envOf qual scope L' f cdv) e) (fun _ s'' => R (.error e) s'') (fun e' s'' => R (.error e') s'') s')
        { s with heap := h₁, toks := s.toks + binds.length })
    (hco : scope.isCoroutine = false) (hgen : scope.isGenerator = false) (hk : scope.kind = .function)
    (hcell : ∀ x ∈ scope.names, x.2 ≠ .cell) : codeAny (model prog w) A (.call (.ref f) args) R s := by
  subst hp hb hs
  exact code_def B F X₀ N T hA hf hke ho hcd hroom hbind hloc h hco hgen hk hcell
theorem code_defCL (B : Below A₀ base outer h₀) (F : Fr h₀ L s.heap m) (X₀ : K.In h₀) (N : News h₀ L s.heap news) (T : Top p loose mean mg mb h₀) (hA : A.frames = some (env :: outer)) (hf : env.frame = some L) (hke : env.scope.kind = .function)
    (ho : K.lookup f = some ⟨oc, od, .func (fnOf name qual params₀ body₀ scope₀ dV kV doc pm an cdv ct), osl⟩) (hp : params₀ = params) (hb : body₀ = body) (hs : scope₀ = scope) (hcd : codeIn K cdv qual = true) (hroom : A.depth < recursionLimit)
    (hbind : BindsTo s (fnOf name qual params body scope dV kV doc pm an cdv ct) args binds) (hkind : (binds.all fun y => scope.names.lookup y.1 == some .local || scope.names.lookup y.1 == some .cell) = true)
    (hnd : ((cellsFrom 0 scope.names []).map (·.1)).Nodup)
    (h : ∀ g L' h₁ tk cells, Fr h₀ L g m → Fr g L' h₁ (bindL (envOfC qual scope L' f cdv).kindOf binds fun _ => none) → News g L' h₁ (cells ++ news) →
      CellsAre (bindC (envOfC qual scope L' f cdv).kindOf binds fun _ => none) (cellsFrom (L' + 1) scope.names []) cells → Below A base (env :: outer) g → K.In g → Top p loose mean mg mb g → (∀ p ∈ news, p.1 < L') →
      wpAny (model prog w) (A.deeper (envOfC qual scope L' f cdv)) (execs body (envOfC qual scope L' f cdv))
        (fun fl s' => LeaveK h₀ L m g R (match fl with | .ret v => v | _ => .none) s')
        (fun e s' => wpAny (model prog w) (A.deeper (envOfC qual scope L' f cdv)) (leaving (envOfC qual scope L' f cdv) e) (fun _ s'' => R (.error e) s'') (fun e' s'' => R (.error e') s'') s')
        { s with heap := h₁, toks := tk })
    (hco : scope.isCoroutine = false) (hgen : scope.isGenerator = false) (hk : scope.kind = .function) : codeAny (model prog w) A (.call (.ref f) args) R s := by
  subst hp hb hs
  exact code_defC B F X₀ N T hA hf hke ho hcd hroom hbind hkind hnd h hco hgen hk
end
local macro_rules | `(tactic| k_enter) => `(tactic| first | (refine' code_defL ?k1 ?k2 ?k3 ?k4 ?k5 ?kA ?kF ?kK ?k6 ?m1 ?m2 ?m3 ?k7 ?k8 ?k9 ?kB ?_ ?c2 ?c3 ?c4 ?c5; (case kA => exact rfl); (case kF => exact rfl); (case kK => exact rfl); (case k1 => k_asm); (case k2 => k_asm); (case k3 => k_asm); (case k4 => k_asm); (case k5 => k_asm); (case k6 => k_is); (case m1 => k_extra "my lit"); (case m2 => k_extra "my lit"); (case m3 => k_extra "my lit"); (case k7 => k_is); (case k8 => k_room); (case k9 => first | exact BindsTo.of_eq rfl | exact binds_K (by k_in) rfl (by k_is) rfl rfl rfl | fail "k_enter: no rule for these arguments"); (case c5 => decide); (case kB => exact locs rfl); (case c2 => exact rfl); (case c3 => exact rfl); (case c4 => exact rfl); k_whole; intro g' L' h' FG' F' N' B' X' T'; (try dsimp only); (try k_lift B'); (try k_fold)) | (refine' code_defCL ?k1 ?k2 ?k3 ?k4 ?k5 ?kA ?kF ?kK ?k6 ?m1 ?m2 ?m3 ?k7 ?k8 ?k9 ?kB ?kD ?_ ?c2 ?c3 ?c4; (case kA => exact rfl); (case kF => exact rfl); (case kK => exact rfl); (case k1 => k_asm); (case k2 => k_asm); (case k3 => k_asm); (case k4 => k_asm); (case k5 => k_asm); (case k6 => k_is); (case m1 => k_extra "my lit"); (case m2 => k_extra "my lit"); (case m3 => k_extra "my lit"); (case k7 => k_is); (case k8 => k_room); (case k9 => first | exact BindsTo.of_eq rfl | exact binds_K (by k_in) rfl (by k_is) rfl rfl rfl | fail "k_enter: no rule for these arguments"); (case kB => exact rfl); (case kD => decide +kernel); (case c2 => exact rfl); (case c3 => exact rfl); (case c4 => exact rfl); k_whole; intro g' L' h' tk' cells' FG' F' N' Y' B' X' T' l1; (try k_lt l1); k_cells Y'; (try simp only [List.cons_append, List.nil_append] at N'); (try dsimp only); (try k_lift B'); (try k_fold)))
local macro_rules | `(tactic| walk_at "CompRest") => `(tactic| k_extra "my CompRest")
theorem word_73 : True := by
  k_with "my CompRest" => ((with_unfolding_all (refine LCg.CompRest.succ ?_; intro v'9m I'9m oI'9m C'9m oC'9m D'9m m'9m h'9m tk'9m E'9m hv'9m hC'9m hx'9m F'9m N'9m off'9m ne'9m; (first | lcg_open hv'9m | (obtain ⟨t9'9m, hv9'9m⟩ := hv'9m; subst hv9'9m)); k_extra "my off")))
  trivial
local macro_rules | `(tactic| walk_at "CompRestT") => `(tactic| k_extra "my CompRestT")
theorem word_74 : True := by
  k_with "my CompRestT" => ((with_unfolding_all (refine LCt.CompRestT.succ ?_; intro v'9m I'9m oI'9m C'9m oC'9m D'9m m'9m h'9m tk'9m E'9m hv'9m hC'9m hx'9m F'9m N'9m off'9m ne'9m; (first | lcg_open hv'9m | (obtain ⟨t9'9m, hv9'9m⟩ := hv'9m; subst hv9'9m)); k_extra "my off")))
  trivial
theorem word_75 : True := by
  k_with "my off" => (((with_reducible rename LCg.Off3 _ _ _ _ => of9); (with_reducible rename _ ∧ _ ∧ _ => ne9); (have of19m := (off3_nel of9 ne9).1); (have of29m := (off3_nel of9 ne9).2.1); (have of39m := (off3_nel of9 ne9).2.2); (clear of9 ne9); (try dsimp only [List.map, List.nil_append, List.cons_append] at of19m of29m of39m)))
  trivial
structure HandC : Prop where
theorem word_76 : True := by
  k_with "my eval ListComp" => (((rename HandC => hHand9m); (with_reducible show wpAny _ _ (eval (Expr.ListComp _ _ _ _) _) _ _ _); (refine Stop.out ?_)))
  trivial
section
variable {prog : Program} {w : World} {A : Around} {E : Value → Shared → Prop} {s : Shared} {env : Env} {h₀ : Heap} {x : Str} {body : List Stmt} {Q : Flow → Shared → Prop}
/-- a turn that appends to the one list fl -/
noncomputable def Coll (h₀ : Heap) (L l fl : Addr) (vs : List Value) (nn : Nat) (rest : List (Addr × Obj)) (y : Str) (P : List Value → Prop) (s : Shared) (f : Flow) (s' : Shared) : Prop :=
  f = .next ∧ ∃ h' tk' m' wa n', s' = { s with heap := h', toks := tk' } ∧ Fr h₀ L h' m' ∧ News h₀ L h' ((l, listOf vs.toArray nn) :: (fl, listOf wa n') :: rest) ∧ m' y = some (.ref fl) ∧ P wa.toList
theorem Coll.intro {L l fl : Addr} {vs : List Value} {nn : Nat} {rest : List (Addr × Obj)} {y : Str} {P : List Value → Prop} {h' : Heap} {tk' : Nat} {m' : Str → Option Value} {wa : Array Value} {n' : Nat} (F : Fr h₀ L h' m') (N : News h₀ L h' ((l, listOf vs.toArray nn) :: (fl, listOf wa n') :: rest)) (hy : m' y = some (.ref fl)) (hP : P wa.toList) :
    Coll h₀ L l fl vs nn rest y P s .next { s with heap := h', toks := tk' } := ⟨rfl, h', tk', m', wa, n', rfl, F, N, hy, hP⟩
theorem iter_collect {l fl : Addr} {vs ws₀ : List Value} {nn n₀ : Nat} {m₀ : Str → Option Value} {rest : List (Addr × Obj)} (y : Str) (P : Nat → List Value → Prop)
    (hh : A.handled = none) (F : Fr h₀ env.locals s.heap m₀) (N : News h₀ env.locals s.heap ((l, listOf vs.toArray nn) :: (fl, listOf ws₀.toArray n₀) :: rest)) (hy : m₀ y = some (.ref fl)) (h0 : P 0 ws₀)
    (turn : ∀ (i : Nat) (v : Value) (m₁ : Str → Option Value) (ws : List Value) (n : Nat) (h : Heap) (tk : Nat) (own : List (Addr × Obj)), vs[i]? = some v → P i ws → OwnOff own (l :: fl :: rest.map (·.1)) → Fr h₀ env.locals h (fun z => if z = x then some v else if z = y then some (.ref fl) else m₁ z) →
      News h₀ env.locals h ((l, listOf vs.toArray nn) :: (fl, listOf ws.toArray n) :: (rest ++ own)) →
      wpAny (model prog w) A (execs body env) (Coll h₀ env.locals l fl vs nn (rest ++ own) y (P (i + 1)) { s with heap := h, toks := tk }) E { s with heap := h, toks := tk })
    (done : ∀ (m₁ : Str → Option Value) (ws : List Value) (n : Nat) (h : Heap) (tk : Nat), P vs.length ws → Fr h₀ env.locals h (fun z => if z = y then some (.ref fl) else m₁ z) → News h₀ env.locals h ((l, listOf vs.toArray nn) :: (fl, listOf ws.toArray n) :: rest) → Q .next { s with heap := h, toks := tk }) :
    wpAny (model prog w) A (pyIter (.ref l)) (fun it s₂ => LoopAtV prog w A h₀ env x body Q E it s₂) E s := by
  have setm : ∀ {m : Str → Option Value}, m y = some (.ref fl) → ∀ z, m z = if z = y then some (.ref fl) else m z := fun {m} e z => by
    by_cases q : z = y
    · rw [if_pos q, q, e]
    · rw [if_neg q]
  refine kdl_iter (fun i m nx => ∃ ws n, nx = (l, listOf vs.toArray nn) :: (fl, listOf ws.toArray n) :: rest ∧ P i ws ∧ m y = some (.ref fl)) hh (List.Mem.head _) F N ⟨ws₀, n₀, rfl, h0, hy⟩ ?_ ?_
  · rintro i v m₁ nx h tk own hv hoff - ⟨ws, n, rfl, hP, hm⟩ F₁ N₁
    refine wpAny_mono (turn i v m₁ ws n h tk own hv hP hoff (fr_congr F₁ fun z => ?_) N₁) (fun f s' he => ?_) fun _ _ e => e
    · by_cases q : z = x
      · rw [if_pos q, if_pos q]
      · rw [if_neg q, if_neg q]; exact setm hm z
    · obtain ⟨rfl, h', tk', m', wa, n', rfl, F', N', hy', hP'⟩ := he
      refine InvEndG.intro F' N' (nx := (l, listOf vs.toArray nn) :: (fl, listOf wa n') :: rest) ⟨List.Mem.head _, wa.toList, n', by rw [Array.toArray_toList], hP', hy'⟩ hoff (sub_c _ _ _ _) (sub_d _ _ _ _)
  · rintro m₁ nx h tk ⟨ws, n, rfl, hP, hm⟩ F₁ N₁
    exact done m₁ ws n h tk hP (fr_congr F₁ (setm hm)) N₁
end
local macro_rules | `(tactic| walk_at "Coll") => `(tactic| k_extra "my Coll")
theorem word_77 : True := by
  k_with "my Coll" => ((refine Coll.intro (by assumption) (by assumption) (by exact rfl) ?_))
  trivial
theorem word_78 : True := by
  k_with "my k7" => (first | exact BindsTo.of_eq rfl | (rename Frag.In _ _ => kX9; exact binds_K (kX9.keeps fun _ _ e9m => of_hideAll _ ((by assumption : _ = hideAll _ _) ▸ e9m)) rfl (by k_is) rfl rfl rfl))
  trivial
theorem word_79 : True := by
  k_with "my enterO" => (((refine wpAny_call (enterO (by assumption) (by assumption) (by assumption) (by assumption) (by assumption) (by k_is) (by k_extra "my lit") (by k_extra "my lit") (by k_extra "my lit") (by k_is) (by k_extra "my k6") (by k_extra "my k7") (by exact locs rfl) ?_ (by exact rfl) (by exact rfl) (by exact rfl) (by decide))); intro L'9m h₁9m F'9m N'9m l19m; (try k_lt l19m); (try dsimp only); (try k_unmd); (try k_fold)))
  trivial
theorem word_80 : True := by
  k_with "my enterOC" => (((refine wpAny_call (enterOC (by assumption) (by assumption) (by assumption) (by assumption) (by assumption) (by k_is) (by k_extra "my lit") (by k_extra "my lit") (by k_extra "my lit") (by k_is) (by k_extra "my k6") (by k_extra "my k7") (by exact rfl) (by decide +kernel) ?_ (by exact rfl) (by exact rfl) (by exact rfl))); intro L'9m h₁9m tk'9m cells'9m F'9m N'9m Y'9m l19m; (try k_lt l19m); (k_cells Y'9m); (try simp only [List.cons_append, List.nil_append] at N'9m); (try dsimp only); (try k_unmd); (try k_fold)))
  trivial

theorem word_81 : True := by
  k_with "my call ref" => (((with_reducible show wpAny _ _ (call (Value.ref 239) _) _ _ _); (k_dflt ((refine c_isna (by k_extra "my cx") (by k_extra "my rm") _ _ (by k_extra "my at") ?_); (intro h'9m tk'9m k'9m); k_extra "my kp"))))
  trivial
noncomputable def cnt : D → Option Int
  | .no => none
  | .pr a b => if a = 0 ∧ b = 0 then none else if b = 0 then some (10000 * a) else some ((2 * a + b).fdiv (2 * b))
inductive CntAre : List Value → List (Option Int) → Prop
  | nil : CntAre [] []
  | no {ws : List Value} {ks : List (Option Int)} : CntAre ws ks → CntAre (.none :: ws) (none :: ks)
  | int {k : Int} {t : Tok} {ws : List Value} {ks : List (Option Int)} : CntAre ws ks → CntAre (.int k t :: ws) (some k :: ks)
theorem CntAre.length {ws : List Value} {ks : List (Option Int)} (h : CntAre ws ks) : ws.length = ks.length := by
  induction h with
  | nil => rfl
  | no _ ih => simp [ih]
  | int _ ih => simp [ih]
theorem CntAre.app {ws ws' : List Value} {ks ks' : List (Option Int)} (h : CntAre ws ks) (h' : CntAre ws' ks') : CntAre (ws ++ ws') (ks ++ ks') := by
  induction h with
  | nil => exact h'
  | no _ ih => exact .no ih
  | int _ ih => exact .int ih
theorem CntAre.push {ws : List Value} {ks : List (Option Int)} {v : Value} {k : Option Int} (h : CntAre ws ks) (h' : CntAre [v] [k]) : CntAre (ws.toArray.push v).toList (ks ++ [k]) := by
  rw [show (ws.toArray.push v).toList = ws ++ [v] by simp]; exact h.app h'
theorem CntAre.get {ws : List Value} {ks : List (Option Int)} (h : CntAre ws ks) : ∀ {i : Nat} {k : Option Int}, ks[i]? = some k → ∃ v, ws[i]? = some v ∧ ((k = none ∧ v = .none) ∨ ∃ z t, k = some z ∧ v = .int z t) := by
  induction h with
  | nil => intro i k e; simp at e
  | no _ ih =>
    intro i k e
    cases i with
    | zero => simp at e; subst e; exact ⟨_, rfl, .inl ⟨rfl, rfl⟩⟩
    | succ i => simpa using ih (by simpa using e)
  | int _ ih =>
    intro i k e
    cases i with
    | zero => simp at e; subst e; exact ⟨_, rfl, .inr ⟨_, _, rfl, rfl⟩⟩
    | succ i => simpa using ih (by simpa using e)
theorem cnt_bd {a b : Int} (h : -1000 < a ∧ a < 1000 ∧ ((b = 0 ∧ (a = 0 ∨ a = 1 ∨ a = -1)) ∨ (0 < b ∧ b < 10 ∧ -2 ≤ (2 * a + b).fdiv (2 * b) ∧ (2 * a + b).fdiv (2 * b) ≤ 4))) (hb : ¬ b = 0) : -10000 < (2 * a + b).fdiv (2 * b) ∧ (2 * a + b).fdiv (2 * b) < 10000 := by
  obtain ⟨h1, h2, h3 | ⟨h3, h4, h5, h6⟩⟩ := h
  · exact absurd h3.1 hb
  · exact ⟨Int.lt_of_lt_of_le (by decide) h5, Int.lt_of_le_of_lt h6 (by decide)⟩
theorem fresh_all {h₀ h hb : Heap} {L F1 : Addr} {o : Obj} {os news : List (Addr × Obj)} (hhb : hb = hideAll h₀ (os.map (·.1))) (N : News hb L h news) (hm : (F1, o) ∈ news) (hne : F1 ∉ os.map (·.1)) : h₀.get? F1 = none := by
  subst hhb
  cases q : h₀.get? F1 with
  | none => rfl
  | some x => have := hideAll_get _ q hne; rw [(N _ hm).2.2] at this; cases this
section
variable {prog : Program} {w : World} {A : Around} {s : Shared} {Q E : Value → Shared → Prop}
set_option maxHeartbeats 4000000 in
theorem c_counts {X1 DX D1 : Addr} {t1 t2 t3 t4 t5 t6 : Tok} {c1 : Nat} {av : Value} {ys : List Value} {gs : List D} {hb : Heap} (hhb : hb = hideAll s.heap ([(X1, instObj 92 DX), (DX, vecO w.params t1 t2 t3 t4 t5 t6 (Str.ofString "double") (.ref D1) av), (D1, listOf ys.toArray c1)].map (·.1))) (C : Cx w A hb) (hR : Rm A 6)
  (hos : ∀ q ∈ [(X1, instObj 92 DX), (DX, vecO w.params t1 t2 t3 t4 t5 t6 (Str.ofString "double") (.ref D1) av), (D1, listOf ys.toArray c1)], s.heap.get? q.1 = some q.2)
  (ha : AtsL hb [] ys gs) (hg : ∀ d ∈ gs, GOk d) (hl : gs.length < 4)
  (hret : ∀ F1 ws n h' tk', s.heap.StaysIn h' → s.heap.get? F1 = none → h'.get? F1 = some (listOf ws.toArray n) → CntAre ws (gs.map cnt) → Q (.ref F1) { s with heap := h', toks := tk' }) :
  wpAny (model prog w) A (call (.ref 317) [.ref X1]) Q E s := by
  obtain ⟨hh, base, outer, p, loose, mean, mg, mb, B, X, T⟩ := C
  obtain ⟨ah, dp, fr, gd, un⟩ := A
  obtain ⟨sh, sg, sd, st, so⟩ := s
  dsimp only at hhb hos hret
  cases hh
  cases B.stack
  have hly : ys.length = gs.length := ha.length
  have hHand : Hand := ⟨⟩
  k_extra "my enterO"
  k_extra "my go"
  unfold Stop
  rename Fr _ _ _ _ => kF
  rename News _ _ _ _ => kN
  refine iter_collect (Str.ofString "found") (fun i ws => CntAre ws ((gs.take i).map cnt)) rfl kF kN rfl .nil ?_ ?_
  · intro i v m₁ ws n h tk own hv hc hoff F₂ N₂
    obtain ⟨d, hd, hat⟩ := ha.get hv
    have hgd := hg d (List.mem_of_getElem? hd)
    have htk : (gs.take (i + 1)).map cnt = (gs.take i).map cnt ++ [cnt d] := by simp [List.take_add_one, hd]
    have hlw : ws.length ≤ 4 := by
      rw [hc.length, List.length_map, List.length_take]; omega
    clear kF kN
    simp only [List.cons_append, List.nil_append, List.map_cons, List.map_nil] at N₂ hoff
    cases d with
    | no =>
      have hat' : v = .none := hat
      subst hat'
      have hx : At hb .none .no := rfl
      k_extra "my go"
      · rw [htk]
        exact hc.push (.no .nil)
    | pr a b =>
      obtain ⟨x, ta, tb, rfl, ht | ⟨o, ho, _⟩⟩ := hat
      · have hx := At.self ht
        replace hgd := hgd a b rfl
        k_extra "my go"
        all_goals
          rename Fr _ _ _ _ => kF'
          rename News _ _ _ _ => kN'
          try refine Coll.intro kF' kN' rfl ?_
          rw [htk]
          refine hc.push ?_
        · rename (_ == _ && _) = _ => hna
          simp at hna
          simp only [cnt, hna.1, hna.2, and_self, if_true]; exact .no .nil
        · rename (_ == _ && _) = _ => hna
          rename b = 0 => hb
          subst hb
          simp at hna
          simp only [cnt, hna, false_and, if_false, if_true]; exact .int .nil
        · rename (_ == _ && _) = _ => hna
          rename ¬ b = 0 => hb
          have hq := cnt_bd hgd hb
          have e1 : (2 * a + b).fdiv (2 * b) < 10000 := hq.2
          have e2 : (2 * a + b).fdiv (2 * b) > -10000 := hq.1
          simp only [cnt, hb, and_false, if_false]
          rw [if_pos e1, if_pos e2]
          exact .int .nil
      · cases ho
  · intro m₁ ws n h tk hc F₂ N₂
    clear kF kN
    simp only [List.take_length, hly] at hc
    k_extra "my go"
    refine hret _ ws n h _ (stays_all hhb F₂.keep hos fun q hq => (N₂ q (.tail _ (.tail _ (.tail _ hq)))).1) (fresh_all hhb N₂ (.tail _ (.head _)) ?_) (N₂ _ (.tail _ (.head _))).1 hc
    k_extra "my nm"
end

section
variable {prog : Program} {w : World} {A : Around} {s : Shared} {Q E : Value → Shared → Prop}
set_option maxHeartbeats 8000000 in
theorem c_take {La Lf T0 T1 : Addr} {tg tx td : Tok} {na nf n0 n1 : Nat} {x1 x2 : Addr} {hb : Heap} (hhb : hb = hideAll s.heap ([(La, listOf #[.ref T0, .ref T1] na), (Lf, listOf #[.str (Str.ofString "x") tx, .str (Str.ofString "digits") td] nf), (T0, ({ cls := .type "tuple", data := .seq #[.none, .ref x1] n0 } : Obj)), (T1, ({ cls := .type "tuple", data := .seq #[.str (Str.ofString "digits") tg, .ref x2] n1 } : Obj))].map (·.1))) (C : Cx w A hb) (hR : Rm A 8)
  (hos : ∀ q ∈ [(La, listOf #[.ref T0, .ref T1] na), (Lf, listOf #[.str (Str.ofString "x") tx, .str (Str.ofString "digits") td] nf), (T0, ({ cls := .type "tuple", data := .seq #[.none, .ref x1] n0 } : Obj)), (T1, ({ cls := .type "tuple", data := .seq #[.str (Str.ofString "digits") tg, .ref x2] n1 } : Obj))], s.heap.get? q.1 = some q.2)
  (hret : ∀ F1 n h' tk', s.heap.StaysIn h' → s.heap.get? F1 = none → h'.get? F1 = some (listOf #[.ref x1, .ref x2] n) → Q (.ref F1) { s with heap := h', toks := tk' }) :
  wpAny (model prog w) A (call (.ref 202) [.ref La, .ref Lf]) Q E s := by
  obtain ⟨hh, base, outer, p, loose, mean, mg, mb, B, X, T⟩ := C
  obtain ⟨ah, dp, fr, gd, un⟩ := A
  obtain ⟨sh, sg, sd, st, so⟩ := s
  dsimp only at hhb hos hret
  cases hh
  cases B.stack
  have hHand : HandC := ⟨⟩
  k_extra "my enterOC"
  k_extra "my go"
  unfold Stop
  rename HandC => hH
  clear hH
  iterate 13 walk1
  have hHand : HandC := ⟨⟩
  k_extra "my go"
  unfold Stop
  rename HandC => hH
  clear hH
  repeat (with_reducible rename _ ≠ _ ∧ _ => z9; clear z9)
  repeat (with_reducible rename (_ ≠ _ ∧ _) ∧ _ => z9; clear z9)
  repeat' (first | rw [show (0 : Int) + ((0 : Nat) : Int) = 0 from rfl] | rw [show (0 : Int) + ((0 + 1 : Nat) : Int) = 1 from rfl] | (k_unfold; (try dsimp only)) | (k_unmd; k_unfold; (try dsimp only)) | (k_end; first | dsimp only | k_extra "my end") | walk1 | (dsimp only; walk1) | (leave1; try dsimp only))
  rename Fr _ _ _ _ => kF
  rename News _ _ _ _ => kN
  refine hret _ _ _ _ (stays_all hhb kF.keep hos fun q hq => (kN q ?m).1) (fresh_all hhb kN (.head _) ?f) (kN _ (.head _)).1
  case m => repeat (first | exact hq | refine List.Mem.tail _ ?_)
  case f =>
    k_extra "my nm"
end

theorem one_line : 1 ≤ sizeLine := by rw [sizeLine_eq]; decide
section
variable {prog : Program} {w : World} {K : Type} [DecidableEq K] {knd : KeyKind prog w K} {A : Around} {E : Value → Shared → Prop} {s : Shared} {h₀ : Heap} {L src : Addr} {m : Str → Option Value} {news : List (Addr × Obj)}
theorem dict_copyL {kvs : List (K × Value)} {oA : Obj} {Q : Value → Shared → Prop} (F : Fr h₀ L s.heap m) (N : News h₀ L s.heap news) (hbig : h₀.NoLimit) (he : h₀.get? src = some oA) (hlo : (src == sysModules) = false) (hd : oA.IsDictOf knd kvs) (hsz : kvs.length ≤ sizeLine)
    (k : ∀ d h' o, Fr h₀ L h' m → News h₀ L h' ((d, o) :: news) → (∀ p ∈ news, p.1 < d) → (d == sysModules) = false → o.IsDictOf knd kvs → Q (.ref d) { s with heap := h' }) :
    wpAny (model prog w) A (call (.type "dict") [.ref src]) Q E s := by
  refine kt_call_dict hlo (Heap.dictOf_iff.mpr ⟨oA, F.keep _ _ he, hd⟩) hsz fun h' hm hs => ?_
  obtain ⟨o', ho', hd'⟩ := Heap.dictOf_iff.mp hm
  have N1 := News.push F N { cls := .type "dict", data := .dict #[] }
  exact k _ h' o' ((F.push _).change hs (N1 _ (.head _)).2.1 (N1.fresh (.head _))) (N1.setHead N.apart hs ho') (fun p hp => Heap.lt_size (N p hp).1) (F.notModules (modules_low hbig)) hd'
end
local macro_rules | `(tactic| walk_at "call type:dict") => `(tactic| ((with_reducible show wpAny _ _ (call (Value.type "dict") [Value.ref _]) _ _ _); (k_dflt ((rename Obj.IsDictOf _ _ _ => hD9); (refine' dict_copyL ?F ?N ?b ?g ?l hD9 ?z ?_); (case F => k_asm); (case N => k_asm); (case b => exact Top.nolimit (by k_asm)); (case g => first | with_reducible assumption | exact Fr.keep (by with_reducible assumption) _ _ (by with_reducible assumption) | exact Fr.keep (by with_reducible assumption) _ _ (Fr.keep (by with_reducible assumption) _ _ (by with_reducible assumption))); (case l => with_reducible assumption); (case z => exact one_line); (intro d' h' o' F' N' l1 lo' hd'); (try k_lt l1)))))
/-- as tups_add, and the new tuple is known -/
theorem tups_add2 {h₀ h h' : Heap} {L : Addr} {m : Str → Option Value} {v : Value} {d : D} {all all' tups : List (Addr × Obj)} (F : Fr h₀ L h m) (N : News h₀ L h all) (N' : News h₀ L h' all') (a : FAt h h' v d) :
    ∃ t, News h₀ L h' (t ++ all') ∧ AtL h₀ (t ++ tups) v d ∧ (∀ p ∈ t, (∀ q ∈ all, q.1 ≠ p.1)) ∧ ∀ b, v = .ref b → ∃ o, (b, o) ∈ t := by
  cases d with
  | no => exact ⟨[], N', a, fun p hp => (nomatch hp), fun b e => by rw [show v = .none from a] at e; cases e⟩
  | pr x y =>
    obtain ⟨b, ta, tb, e, hn, o, ho, hc, n, hd⟩ := a
    refine ⟨[(b, o)], news_add F N' hn ho, ⟨b, ta, tb, e, .inr ⟨o, List.mem_cons_self, hc, n, hd⟩⟩, fun p hp => ?_, fun b' e' => ?_⟩
    · rw [List.mem_singleton.mp hp]
      exact ne_of_fresh N hn
    · rw [e] at e'; cases e'; exact ⟨o, List.mem_cons_self⟩
open LCg in
section
variable {prog : Program} {w : World} {A : Around} {h₀ : Heap} {L : Addr} {m : Str → Option Value} {env : Env} {elt : Expr} {x : Str} {scope : Scope} {cl : List (Str × Addr)} {s : Shared} {S : List (Addr × Obj) → Prop} {P : Nat → Value → Prop} {Fin : List Value → List (Addr × Obj) → Prop}
/-- one value of the data for each turn, old or new -/
theorem comp_map {n : Nat} {G : Nat → D} {Z : Value → Prop} {T news : List (Addr × Obj)} (hS : ∀ tups, S (news ++ tups))
    (turn : ∀ i v I oI C oC Dd ys m₂ h tk (E' : Value → Shared → Prop) tups, i < n → P i v → NsObj oC m₂ → m₂ x = some v → Fr h₀ L h m → News h₀ L h ((I, oI) :: (C, oC) :: (Dd, lst ys) :: (news ++ tups)) → Off3 I C Dd (news ++ tups) → ((@Ne Nat I C) ∧ (@Ne Nat I Dd) ∧ (@Ne Nat C Dd)) → OwnOff tups (news.map (·.1)) →
      wpAny (model prog w) A (eval elt (compEnvC scope cl C env)) (fun y s' => ∃ h' tk', s' = { s with heap := h', toks := tk' } ∧ Fr h₀ L h' m ∧ News h₀ L h' ((I, oI) :: (C, oC) :: (Dd, lst ys) :: (news ++ tups)) ∧ ((AtL h₀ T y (G i) ∧ Z y) ∨ FAt h h' y (G i))) E' { s with heap := h, toks := tk })
    (fin : ∀ ys tups, AtsL h₀ (tups ++ T) ys ((List.range n).map G) → (∀ y ∈ ys, Z y ∨ ∀ b, y = .ref b → ∃ o, (b, o) ∈ tups) → OwnOff tups (news.map (·.1)) → Fin ys (news ++ tups)) :
    CompRest prog w A h₀ L m env elt x scope cl s S P Fin n 0 [] news := by
  have key : ∀ (j i : Nat) (ys : List Value) (tups : List (Addr × Obj)), i + j = n → AtsL h₀ (tups ++ T) ys ((List.range i).map G) → (∀ y ∈ ys, Z y ∨ ∀ b, y = .ref b → ∃ o, (b, o) ∈ tups) → OwnOff tups (news.map (·.1)) →
      CompRest prog w A h₀ L m env elt x scope cl s S P Fin j i ys (news ++ tups) := by
    intro j
    induction j with
    | zero =>
      intro i ys tups hij ha hz ho
      have : i = n := by omega
      subst this
      exact CompRest.zero (fin ys tups ha hz ho)
    | succ j ih =>
      intro i ys tups hij ha hz ho
      refine CompRest.succ ?_
      intro v I oI C oC Dd m₂ h tk E' hv hC hx F N off ne
      refine wpAny_mono (turn i v I oI C oC Dd ys m₂ h tk E' tups (by omega) hv hC hx F N off ne ho) (fun y s₂ hq => ?_) fun _ _ e => e
      obtain ⟨h', tk', rfl, F', N', hy⟩ := hq
      have ext : (List.range (i + 1)).map G = (List.range i).map G ++ [G i] := by rw [List.range_succ, List.map_append]; rfl
      rcases hy with ⟨hy, hzy⟩ | hf
      · refine ⟨h', tk', news ++ tups, rfl, F', N', off, hS _, ih (i + 1) (ys ++ [y]) tups (by omega) ?_ (fun z hz' => ?_) ho⟩
        · rw [ext]
          exact ha.snoc (hy.mono fun p hp => List.mem_append_right _ hp)
        · rcases List.mem_append.mp hz' with q | q
          · exact hz z q
          · rw [List.mem_singleton.mp q]; exact .inl hzy
      · obtain ⟨t, Nt, at_, hne, hkn⟩ := tups_add2 (tups := tups ++ T) F N N' hf
        refine ⟨h', tk', news ++ (t ++ tups), rfl, F', ?_, ?_, hS _, ?_⟩
        · intro p hp
          refine Nt p ?_
          simp only [List.mem_cons, List.mem_append] at hp ⊢
          rcases hp with q | q | q | q | q | q <;> simp [q]
        · refine Off3.of fun p hp => ?_
          simp only [List.mem_append] at hp
          have o3 := off.mem
          rcases hp with q | q | q
          · exact o3 p (by simp [q])
          · have z := hne p q
            exact ⟨Ne.symm (z (I, oI) (by simp)), Ne.symm (z (C, oC) (by simp)), Ne.symm (z (Dd, lst ys) (by simp))⟩
          · exact o3 p (by simp [q])
        · refine ih (i + 1) (ys ++ [y]) (t ++ tups) (by omega) ?_ (fun z hz' => ?_) ?_
          · rw [ext, List.append_assoc]
            exact (ha.mono fun p hp => List.mem_append_right _ hp).snoc at_
          · rcases List.mem_append.mp hz' with q | q
            · exact (hz z q).imp id fun h b e => let ⟨o, ho⟩ := h b e; ⟨o, List.mem_append_right _ ho⟩
            · rw [List.mem_singleton.mp q]
              exact .inr fun b e => let ⟨o, ho⟩ := hkn b e; ⟨o, List.mem_append_left _ ho⟩
          · intro p hp' b hb
            rcases List.mem_append.mp hp' with q | q
            · have z := hne p q
              obtain ⟨r, hr, rfl⟩ := List.mem_map.mp hb
              exact Ne.symm (z r (by simp [hr]))
            · exact ho p q b hb
  have := key n 0 [] [] (by omega) .nil (fun _ h => nomatch h) (fun _ h => nomatch h)
  simpa using this
end
/-- the value of attrs: None, or a dict whose one entry is the names -/
noncomputable def AvIs (prog : Program) (w : World) (h : Heap) (av : Value) : Option Addr → Prop
  | none => av = .none
  | some V2 => ∃ AD oA, av = .ref AD ∧ (AD == sysModules) = false ∧ h.get? AD = some oA ∧ Obj.IsDictOf (PySem.strKind prog w) oA [(Str.ofString "names", Value.ref V2)]
/-- a new vector -/
noncomputable def ResV (prog : Program) (w : World) (h₀ h' : Heap) (F1 : Addr) (ws : List Value) (nm : Option Addr) : Prop :=
  ∃ DF DI t1 t2 t3 t4 t5 t6 n av, h₀.get? F1 = none ∧ h₀.get? DF = none ∧ h₀.get? DI = none ∧ h'.get? F1 = some (instObj 92 DF) ∧ h'.get? DF = some (vecO w.params t1 t2 t3 t4 t5 t6 (Str.ofString "double") (.ref DI) av) ∧ h'.get? DI = some (listOf ws.toArray n) ∧
    AvIs prog w h' av nm ∧ ∀ V2, nm = some V2 → ∃ AD, av = .ref AD ∧ h₀.get? AD = none
noncomputable def rtD (p : Int) (d : D) : D := if p < -5001 then (match d with | .no => .no | .pr a b => if 0 < b then .pr 0 1 else .pr a b) else rheD d p
inductive AtsAt (h : Heap) : List Value → List D → Prop
  | nil : AtsAt h [] []
  | cons {v : Value} {d : D} {ys : List Value} {ds : List D} : At h v d → AtsAt h ys ds → AtsAt h (v :: ys) (d :: ds)
theorem AtsL.at {h₀ h : Heap} {L : Addr} {l : List (Addr × Obj)} {ys : List Value} {ds : List D} (x : AtsL h₀ l ys ds) (k : h₀.StaysIn h) (N : News h₀ L h l) : AtsAt h ys ds := by
  induction x with
  | nil => exact .nil
  | cons a _ ih => exact .cons (a.at k N) ih
theorem zero_at {P : Params} {h : Heap} {l : List (Addr × Obj)} (X : (Kh P).In h) : AtL h l (.ref 204) (.pr 0 1) := ⟨_, _, _, rfl, .inl ⟨_, X 204 (o250 P) (by kernel_rfl), rfl, _, rfl⟩⟩
theorem range_map {β : Type} {f : D → β} {ds : List D} {n : Nat} (h : n = ds.length) : (List.range n).map (fun i => f (ds.getD i .no)) = ds.map f := by
  subst h
  refine List.ext_getElem? fun i => ?_
  by_cases q : i < ds.length
  · simp [q]
  · simp [Nat.not_lt.mp q]
section
variable {prog : Program} {w : World} {A : Around} {s : Shared} {Q E : Value → Shared → Prop}
set_option maxHeartbeats 4000000 in
theorem c_rto {X1 DX D1 : Addr} {t1 t2 t3 t4 t5 t6 tp : Tok} {c1 : Nat} {av : Value} {ys : List Value} {ds : List D} {nm : Option Addr} {p : Int} {hb : Heap} (hhb : hb = hideAll s.heap ([(X1, instObj 92 DX), (DX, vecO w.params t1 t2 t3 t4 t5 t6 (Str.ofString "double") (.ref D1) av), (D1, listOf ys.toArray c1)].map (·.1))) (C : Cx w A hb) (hR : Rm A 12)
  (hos : ∀ q ∈ [(X1, instObj 92 DX), (DX, vecO w.params t1 t2 t3 t4 t5 t6 (Str.ofString "double") (.ref D1) av), (D1, listOf ys.toArray c1)], s.heap.get? q.1 = some q.2)
  (ha : AtsL hb [] ys ds) (hd : ∀ d ∈ ds, EOk d) (hl : ds.length < 6) (hp : p = 10000 ∨ p = -10000 ∨ (-2 ≤ p ∧ p ≤ 4)) (hav : AvIs prog w hb av nm)
  (hret : ∀ F1 ws h' tk', s.heap.StaysIn h' → ResV prog w s.heap h' F1 ws nm → AtsAt h' ws (ds.map (rtD p)) → (∀ y ∈ ws, (y ∈ ys ∨ y = .ref 204) ∨ ∀ b, y = .ref b → s.heap.get? b = none) → Q (.ref F1) { s with heap := h', toks := tk' }) :
  wpAny (model prog w) A (call (.ref 298) [.ref X1, .int p tp]) Q E s := by
  obtain ⟨hh, base, outer, p', loose, mean, mg, mb, B, X, T⟩ := C
  obtain ⟨ah, dp, fr, gd, un⟩ := A
  obtain ⟨sh, sg, sd, st, so⟩ := s
  dsimp only at hhb hos hret
  cases hh
  cases B.stack
  have hly : ys.length = ds.length := ha.length
  have hpp : ¬ p < -5001 → (308 < p ∨ (-2 ≤ p ∧ p ≤ 4)) := by omega
  have hHand : Hand := ⟨⟩
  k_extra "my enterOC"
  k_extra "my go"
  all_goals
    unfold Stop
    rename Fr _ _ _ _ => kF
    refine LCg.ListComp_U (F₀ := kF) (by with_unfolding_all rfl) (by decide) (by rfl) (by decide) (by rfl) ?_
    k_extra "my go"
    unfold Stop
    clear kF
    rename Fr _ _ _ _ => kF
    rename News _ _ _ _ => kN
    refine LCg.CompSrc.ledger rfl kF kN (List.Mem.head _) (by simp only [List.size_toArray, sizeLine_eq]; omega) ?_
    intro g
    refine comp_map (T := []) (Z := fun y => y ∈ ys ∨ y = .ref 204) (G := fun i => rtD p (ds.getD i .no)) (fun tups => .inr ⟨_, List.Mem.head _, rfl, _, rfl⟩) ?_ ?_
  · intro i v I oI C oC Dd yq m₂ h tk E' tups hi' hv hC hx F₂ N₂ off ne ho
    obtain ⟨d, hd', hat⟩ := ha.get (by simpa using hv)
    have hat2 := hat.at (L := 0) (fun _ _ e => e) (fun _ h => nomatch h)
    have of1 := (off3_nel off ne).1
    have of2 := (off3_nel off ne).2.1
    have of3 := (off3_nel off ne).2.2
    clear ne
    dsimp only [List.map, List.cons_append, List.nil_append, List.map_append] at of1 of2 of3
    simp only [List.cons_append, List.nil_append, List.map_cons, List.map_nil] at N₂ ho
    rw [show ds.getD i .no = d by simp [hd']]
    have hmv : v ∈ ys := List.mem_of_getElem? (by simpa using hv)
    clear kF kN
    have hbr : p < -5001 := by with_reducible assumption
    unfold rtD; rw [if_pos hbr]
    cases d with
    | no =>
      k_extra "my go"
      all_goals first | with_reducible assumption | assumption | exact .inl ⟨hat, .inl hmv⟩
    | pr a b =>
      k_extra "my go"
      all_goals first
        | with_reducible assumption
        | assumption
        | (rw [if_neg (by assumption)]; exact .inl ⟨hat, .inl hmv⟩)
        | (rw [if_pos (by assumption)]; exact .inl ⟨zero_at X, .inr rfl⟩)
        | skip
  · intro yg tups hat hzz hot
    intro Dg h tk F₂ N₂ off
    have of1 := off1_nel off
    dsimp only [List.map, List.cons_append, List.nil_append, List.map_append] at of1
    simp only [List.cons_append, List.nil_append, List.map_cons, List.map_nil] at N₂ hot
    rw [range_map (by simp [hly]), List.append_nil] at hat
    have hot2 : OwnOff tups [X1, DX, D1] := fun p hp b hb => hot p hp b (by simp only [List.mem_cons, List.not_mem_nil, or_false] at hb ⊢; rcases hb with rfl | rfl | rfl <;> simp)
    clear kF kN
    cases nm with
    | none =>
      have hav' : av = .none := hav
      subst hav'
      k_extra "my go"
      rename Fr _ _ _ _ => kF
      rename News _ _ _ _ => kN
      refine hret _ yg _ _ (stays_all hhb kF.keep hos fun q hq => (kN q ?_).1) ⟨_, _, _, _, _, _, _, _, _, _, fresh_all hhb kN (.head _) ?_, fresh_all hhb kN (.tail _ (.head _)) ?_, fresh_all hhb kN (.tail _ (.tail _ (.head _))) ?_, (kN _ (.head _)).1, (kN _ (.tail _ (.head _))).1, (kN _ (.tail _ (.tail _ (.head _)))).1, rfl, fun _ e => nomatch e⟩ (hat.at kF.keep (fun q hq => kN q (by repeat (first | exact hq | refine List.Mem.tail _ ?_))) (L := _)) fun y hy => (hzz y hy).imp id fun h b e => by
        obtain ⟨o, ho⟩ := h b e
        refine fresh_all hhb kN (o := o) (by repeat (first | exact ho | refine List.Mem.tail _ ?_)) fun q => ?_
        simp only [List.map_cons, List.map_nil] at q
        exact absurd rfl (hot2 _ ho _ q)
      · revert q; k_extra "my am"
      all_goals
        k_extra "my nm"
    | some V2 =>
      obtain ⟨AD, oA, rfl, hlo, hAD, hD⟩ := hav
      k_extra "my go"
      rename Fr _ _ _ _ => kF
      rename News _ _ _ _ => kN
      rename Obj.IsDictOf _ _ _ => hD9
      rename (_ == sysModules) = false => hlo9
      refine hret _ yg _ _ (stays_all hhb kF.keep hos fun q hq => (kN q ?_).1) ⟨_, _, _, _, _, _, _, _, _, _, fresh_all hhb kN (.tail _ (.head _)) ?_, fresh_all hhb kN (.tail _ (.tail _ (.head _))) ?_, fresh_all hhb kN (.tail _ (.tail _ (.tail _ (.head _)))) ?_, (kN _ (.tail _ (.head _))).1, (kN _ (.tail _ (.tail _ (.head _)))).1, (kN _ (.tail _ (.tail _ (.tail _ (.head _))))).1, ⟨_, _, rfl, hlo9, (kN _ (.head _)).1, hD9⟩, fun _ _ => ⟨_, rfl, fresh_all hhb kN (.head _) ?_⟩⟩ (hat.at kF.keep (fun q hq => kN q (by repeat (first | exact hq | refine List.Mem.tail _ ?_))) (L := _)) fun y hy => (hzz y hy).imp id fun h b e => by
        obtain ⟨o, ho⟩ := h b e
        refine fresh_all hhb kN (o := o) (by repeat (first | exact ho | refine List.Mem.tail _ ?_)) fun q => ?_
        simp only [List.map_cons, List.map_nil] at q
        exact absurd rfl (hot2 _ ho _ q)
      · revert q; k_extra "my am"
      all_goals
        k_extra "my nm"
  · intro i v I oI C oC Dd yq m₂ h tk E' tups hi' hv hC hx F₂ N₂ off ne ho
    obtain ⟨d, hd', hat⟩ := ha.get (by simpa using hv)
    have hda := hd d (List.mem_of_getElem? hd')
    have hat2 := hat.at (L := 0) (fun _ _ e => e) (fun _ h => nomatch h)
    have of1 := (off3_nel off ne).1
    have of2 := (off3_nel off ne).2.1
    have of3 := (off3_nel off ne).2.2
    clear ne
    dsimp only [List.map, List.cons_append, List.nil_append, List.map_append] at of1 of2 of3
    simp only [List.cons_append, List.nil_append, List.map_cons, List.map_nil] at N₂ ho
    rw [show ds.getD i .no = d by simp [hd']]
    have hmv : v ∈ ys := List.mem_of_getElem? (by simpa using hv)
    have hdr : ∀ a b, d = .pr a b → 0 < b → -1048576 < a ∧ a < 1048576 ∧ b < 1024 := fun a b e h => by have := hda a b e; omega
    clear kF kN
    have hbr : ¬ p < -5001 := by with_reducible assumption
    unfold rtD; rw [if_neg hbr]
    have hbq := hpp hbr
    k_extra "my go"
    all_goals first
      | with_reducible assumption
      | assumption
      | (rename (_ ∧ _) ∨ FAt _ _ _ _ => hA; rcases hA with ⟨e1, e2⟩ | hF; (left; rw [e2, e1]; exact ⟨hat, .inl hmv⟩); (right; exact hF))
      | skip
  · intro yg tups hat hzz hot
    intro Dg h tk F₂ N₂ off
    have of1 := off1_nel off
    dsimp only [List.map, List.cons_append, List.nil_append, List.map_append] at of1
    simp only [List.cons_append, List.nil_append, List.map_cons, List.map_nil] at N₂ hot
    rw [range_map (by simp [hly]), List.append_nil] at hat
    have hot2 : OwnOff tups [X1, DX, D1] := fun p hp b hb => hot p hp b (by simp only [List.mem_cons, List.not_mem_nil, or_false] at hb ⊢; rcases hb with rfl | rfl | rfl <;> simp)
    clear kF kN
    cases nm with
    | none =>
      have hav' : av = .none := hav
      subst hav'
      k_extra "my go"
      rename Fr _ _ _ _ => kF
      rename News _ _ _ _ => kN
      refine hret _ yg _ _ (stays_all hhb kF.keep hos fun q hq => (kN q ?_).1) ⟨_, _, _, _, _, _, _, _, _, _, fresh_all hhb kN (.head _) ?_, fresh_all hhb kN (.tail _ (.head _)) ?_, fresh_all hhb kN (.tail _ (.tail _ (.head _))) ?_, (kN _ (.head _)).1, (kN _ (.tail _ (.head _))).1, (kN _ (.tail _ (.tail _ (.head _)))).1, rfl, fun _ e => nomatch e⟩ (hat.at kF.keep (fun q hq => kN q (by repeat (first | exact hq | refine List.Mem.tail _ ?_))) (L := _)) fun y hy => (hzz y hy).imp id fun h b e => by
        obtain ⟨o, ho⟩ := h b e
        refine fresh_all hhb kN (o := o) (by repeat (first | exact ho | refine List.Mem.tail _ ?_)) fun q => ?_
        simp only [List.map_cons, List.map_nil] at q
        exact absurd rfl (hot2 _ ho _ q)
      · revert q; k_extra "my am"
      all_goals
        k_extra "my nm"
    | some V2 =>
      obtain ⟨AD, oA, rfl, hlo, hAD, hD⟩ := hav
      k_extra "my go"
      rename Fr _ _ _ _ => kF
      rename News _ _ _ _ => kN
      rename Obj.IsDictOf _ _ _ => hD9
      rename (_ == sysModules) = false => hlo9
      refine hret _ yg _ _ (stays_all hhb kF.keep hos fun q hq => (kN q ?_).1) ⟨_, _, _, _, _, _, _, _, _, _, fresh_all hhb kN (.tail _ (.head _)) ?_, fresh_all hhb kN (.tail _ (.tail _ (.head _))) ?_, fresh_all hhb kN (.tail _ (.tail _ (.tail _ (.head _)))) ?_, (kN _ (.tail _ (.head _))).1, (kN _ (.tail _ (.tail _ (.head _)))).1, (kN _ (.tail _ (.tail _ (.tail _ (.head _))))).1, ⟨_, _, rfl, hlo9, (kN _ (.head _)).1, hD9⟩, fun _ _ => ⟨_, rfl, fresh_all hhb kN (.head _) ?_⟩⟩ (hat.at kF.keep (fun q hq => kN q (by repeat (first | exact hq | refine List.Mem.tail _ ?_))) (L := _)) fun y hy => (hzz y hy).imp id fun h b e => by
        obtain ⟨o, ho⟩ := h b e
        refine fresh_all hhb kN (o := o) (by repeat (first | exact ho | refine List.Mem.tail _ ?_)) fun q => ?_
        simp only [List.map_cons, List.map_nil] at q
        exact absurd rfl (hot2 _ ho _ q)
      · revert q; k_extra "my am"
      all_goals
        k_extra "my nm"
end

section
variable {prog : Program} {w : World} {A : Around} {s : Shared} {Q E : Value → Shared → Prop}
noncomputable def rvLen (n m : Nat) : Nat := if n = 0 then 0 else max n m
set_option maxHeartbeats 4000000 in
theorem c_rl (C : Cx w A s.heap) (hR : Rm A 2) (n m : Nat) (t1 t2 : Tok) (h1 : n < 1000) (h2 : 0 < m) (h3 : m < 1000)
  (hret : ∀ t h' tk', s.heap.StaysIn h' → Q (.int (rvLen n m : Nat) t) { s with heap := h', toks := tk' }) :
  wpAny (model prog w) A (call (.ref 28) [.int n t1, .int m t2]) Q E s := by
  obtain ⟨hh, base, outer, p, loose, mean, mg, mb, B, X, T⟩ := C
  obtain ⟨ah, dp, fr, gd, un⟩ := A
  cases hh
  cases B.stack
  k_extra "my enter"
  k_extra "my go"
  all_goals (refine ret_int hret (by assumption) ?_; unfold rvLen; (repeat' split) <;> omega)
end

section
variable {prog : Program} {w : World} {A : Around} {E : Value → Shared → Prop} {s : Shared} {env : Env} {h₀ : Heap} {x : Str} {body : List Stmt} {Q : Flow → Shared → Prop}
/-- a turn that appends one value of the data to the list fl -/
noncomputable def ColD (h₀ : Heap) (L fl : Addr) (zs : List Value) (rest : List (Addr × Obj)) (x d1 d2 : Str) (m₀ : Str → Option Value) (d : D) (s : Shared) (f : Flow) (s' : Shared) : Prop :=
  f = .next ∧ ∃ h' tk' m' y n' t, s' = { s with heap := h', toks := tk' } ∧ Fr h₀ L h' m' ∧ News h₀ L h' (t ++ ((fl, listOf (zs.toArray.push y) n') :: rest)) ∧ (∀ q, q ≠ x → q ≠ d1 → q ≠ d2 → m' q = m₀ q) ∧ AtL h₀ t y d ∧ OwnOff t (fl :: rest.map (·.1))
theorem ColD.intro {L fl : Addr} {zs : List Value} {rest all : List (Addr × Obj)} {d1 d2 : Str} {m₀ m' : Str → Option Value} {d : D} {h' : Heap} {tk' n' : Nat} {y : Value} (t : List (Addr × Obj)) (F : Fr h₀ L h' m') (N : News h₀ L h' all) (hf : (fl, listOf (zs.toArray.push y) n') ∈ all) (hs : ∀ p ∈ rest, p ∈ all) (ht : ∀ p ∈ t, p ∈ all)
    (hm : ∀ q, q ≠ x → q ≠ d1 → q ≠ d2 → m' q = m₀ q) (ha : AtL h₀ t y d) (ho : OwnOff t (fl :: rest.map (·.1))) : ColD h₀ L fl zs rest x d1 d2 m₀ d s .next { s with heap := h', toks := tk' } :=
  ⟨rfl, h', tk', m', y, n', t, rfl, F, fun p hp => N p ((List.mem_append.mp hp).elim (ht p) fun h => (List.mem_cons.mp h).elim (fun e => e ▸ hf) (hs p)), hm, ha, ho⟩
theorem iter_range_col {r fl : Addr} {b₀ : Int} {t₀ u₀ v₀ : Tok} {N n₀ : Nat} {m₀ : Str → Option Value} {rest : List (Addr × Obj)} (d1 d2 : Str) (G : Nat → D)
    (hh : A.handled = none) (hr : IsRange s.heap r 0 b₀ 1 t₀ u₀ v₀) (hsmall : Builtin.Range.small 0 b₀ 1 = true) (hsz : Builtin.Range.rangeSize 0 b₀ 1 = (N : Int)) (F : Fr h₀ env.locals s.heap m₀) (NN : News h₀ env.locals s.heap ((fl, listOf ([] : List Value).toArray n₀) :: rest))
    (turn : ∀ i t u1 u2 zs n R2 h tk, i < N → zs.length = i → OwnOff R2 (fl :: rest.map (·.1)) → Fr h₀ env.locals h (fun q => if q = x then some (.int (0 + (i : Nat)) t) else if q = d1 then u1 else if q = d2 then u2 else m₀ q) → News h₀ env.locals h ((fl, listOf zs.toArray n) :: (rest ++ R2)) →
      wpAny (model prog w) A (execs body env) (ColD h₀ env.locals fl zs (rest ++ R2) x d1 d2 m₀ (G i) { s with heap := h, toks := tk }) E { s with heap := h, toks := tk })
    (done : ∀ u1 u2 u3 zs n tups h tk, AtsL h₀ tups zs ((List.range N).map G) → OwnOff tups (fl :: rest.map (·.1)) → Fr h₀ env.locals h (fun q => if q = x then u3 else if q = d1 then u1 else if q = d2 then u2 else m₀ q) → News h₀ env.locals h ((fl, listOf zs.toArray n) :: (rest ++ tups)) → Q .next { s with heap := h, toks := tk }) :
    wpAny (model prog w) A (pyIter (.ref r)) (fun it s₂ => LoopAtV prog w A h₀ env x body Q E it s₂) E s := by
  have back : ∀ {m₁ : Str → Option Value} {u : Option Value}, (∀ q, q ≠ x → q ≠ d1 → q ≠ d2 → m₁ q = m₀ q) → ∀ q, (if q = x then u else m₁ q) = if q = x then u else if q = d1 then m₁ d1 else if q = d2 then m₁ d2 else m₀ q := by
    intro m₁ u h q
    by_cases q1 : q = x
    · rw [if_pos q1, if_pos q1]
    · rw [if_neg q1, if_neg q1]
      by_cases q2 : q = d1
      · rw [if_pos q2, q2]
      · rw [if_neg q2]
        by_cases q3 : q = d2
        · rw [if_pos q3, q3]
        · rw [if_neg q3]; exact h q q1 q2 q3
  refine iter_range_J (news := (fl, listOf ([] : List Value).toArray n₀) :: rest) (fun i m nx => ∃ zs n tups, nx = (fl, listOf zs.toArray n) :: (rest ++ tups) ∧ AtsL h₀ tups zs ((List.range i).map G) ∧ OwnOff tups (fl :: rest.map (·.1)) ∧ ∀ q, q ≠ x → q ≠ d1 → q ≠ d2 → m q = m₀ q) hh hr hsmall hsz F NN
    ⟨[], n₀, [], by rw [List.append_nil], .nil, (fun _ h => nomatch h), fun _ _ _ _ => rfl⟩ ?_ ?_
  · rintro i t m₁ nx h tk own hi hoff ⟨zs, n, tups, rfl, ha, ho, hm⟩ F₁ N₁
    have hlz : zs.length = i := by rw [ha.length]; simp
    have hof : OwnOff (tups ++ own) (fl :: rest.map (·.1)) := own_app ho hoff (by intro a q; simp only [List.mem_cons, List.map_cons, List.map_append, List.mem_append] at q ⊢; rcases q with q | q <;> simp [q])
    rw [List.cons_append, List.append_assoc] at N₁
    refine wpAny_mono (turn i t (m₁ d1) (m₁ d2) zs n (tups ++ own) h tk hi hlz hof (fr_congr F₁ (back hm)) N₁) (fun f s' he => ?_) fun _ _ e => e
    obtain ⟨rfl, h', tk', m', y, n', t', rfl, F', N', hm', hy, hot⟩ := he
    have ext : (List.range (i + 1)).map G = (List.range i).map G ++ [G i] := by rw [List.range_succ, List.map_append]; rfl
    refine InvEndG.intro F' N' (nx := (fl, listOf (zs.toArray.push y) n') :: (rest ++ (t' ++ tups))) ⟨zs ++ [y], n', t' ++ tups, by rw [List.push_toArray], ?_, ?_, hm'⟩ ?_ ?_ ?_
    · rw [ext]
      exact (ha.mono fun p hp => List.mem_append_right _ hp).snoc (hy.mono fun p hp => List.mem_append_left _ hp)
    · refine own_app (fun p hp b hb => hot p hp b ?_) ho (fun _ h => h)
      simp only [List.mem_cons, List.map_append, List.mem_append] at hb ⊢
      rcases hb with q | q <;> simp [q]
    · intro p hp b hb
      simp only [List.map_cons, List.map_append, List.mem_cons, List.mem_append] at hb
      rcases hb with q | q | q | q
      · exact hoff p hp b (by simp [q])
      · exact hoff p hp b (by simp only [List.map_cons, List.map_append, List.mem_cons, List.mem_append]; exact .inr (.inl q))
      · obtain ⟨r', hr', rfl⟩ := List.mem_map.mp q
        exact Ne.symm (hot r' hr' p.1 (by simp only [List.mem_cons, List.map_append, List.mem_append]; exact .inr (.inr (.inr (List.mem_map_of_mem hp)))))
      · exact hoff p hp b (by simp only [List.map_cons, List.map_append, List.mem_cons, List.mem_append]; exact .inr (.inr q))
    · intro p hp
      simp only [List.mem_cons, List.mem_append] at hp ⊢
      rcases hp with q | q | q | q <;> simp [q]
    · intro p hp
      simp only [List.mem_cons, List.mem_append] at hp ⊢
      simp [hp]
  · rintro m₁ nx h tk ⟨zs, n, tups, rfl, ha, ho, hm⟩ F₁ N₁
    refine done (m₁ d1) (m₁ d2) (m₁ x) zs n tups h tk ha ho (fr_congr F₁ fun q => ?_) N₁
    have := back (u := m₁ x) hm q
    rw [← this]
    by_cases hq : q = x
    · rw [if_pos hq, hq]
    · rw [if_neg hq]
end
theorem avis_keeps {prog : Program} {w : World} {h h' : Heap} {av : Value} {nm : Option Addr} (x : AvIs prog w h av nm) (k : h.StaysIn h') : AvIs prog w h' av nm := by
  cases nm with
  | none => exact x
  | some V2 => obtain ⟨AD, oA, e, lo, hg, hd⟩ := x; exact ⟨AD, oA, e, lo, k _ _ hg, hd⟩
theorem AtsL.up {h h' : Heap} {ys : List Value} {ds : List D} (x : AtsL h [] ys ds) (k : h.StaysIn h') : AtsL h' [] ys ds := by
  induction x with
  | nil => exact .nil
  | cons a _ ih =>
    refine .cons ?_ ih
    rename_i d _ _ _
    cases d with
    | no => exact a
    | pr p q => obtain ⟨y, ta, tb, e, t | ⟨o, hm, _⟩⟩ := a; exact ⟨y, ta, tb, e, .inl (t.keeps k)⟩; cases hm
/-- a value that stood at the start still does -/
theorem old_at {h₀ h' : Heap} {y : Value} {d d₀ : D} (k : h₀.StaysIn h') (a : AtL h₀ [] y d₀) (b : At h' y d) : AtL h₀ [] y d := by
  cases d₀ with
  | no =>
    have e : y = .none := a
    subst e
    cases d with
    | no => rfl
    | pr p q => obtain ⟨_, _, _, e, _⟩ := b; cases e
  | pr p₀ q₀ =>
    obtain ⟨x, ta, tb, rfl, t | ⟨o, hm, _⟩⟩ := a
    · cases d with
      | no => cases (show (Value.ref x) = .none from b)
      | pr p q =>
        obtain ⟨x', ta', tb', e, o', ho', hc', n', hd'⟩ := b
        cases e
        obtain ⟨o, ho, hc, n, hd⟩ := t
        have := k _ _ ho
        rw [ho'] at this; cases this
        exact ⟨x, ta', tb', rfl, .inl ⟨o', ho, hc', n', hd'⟩⟩
    · cases hm

section
variable {prog : Program} {w : World} {A : Around} {s : Shared} {base : Heap} {outer : List Env} {p' : Program} {loose : List Str} {mean : ExcName → Option Value} {mg mb m : Str → Option Value} {env : Env} {h₀ : Heap} {L : Addr} {all : List (Addr × Obj)} {Q E : Value → Shared → Prop}
theorem rto_led {X1 DX D1 : Addr} {t1 t2 t3 t4 t5 t6 tp : Tok} {c1 : Nat} {av : Value} {ys : List Value} {ds : List D} {nm : Option Addr} {p : Int} (hh : A.handled = none) (B : Below A base outer h₀) (F : Fr h₀ L s.heap m) (N : News h₀ L s.heap all) (X : (Kh w.params).In h₀) (T : Top p' loose mean mg mb h₀)
    (hf : env.frame = some L) (hk : env.scope.kind = .function) (hR : Rm (A.deeper env) 12) (m1 : (X1, instObj 92 DX) ∈ all) (m2 : (DX, vecO w.params t1 t2 t3 t4 t5 t6 (Str.ofString "double") (.ref D1) av) ∈ all) (m3 : (D1, listOf ys.toArray c1) ∈ all)
    (ha : AtsL h₀ [] ys ds) (hd : ∀ d ∈ ds, EOk d) (hl : ds.length < 6) (hp : p = 10000 ∨ p = -10000 ∨ (-2 ≤ p ∧ p ≤ 4)) (hav : AvIs prog w h₀ av nm)
    (hret : ∀ F1 ws h' tk', s.heap.StaysIn h' → ResV prog w s.heap h' F1 ws nm → AtsAt h' ws (ds.map (rtD p)) → (∀ y ∈ ws, (y ∈ ys ∨ y = .ref 204) ∨ ∀ b, y = .ref b → s.heap.get? b = none) → Q (.ref F1) { s with heap := h', toks := tk' }) :
    wpAny (model prog w) (A.deeper env) (call (.ref 298) [.ref X1, .int p tp]) Q E s := by
  have hm : ∀ q ∈ [(X1, instObj 92 DX), (DX, vecO w.params t1 t2 t3 t4 t5 t6 (Str.ofString "double") (.ref D1) av), (D1, listOf ys.toArray c1)], q ∈ all := by
    intro q hq
    simp only [List.mem_cons, List.not_mem_nil, or_false] at hq
    rcases hq with rfl | rfl | rfl <;> assumption
  have F' := fr_hides F N hm
  exact c_rto rfl (cxo_push hh B F N hm X T hf hk) hR (fun q hq => (N q (hm q hq)).1) (ha.up F'.keep) hd hl hp (avis_keeps hav F'.keep) hret
/-- one value rounded, in a loop -/
theorem one_led {X1 DX D1 : Addr} {t1 t2 t3 t4 t5 t6 tp : Tok} {c1 : Nat} {v : Value} {d : D} {p : Int} (hh : A.handled = none) (B : Below A base outer h₀) (F : Fr h₀ L s.heap m) (N : News h₀ L s.heap all) (X : (Kh w.params).In h₀) (T : Top p' loose mean mg mb h₀)
    (hf : env.frame = some L) (hk : env.scope.kind = .function) (hR : Rm (A.deeper env) 12) (m1 : (X1, instObj 92 DX) ∈ all) (m2 : (DX, vecO w.params t1 t2 t3 t4 t5 t6 (Str.ofString "double") (.ref D1) .none) ∈ all) (m3 : (D1, listOf #[v] c1) ∈ all)
    (ha : AtL h₀ [] v d) (hd : EOk d) (hp : p = 10000 ∨ p = -10000 ∨ (-2 ≤ p ∧ p ≤ 4))
    (kA : ∀ F1 DF DI y u1 u2 u3 u4 u5 u6 n h' tk', Fr h₀ L h' m → News h₀ L h' ((F1, instObj 92 DF) :: (DF, vecO w.params u1 u2 u3 u4 u5 u6 (Str.ofString "double") (.ref DI) .none) :: (DI, listOf #[y] n) :: all) → AtL h₀ [] y (rtD p d) →
      NeAll F1 all → NeAll DF all → NeAll DI all → Q (.ref F1) { s with heap := h', toks := tk' })
    (kB : ∀ F1 DF DI y u1 u2 u3 u4 u5 u6 n b o h' tk', Fr h₀ L h' m → News h₀ L h' ((F1, instObj 92 DF) :: (DF, vecO w.params u1 u2 u3 u4 u5 u6 (Str.ofString "double") (.ref DI) .none) :: (DI, listOf #[y] n) :: (b, o) :: all) → AtL h₀ [(b, o)] y (rtD p d) →
      NeAll F1 all → NeAll DF all → NeAll DI all → NeAll b all → Q (.ref F1) { s with heap := h', toks := tk' }) :
    wpAny (model prog w) (A.deeper env) (call (.ref 298) [.ref X1, .int p tp]) Q E s := by
  refine rto_led (nm := none) (ys := [v]) (ds := [d]) hh B F N X T hf hk hR m1 m2 m3 (.cons ha .nil) (fun d' h => (List.mem_singleton.mp h) ▸ hd) (by simp) hp rfl ?_
  rintro F1 ws h' tk' k' ⟨DF, DI, u1, u2, u3, u4, u5, u6, n, av', f1, f2, f3, g1, g2, g3, hv, -⟩ hA hz
  cases hv
  cases hA with
  | cons hy hA =>
    rename_i y ys'
    cases hA
    have hzy := hz y List.mem_cons_self
    have n1 := ne_fresh N f1
    have n2 := ne_fresh N f2
    have n3 := ne_fresh N f3
    have F' := F.keeps k'
    have N3 := news_fresh F N k' f3 g3
    have N1 := news_add F (news_add F N3 f2 g2) f1 g1
    have old : AtL h₀ [] y (rtD p d) → Q (.ref F1) { s with heap := h', toks := tk' } := fun a => kA _ _ _ _ _ _ _ _ _ _ _ _ _ F' N1 a n1 n2 n3
    rcases hzy with (q | q) | q
    · rw [List.mem_singleton.mp q] at hy old
      exact old (old_at F'.keep ha hy)
    · rw [q] at hy old
      exact old (old_at F'.keep (zero_at X) hy)
    · cases e : rtD p d with
      | no =>
        rw [e] at hy old
        exact old hy
      | pr a b =>
        have hy2 := hy
        rw [e] at hy2
        obtain ⟨x, ta, tb, rfl, o, ho, hc, n', hdd⟩ := hy2
        have fx := q x rfl
        refine kB F1 DF DI _ u1 u2 u3 u4 u5 u6 n x o h' tk' F' ?_ (by rw [e]; exact ⟨x, ta, tb, rfl, .inr ⟨o, List.mem_cons_self, hc, n', hdd⟩⟩) n1 n2 n3 (ne_fresh N fx)
        have N4 := news_add F N1 fx ho
        intro z hz
        refine N4 z ?_
        simp only [List.mem_cons] at hz ⊢
        rcases hz with q | q | q | q | q <;> simp [q]
end
theorem NeAll.mem {c : Addr} : ∀ {l : List (Addr × Obj)}, NeAll c l → ∀ p ∈ l, p.1 ≠ c
  | [], _, _, h => nomatch h
  | _ :: _, x, p, h => by
    rcases List.mem_cons.mp h with rfl | h
    · exact x.1
    · exact NeAll.mem x.2 p h
theorem own_one {b fl : Addr} {o : Obj} {l l' : List (Addr × Obj)} (h : NeAll b l) (hf : ∃ x, (fl, x) ∈ l) (hs : ∀ p ∈ l', p ∈ l) : OwnOff [(b, o)] (fl :: l'.map (·.1)) := fun p hp a ha => by
  rw [List.mem_singleton.mp hp]
  rcases List.mem_cons.mp ha with rfl | ha
  · exact Ne.symm (h.mem _ hf.choose_spec)
  · obtain ⟨r, hr, rfl⟩ := List.mem_map.mp ha
    exact Ne.symm (h.mem r (hs r hr))
structure Idx : Prop where
section
variable {prog : Program} {w : World} {A : Around} {s : Shared} {Q E : Value → Shared → Prop}
end
theorem word_82 : True := by
  k_with "my idx" => (((with_reducible show wpAny _ _ (subscriptTail _ _ (Value.ref _) (Value.int _ _)) _ _ _); (rename Idx => hI9); (k_dflt (first | ((rename News _ _ _ _ => kN9); (refine kba_turn (value' := PySem.Expr.Name (PySem.Str.ofString "_") ⟨0, 0, 0, 0⟩) (fun _ => rfl) ?_); (refine item_listL (by exact ledger_list kN9 (by k_mem)) (by first | with_reducible assumption | decide) (by first | with_reducible assumption | decide) (by with_reducible assumption) ?_)) | (refine Stop.out ?_)))))
  trivial
theorem word_83 : True := by
  k_with "my subscriptTail" => (k_extra "my idx")
  trivial
theorem word_84 : True := by
  k_with "my subscriptTail Name Constant ref int" => (k_extra "my idx")
  trivial
local macro_rules | `(tactic| walk_at "subscriptTail Name BinOp ref int") => `(tactic| k_extra "my subscriptTail Name BinOp ref int")
theorem word_85 : True := by
  k_with "my subscriptTail Name BinOp ref int" => (k_extra "my idx")
  trivial
theorem word_86 : True := by
  k_with "my call ref" => (((with_reducible show wpAny _ _ (call (Value.ref 28) _) _ _ _); (k_dflt ((refine c_rl (by k_extra "my cx") (by k_extra "my rm") _ _ _ _ (by omega) (by omega) (by omega) ?_); (intro t'9m h'9m tk'9m k'9m); k_extra "my kp"))))
  trivial
theorem word_87 : True := by
  k_with "my call ref" => (((with_reducible show wpAny _ _ (call (Value.ref 298) _) _ _ _); (k_dflt ((rename Hand => hHand9m); (refine Stop.out ?_)))))
  trivial
section
variable {prog : Program} {w : World} {A : Around} {s : Shared} {Q E : Value → Shared → Prop}
theorem fm (i m : Nat) : Int.fmod (0 + (i : Int)) (m : Int) = ((i % m : Nat) : Int) := by rw [Int.zero_add]; cases i <;> rfl
noncomputable def gD (ds : List D) (k : Option Int) (j : Nat) : D := match k with | none => .no | some p => rtD p (ds.getD j .no)
noncomputable def rvD (ds : List D) (ks : List (Option Int)) : List D := (List.range (rvLen ds.length ks.length)).map fun i => gD ds (ks.getD (i % ks.length) none) (i % ds.length)
theorem resv_up {h₀ h h' : Heap} {F1 : Addr} {ws : List Value} {nm : Option Addr} (k : h₀.StaysIn h) (x : ResV prog w h h' F1 ws nm) : ResV prog w h₀ h' F1 ws nm := by
  have up : ∀ {b}, h.get? b = none → h₀.get? b = none := fun {b} e => by
    cases q : h₀.get? b with
    | none => rfl
    | some o => have := k _ _ q; rw [e] at this; cases this
  obtain ⟨DF, DI, t1, t2, t3, t4, t5, t6, n, av, f1, f2, f3, g1, g2, g3, hv, hn⟩ := x
  exact ⟨DF, DI, t1, t2, t3, t4, t5, t6, n, av, up f1, up f2, up f3, g1, g2, g3, hv, fun V2 e => let ⟨AD, e1, e2⟩ := hn V2 e; ⟨AD, e1, up e2⟩⟩
theorem rvLen_one (n : Nat) : rvLen n 1 = n := by unfold rvLen; split <;> omega
theorem rvD_one (ds : List D) (p : Int) : rvD ds [some p] = ds.map (rtD p) := by
  unfold rvD gD
  simp only [List.length_singleton, rvLen_one, Nat.mod_one]
  refine List.ext_getElem? fun i => ?_
  by_cases q : i < ds.length
  · simp [q, Nat.mod_eq_of_lt q]
  · simp [Nat.not_lt.mp q]
end

theorem up_eq (a : Int) : ∀ n, up a n = a * 10 ^ n
  | 0 => by simp [up]
  | n + 1 => by rw [up, up_eq a n, Int.pow_succ, Int.mul_assoc]
theorem fin_rounded (a b q : Int) : roundedD a b q = finD a b q := by
  unfold roundedD finD
  by_cases h1 : 0 < q
  · have e : q.natAbs = q.toNat := by omega
    rw [if_pos (by omega), if_pos h1, up_eq, e]
    rfl
  · rw [if_neg h1]
    by_cases h0 : q = 0
    · subst h0
      rw [if_pos (by omega)]
      simp [up_eq]
    · have e : q.natAbs = (0 - q).toNat := by omega
      rw [if_neg (by omega), up_eq, e]
/-- one number at one count: what the program's way gives is what the law asks -/
theorem due_at {d g : D} (hd : EOk d) (hg : GOk g) : (match cnt g with | none => D.no | some p => rtD p d) = dueD d g := by
  cases g with
  | no => rfl
  | pr g0 g1 =>
    obtain ⟨_, _, hg⟩ := hg g0 g1 rfl
    unfold dueD cnt
    rcases hg with ⟨rfl, rfl | rfl | rfl⟩ | ⟨h1, h2, h3, h4⟩
    · rfl
    · cases d with
      | no => rfl
      | pr a b => simp [rtD, rheD]
    · cases d with
      | no => rfl
      | pr a b =>
        rcases hd a b rfl with rfl | ⟨hb, _⟩
        · rfl
        · have hb0 : b ≠ 0 := by omega
          simp [rtD, hb, hb0]
    · have h5 : g1 ≠ 0 := by omega
      have h6 : ¬ (2 * g0 + g1).fdiv (2 * g1) < -5001 := by omega
      have h7 : ¬ 308 < (2 * g0 + g1).fdiv (2 * g1) := by omega
      simp only [h5, and_false, if_false, rtD, h6]
      cases d with
      | no => rfl
      | pr a b =>
        rcases hd a b rfl with rfl | ⟨hb, _⟩
        · rfl
        · have hb0 : b ≠ 0 := by omega
          simp only [rheD, hb, h7, hb0, or_self, if_true, if_false, fin_rounded]
theorem ok_getD {ds : List D} {P : D → Prop} (hd : ∀ d ∈ ds, P d) {i : Nat} (hi : i < ds.length) : P (ds.getD i .no) := by
  have e : ds.getD i .no = ds[i] := by simp [List.getD, hi]
  rw [e]; exact hd _ (List.getElem_mem hi)
theorem rv_due {ds gs : List D} (hd : ∀ d ∈ ds, EOk d) (hg : ∀ d ∈ gs, GOk d) (h0 : 0 < gs.length) :
    rvD ds (gs.map cnt) = (List.range (rvLen ds.length gs.length)).map fun i => dueD (ds.getD (i % ds.length) .no) (gs.getD (i % gs.length) .no) := by
  unfold rvD
  rw [List.length_map]
  refine List.map_congr_left fun i hi => ?_
  have hi' : i < rvLen ds.length gs.length := List.mem_range.mp hi
  have hds : 0 < ds.length := by
    unfold rvLen at hi'
    split at hi' <;> omega
  have b1 : i % gs.length < gs.length := Nat.mod_lt _ h0
  have b2 : i % ds.length < ds.length := Nat.mod_lt _ hds
  rw [← due_at (ok_getD hd b2) (ok_getD hg b1)]
  unfold gD
  have e : (gs.map cnt).getD (i % gs.length) none = cnt (gs.getD (i % gs.length) .no) := by
    simp [List.getD, b1]
  rw [e]; try rfl
theorem kgo {gs : List D} (hg : ∀ d ∈ gs, GOk d) : ∀ k ∈ gs.map cnt, ∀ p, k = some p → (p = 10000 ∨ p = -10000 ∨ (-2 ≤ p ∧ p ≤ 4)) := by
  intro k hk p e
  obtain ⟨g, hm, rfl⟩ := List.mem_map.mp hk
  cases g with
  | no => cases e
  | pr g0 g1 =>
    obtain ⟨_, _, h⟩ := hg _ hm g0 g1 rfl
    unfold cnt at e
    rcases h with ⟨rfl, rfl | rfl | rfl⟩ | ⟨h1, h2, h3, h4⟩
    · cases e
    · cases e; exact .inl rfl
    · cases e; exact .inr (.inl rfl)
    · have h5 : g1 ≠ 0 := by omega
      simp only [h5, and_false, if_false, Option.some.injEq] at e
      omega

structure HandB : Prop where
theorem isT_false {M : Model} {A : Around} {mb : Sem Bool} {Q : Bool → Shared → Prop} {E : Value → Shared → Prop} {s : Shared} (h : wpAny M A mb (fun b s' => b = false ∧ ∃ tk, s' = { s with toks := tk }) E s) (k : ∀ tk, Q false { s with toks := tk }) : wpAny M A mb Q E s :=
  wpAny_mono h (fun b s' ⟨e1, tk, e2⟩ => by subst e1 e2; exact k tk) fun _ _ e => e
local macro_rules | `(tactic| walk_at "isTrue BoolOp") => `(tactic| k_extra "my isTrue BoolOp")
theorem word_88 : True := by
  k_with "my isTrue BoolOp" => (((rename HandB => hHand9m); (refine Stop.out ?_)))
  trivial
section
variable {prog : Program} {w : World} {A : Around} {s : Shared} {Q E : Value → Shared → Prop}
set_option maxHeartbeats 4000000 in
theorem c_rv {X1 DX D1 PL : Addr} {t1 t2 t3 t4 t5 t6 tn : Tok} {c1 c2 : Nat} {av : Value} {ys ws : List Value} {ds : List D} {ks : List (Option Int)} {nm : Option Addr} {hb : Heap} (hhb : hb = hideAll s.heap ([(X1, instObj 92 DX), (DX, vecO w.params t1 t2 t3 t4 t5 t6 (Str.ofString "double") (.ref D1) av), (D1, listOf ys.toArray c1), (PL, listOf ws.toArray c2)].map (·.1))) (C : Cx w A hb) (hR : Rm A 16)
  (hos : ∀ q ∈ [(X1, instObj 92 DX), (DX, vecO w.params t1 t2 t3 t4 t5 t6 (Str.ofString "double") (.ref D1) av), (D1, listOf ys.toArray c1), (PL, listOf ws.toArray c2)], s.heap.get? q.1 = some q.2)
  (ha : AtsL hb [] ys ds) (hd : ∀ d ∈ ds, EOk d) (hl : ds.length < 6) (hk : CntAre ws ks) (hks : ∀ k ∈ ks, ∀ p, k = some p → (p = 10000 ∨ p = -10000 ∨ (-2 ≤ p ∧ p ≤ 4))) (hk0 : 0 < ks.length) (hk4 : ks.length < 4) (hav : AvIs prog w hb av nm)
  (hret : ∀ F1 ws h' tk', s.heap.StaysIn h' → ResV prog w s.heap h' F1 ws (if rvLen ds.length ks.length = ds.length then nm else none) → AtsAt h' ws (rvD ds ks) → Q (.ref F1) { s with heap := h', toks := tk' }) :
  wpAny (model prog w) A (call (.ref 331) [.str (Str.ofString "round") tn, .ref X1, .ref PL]) Q E s := by
  obtain ⟨hh, base, outer, p', loose, mean, mg, mb, B, X, T⟩ := C
  obtain ⟨ah, dp, fr, gd, un⟩ := A
  obtain ⟨sh, sg, sd, st, so⟩ := s
  dsimp only at hhb hos hret
  cases hh
  cases B.stack
  have hly : ys.length = ds.length := ha.length
  have hlw : ws.length = ks.length := hk.length
  obtain ⟨k0, hk00⟩ : ∃ k0, ks[0]? = some k0 := ⟨_, List.getElem?_eq_getElem hk0⟩
  obtain ⟨v0, hv0, hv0'⟩ := hk.get hk00
  replace hv0 : ws[(0 : Int).toNat]? = some v0 := hv0
  have hI0 : Idx := ⟨⟩
  have hks0 := hks k0 (List.mem_of_getElem? hk00)
  have hHand : Hand := ⟨⟩
  have hB0 : HandB := ⟨⟩
  k_extra "my enterO"
  k_extra "my go"
  unfold Stop
  rename HandB => hB0
  clear hB0
  by_cases hcase : ks.length = 1 ∧ ∃ p, k0 = some p
  · obtain ⟨h1, p, rfl⟩ := hcase
    rcases hv0' with ⟨e, _⟩ | ⟨p', t, e, rfl⟩
    · cases e
    cases e
    k_extra "my go"
    all_goals try (exact absurd (show (ws.length : Int) = 1 by omega) (by assumption))
    unfold Stop
    rename Fr _ _ _ _ => kF
    rename News _ _ _ _ => kN
    rename Rm _ _ => kR
    refine rto_led (nm := nm) rfl B kF kN X T rfl rfl (by first | exact kR.deeper (by decide) | exact Rm.deeper2 kR (by decide)) (by k_mem) (by k_mem) (by k_mem) ha hd hl (hks0 _ rfl) hav ?_
    intro F1 ws' h' tk' k' hV hA _
    obtain ⟨k1, e1⟩ := List.length_eq_one_iff.mp h1
    subst e1
    cases hk00
    rw [List.length_singleton, rvLen_one, if_pos rfl, rvD_one] at hret
    have k2 := stays_all hhb kF.keep hos fun q hq => (kN q (by revert q; k_extra "my am")).1
    exact hret F1 ws' h' tk' (fun b o e => k' _ _ (k2 _ _ e)) (resv_up k2 hV) hA
  · refine isT_false ?_ fun tk => ?_
    · rcases hv0' with ⟨rfl, rfl⟩ | ⟨p, t, rfl, rfl⟩ <;> k_extra "my go"
      all_goals first
        | exact ⟨rfl, _, rfl⟩
        | exact absurd ⟨by omega, _, rfl⟩ hcase
    clear hcase hv0' hv0 hks0
    k_extra "my go"
    unfold Stop
    rename IsRange _ _ _ _ _ _ _ _ => hr
    rename Fr _ _ _ _ => kF
    rename News _ _ _ _ => kN
    have hrl : rvLen ys.length ws.length ≤ 5 := by unfold rvLen; split <;> omega
    refine iter_range_col (N := rvLen ys.length ws.length) (Str.ofString "digits") (Str.ofString "one") (fun i => gD ds (ks.getD (i % ws.length) none) (i % ys.length)) rfl hr (small_one (by omega) (by omega) (by omega) (by omega)) (by rw [rangeSize_nat]; omega) kF kN ?_ ?_
    · intro i t u1 u2 zs n R2 h tk hi hlz hoff F₂ N₂
      simp only [List.cons_append, List.nil_append, List.map_cons, List.map_nil] at N₂ hoff
      have hds0 : 0 < ys.length := by unfold rvLen at hi; split at hi <;> omega
      have hm1 : i % ws.length < ws.length := Nat.mod_lt _ (by omega)
      have hm2 : i % ys.length < ys.length := Nat.mod_lt _ hds0
      obtain ⟨k, hk'⟩ : ∃ k, ks[i % ws.length]? = some k := ⟨_, List.getElem?_eq_getElem (by omega)⟩
      obtain ⟨v, hv, hvk⟩ := hk.get hk'
      obtain ⟨z, hz⟩ : ∃ z, ys[i % ys.length]? = some z := ⟨_, List.getElem?_eq_getElem hm2⟩
      obtain ⟨d, hd', hat⟩ := ha.get hz
      have hks' := hks k (List.mem_of_getElem? hk')
      have hdd := hd d (List.mem_of_getElem? hd')
      replace hv : ws[((0 + (i : Int)).fmod (ws.length : Int)).toNat]? = some v := by rw [fm]; exact hv
      replace hz : ys[((0 + (i : Int)).fmod (ys.length : Int)).toNat]? = some z := by rw [fm]; exact hz
      have b1 : 0 ≤ (0 + (i : Int)).fmod (ws.length : Int) := by rw [fm]; omega
      have b2 : (0 + (i : Int)).fmod (ws.length : Int) < 2 ^ 63 := by rw [fm]; omega
      have b3 : 0 ≤ (0 + (i : Int)).fmod (ys.length : Int) := by rw [fm]; omega
      have b4 : (0 + (i : Int)).fmod (ys.length : Int) < 2 ^ 63 := by rw [fm]; omega
      rw [show ks.getD (i % ws.length) none = k by simp [hk']]
      clear kF kN hr
      rcases hvk with ⟨rfl, rfl⟩ | ⟨p, t, rfl, rfl⟩
      · k_extra "my go"
        rename Fr _ _ _ _ => kF
        rename News _ _ _ _ => kN
        refine ColD.intro [] kF kN (by k_mem) (fun q hq => ?_) (fun _ h => nomatch h) (fun q h1 h2 h3 => ?_) rfl (fun _ h => nomatch h)
        · repeat (first | exact hq | refine List.Mem.tail _ ?_)
        · simp only [h1, h2, h3, if_false]
      · k_extra "my go"
        unfold Stop
        rename Fr _ _ _ _ => kF
        rename News _ _ _ _ => kN
        rename Rm _ _ => kR
        refine one_led rfl B kF kN X T rfl rfl (by first | exact kR.deeper (by decide) | exact Rm.deeper2 kR (by decide)) (by k_mem) (by k_mem) (by k_mem) hat hdd (hks' _ rfl) ?_ ?_
        · intro F1 DF DI y u1 u2 u3 u4 u5 u6 n h' tk' kF2 kN2 hay n1 n2 n3
          k_lt n1; k_lt n2; k_lt n3
          have hy0 : [y][(0 : Int).toNat]? = some y := rfl
          clear kF kN
          k_extra "my go"
          rename Fr _ _ _ _ => kF
          rename News _ _ _ _ => kN
          refine ColD.intro [] kF kN (by k_mem) (fun q hq => ?_) (fun _ h => nomatch h) (fun q h1 h2 h3 => ?_) ?_ (fun _ h => nomatch h)
          · repeat (first | exact hq | refine List.Mem.tail _ ?_)
          · simp only [h1, h2, h3, if_false]
          · simp only [gD, List.getD_eq_getElem?_getD, hd', Option.getD_some]; exact hay
        · intro F1 DF DI y u1 u2 u3 u4 u5 u6 n b o h' tk' kF2 kN2 hay n1 n2 n3 n4
          have n5 := n4
          k_lt n1; k_lt n2; k_lt n3; k_lt n4
          have hy0 : [y][(0 : Int).toNat]? = some y := rfl
          clear kF kN
          k_extra "my go"
          rename Fr _ _ _ _ => kF
          rename News _ _ _ _ => kN
          refine ColD.intro [(b, o)] kF kN (by k_mem) (fun q hq => ?_) (fun q hq => ?_) (fun q h1 h2 h3 => ?_) ?_ ?_
          · repeat (first | exact hq | refine List.Mem.tail _ ?_)
          · rw [List.mem_singleton.mp hq]; k_mem
          · simp only [h1, h2, h3, if_false]
          · simp only [gD, List.getD_eq_getElem?_getD, hd', Option.getD_some]; exact hay
          · exact own_one n5 ⟨_, by k_mem⟩ (fun p hp => by repeat (first | exact hp | refine List.Mem.tail _ ?_))
    · intro u1 u2 u3 zs n tups h tk hat hot F₂ N₂
      simp only [List.cons_append, List.nil_append, List.map_cons, List.map_nil] at N₂ hot
      have hlz : zs.length = rvLen ys.length ws.length := by rw [hat.length]; simp
      have hz5 : zs.length ≤ 5 := by omega
      clear kF kN hr
      rw [hlw, hly] at hlz hat
      cases nm with
      | none =>
        have hav' : av = .none := hav
        subst hav'
        rw [ite_self] at hret
        k_extra "my go"
        all_goals
          rename Fr _ _ _ _ => kF
          rename News _ _ _ _ => kN
          refine hret _ zs _ _ (stays_all hhb kF.keep hos fun q hq => (kN q ?_).1) ⟨_, _, _, _, _, _, _, _, _, _, fresh_all hhb kN (.head _) ?_, fresh_all hhb kN (.tail _ (.head _)) ?_, fresh_all hhb kN (.tail _ (.tail _ (.head _))) ?_, (kN _ (.head _)).1, (kN _ (.tail _ (.head _))).1, (kN _ (.tail _ (.tail _ (.head _)))).1, rfl, fun _ e => nomatch e⟩ (hat.at kF.keep (fun q hq => kN q (by repeat (first | exact hq | refine List.Mem.tail _ ?_))) (L := _))
          · revert q; k_extra "my am"
          all_goals
            k_extra "my nm"
      | some V2 =>
        obtain ⟨AD, oA, rfl, hlo, hAD, hD⟩ := hav
        k_extra "my go"
        · rename Fr _ _ _ _ => kF
          rename News _ _ _ _ => kN
          rename Obj.IsDictOf _ _ _ => hD9
          rename (_ == sysModules) = false => hlo9
          rw [if_pos (show rvLen ds.length ks.length = ds.length by omega)] at hret
          refine hret _ zs _ _ (stays_all hhb kF.keep hos fun q hq => (kN q ?_).1) ⟨_, _, _, _, _, _, _, _, _, _, fresh_all hhb kN (.tail _ (.head _)) ?_, fresh_all hhb kN (.tail _ (.tail _ (.head _))) ?_, fresh_all hhb kN (.tail _ (.tail _ (.tail _ (.head _)))) ?_, (kN _ (.tail _ (.head _))).1, (kN _ (.tail _ (.tail _ (.head _)))).1, (kN _ (.tail _ (.tail _ (.tail _ (.head _))))).1, ⟨_, _, rfl, hlo9, (kN _ (.head _)).1, hD9⟩, fun _ _ => ⟨_, rfl, fresh_all hhb kN (.head _) ?_⟩⟩ (hat.at kF.keep (fun q hq => kN q (by repeat (first | exact hq | refine List.Mem.tail _ ?_))) (L := _))
          · revert q; k_extra "my am"
          all_goals
            k_extra "my nm"
        · rename Fr _ _ _ _ => kF
          rename News _ _ _ _ => kN
          rw [if_neg (show ¬ rvLen ds.length ks.length = ds.length by omega)] at hret
          refine hret _ zs _ _ (stays_all hhb kF.keep hos fun q hq => (kN q ?_).1) ⟨_, _, _, _, _, _, _, _, _, _, fresh_all hhb kN (.head _) ?_, fresh_all hhb kN (.tail _ (.head _)) ?_, fresh_all hhb kN (.tail _ (.tail _ (.head _))) ?_, (kN _ (.head _)).1, (kN _ (.tail _ (.head _))).1, (kN _ (.tail _ (.tail _ (.head _)))).1, rfl, fun _ e => nomatch e⟩ (hat.at kF.keep (fun q hq => kN q (by repeat (first | exact hq | refine List.Mem.tail _ ?_))) (L := _))
          · revert q; k_extra "my am"
          all_goals
            k_extra "my nm"
end

noncomputable def D.pd : D → PyData
  | .no => .none
  | .pr a b => .tuple [.int a, .int b]
theorem At.reads {h : Heap} {v : Value} {d : D} (a : At h v d) : Reads h v d.pd [] := by
  cases d with
  | no => rw [show v = .none from a]; exact .none
  | pr x y => obtain ⟨b, ta, tb, rfl, t⟩ := a; exact tup_reads t
theorem AtsAt.reads {h : Heap} {ys : List Value} {ds : List D} (a : AtsAt h ys ds) : ReadsAll h ys (ds.map D.pd) [] := by
  induction a with
  | nil => exact .nil
  | cons a _ ih => exact .cons a.reads ih
theorem AtsAt.list {h : Heap} {l : Addr} {ys : List Value} {ds : List D} {n : Nat} (a : AtsAt h ys ds) (e : h.get? l = some (listOf ys.toArray n)) : Reads h (.ref l) (.list (ds.map D.pd)) [l] := .list e rfl rfl (by simpa using a.reads)
theorem eqv_pd (a b : D) : PyData.eqv a.pd b.pd = decide (a = b) := by
  cases a <;> cases b <;> simp [D.pd, PyData.eqv, PyData.eqvAll]
  rfl
theorem eqv_pds : ∀ as bs : List D, PyData.eqv (.list (as.map D.pd)) (.list (bs.map D.pd)) = decide (as = bs)
  | [], [] => by simp [PyData.eqv, PyData.eqvAll]
  | [], _ :: _ => by simp [PyData.eqv, PyData.eqvAll]
  | _ :: _, [] => by simp [PyData.eqv, PyData.eqvAll]
  | a :: as, b :: bs => by
    have ih := eqv_pds as bs
    simp only [PyData.eqv] at ih
    simp only [List.map_cons, PyData.eqv, PyData.eqvAll, eqv_pd, ih]
    simp [List.cons_eq_cons]
theorem shaped_all : ∀ as : List D, PyData.canLayAll0 (as.map D.pd) = true ∧ PyData.depthAll (as.map D.pd) ≤ 1
  | [] => ⟨rfl, Nat.zero_le _⟩
  | a :: as => by
    obtain ⟨h1, h2⟩ := shaped_all as
    refine ⟨?_, ?_⟩
    · rw [List.map_cons]; unfold PyData.canLayAll0; rw [h1, Bool.and_true]; cases a <;> rfl
    · rw [List.map_cons]; unfold PyData.depthAll; exact Nat.max_le.mpr ⟨by cases a <;> simp [D.pd, PyData.depth, PyData.depthAll], h2⟩
theorem shaped_pds (as : List D) : PySem.SeqAt.shaped (.list (as.map D.pd)) = true := by
  obtain ⟨h1, h2⟩ := shaped_all as
  unfold PySem.SeqAt.shaped
  rw [Bool.and_eq_true]
  refine ⟨by unfold PyData.canLay0; exact h1, decide_eq_true ?_⟩
  unfold PyData.depth; omega
section
variable {prog : Program} {w : World} {A : Around} {s : Shared} {Q E : Value → Shared → Prop} {l k : Addr} {n n' : Nat} {ys zs : List Value} {as bs : List D}
theorem eq_lists (hu : A.units + 64 < cLine) (a : AtsAt s.heap ys as) (b : AtsAt s.heap zs bs) (e1 : s.heap.get? l = some (listOf ys.toArray n)) (e2 : s.heap.get? k = some (listOf zs.toArray n')) (h : Q (.bool (decide (as = bs))) s) :
    wpAny (model prog w) A (compareOp .Eq (.ref l) (.ref k)) Q E s := eq_dataH (a.list e1) (b.list e2) (shaped_pds _) (shaped_pds _) hu (by rw [eqv_pds]; exact h)
theorem ne_lists (hu : A.units + 64 < cLine) (a : AtsAt s.heap ys as) (b : AtsAt s.heap zs bs) (e1 : s.heap.get? l = some (listOf ys.toArray n)) (e2 : s.heap.get? k = some (listOf zs.toArray n')) (h : Q (.bool (!decide (as = bs))) s) :
    wpAny (model prog w) A (compareOp .NotEq (.ref l) (.ref k)) Q E s := ne_dataH (a.list e1) (b.list e2) (shaped_pds _) (shaped_pds _) hu (by rw [eqv_pds]; exact h)
end
theorem AtsL.at2 {h₀ h : Heap} {l : List (Addr × Obj)} {ys : List Value} {ds : List D} (x : AtsL h₀ l ys ds) (k : h₀.StaysIn h) (hl : ∀ p ∈ l, h.get? p.1 = some p.2) : AtsAt h ys ds := by
  induction x with
  | nil => exact .nil
  | @cons v d _ _ a _ ih =>
    refine .cons ?_ ih
    cases d with
    | no => exact a
    | pr p q =>
      obtain ⟨y, ta, tb, e, t | ⟨o, hm, c, n, hd⟩⟩ := a
      · exact ⟨y, ta, tb, e, t.keeps k⟩
      · exact ⟨y, ta, tb, e, o, hl _ hm, c, n, hd⟩
structure HandQ : Prop where
structure HandE : Prop where
structure HandS : Prop where
local macro_rules | `(tactic| walk_at "storeName") => `(tactic| k_extra "my storeName")
theorem word_89 : True := by
  k_with "my storeName" => (((rename HandS => hHand9m); (refine Stop.out ?_)))
  trivial
theorem word_90 : True := by
  k_with "my compareOp Eq ref ref" => (((rename HandQ => hHand9m); (refine Stop.out ?_)))
  trivial
local macro_rules | `(tactic| walk_at "compareOp NotEq ref ref") => `(tactic| k_extra "my compareOp NotEq ref ref")
theorem word_91 : True := by
  k_with "my compareOp NotEq ref ref" => (((rename HandQ => hHand9m); (refine Stop.out ?_)))
  trivial
local macro_rules | `(tactic| walk_at "getAttr ref") => `(tactic| k_extra "my getAttr ref")
theorem word_92 : True := by
  k_with "my getAttr ref" => (((rename HandE => hHand9m); (refine Stop.out ?_)))
  trivial

section
open PySem.Builtin PySem.Builtin.ObjectAttr
variable {prog : Program} {w : World} {A : Around} {E : Value → Shared → Prop} {s : Shared} {K : Frag} {x C L : Addr} {h₀ : Heap} {m : Str → Option Value} {pre post : List (Addr × Obj)} {name : Str} {v : Value}
theorem osaE_open {ox : Obj} {od : Option Obj} {tk : Tok} {cd : ClassData} {R : Result → Shared → Prop} (X : K.In s.heap) (I : InstAt s.heap x ox C od) (hc : clsIn K C = some cd) (hne : cd.mro.isEmpty = false) (hob : cd.mro.contains (.type "object") = true)
    (hpass : ∀ self, refuseLoop self "__setattr__" cd.mro = pure ()) (ht : takerIn K C name = some none)
    (h : ∀ b, wpAny (model prog w) A.in1 (storeInOwnDict (.ref x) (.ref C) (.str name tk) name v b)
      (fun fin s' => match fin with | .done f => R (.ok f) s' | .again c' => c'.quiet = true ∧ codeAny (model prog w) A c' R s') (fun e s' => R (.error e) s') s) :
    codeAny (model prog w) A (.call (.builtin "object.__setattr__") ⟨[.ref x, .str name tk, v], []⟩) R s := by
  have SF := PySem.F.store_object
  have sub : Looks (model prog w) s.heap (isInstance (.ref x) (.type "object")) true := I.type.andThen (looks_mroIn X (by unfold mroIn; rw [hc, Option.bind_some, if_neg (by rw [hne]; decide), hob]))
  refine codeAny_call_builtin SF.slot.plain SF.entry (@check_slot (model prog w) _ _ s "object.__setattr__" "object" "__setattr__" (.ref x) [.str name tk, v] [] _ SF.kind SF.split sub (SF.args (.ref x) (.str name tk) v) ?_)
  obtain ⟨attr, ha, hr⟩ := Option.bind_eq_some_iff.mp ht
  have hm : Looks (model prog w) s.heap (mroOf (.ref C)) cd.mro := (looks_clsIn X hc).andThen .now
  have L3 : Looks (model prog w) s.heap (storeTaker? attr) none := by
    cases attr with
    | none => exact .now
    | some a =>
      obtain ⟨b, hb, hb'⟩ := Option.map_eq_some_iff.mp hr
      refine (looks_takesIn X hb).andThen ?_
      cases b
      · exact .now
      · cases hb'
  rw [osa_eq, refuse_eq]
  refine wpAny_bind (wpAny_bind (I.type.here (wpAny_bind (hm.here ?_))))
  rw [hpass]
  refine wpAny_pure (wpAny_bind (I.type.here (wpAny_bind ((looks_findIn X ha).here (wpAny_bind (L3.here ?_))))))
  exact h _
theorem set_fresh {vs : Array Value} {sl : Array (Option Value)} {cd : ClassData} {Q : Unit → Shared → Prop} (F : Fr h₀ L s.heap m) (X₀ : K.In h₀) (N : News h₀ L s.heap (pre ++ (x, (⟨.ref C, none, .fields vs, sl⟩ : Obj)) :: post)) (h1 : ∀ p ∈ pre, p.1 ≠ x) (h2 : ∀ p ∈ post, p.1 ≠ x)
    (hs : findIn K (.ref C) "__setattr__" = some (some (.builtin "object.__setattr__"))) (hc : clsIn K C = some cd) (hne : cd.mro.isEmpty = false) (hob : cd.mro.contains (.type "object") = true)
    (hpass : ∀ self, refuseLoop self "__setattr__" cd.mro = pure ()) (hdict : cd.hasDict = true) (ht : takerIn K C name = some none)
    (h : ∀ d h', Fr h₀ L h' m → News h₀ L h' ((d, dictOf [⟨PyData.keyHash w.params name, .str name (s.toks + 1), v⟩] 1) :: (pre ++ (x, (⟨.ref C, some d, .fields vs, sl⟩ : Obj)) :: post)) → (∀ p ∈ pre ++ (x, (⟨.ref C, none, .fields vs, sl⟩ : Obj)) :: post, p.1 < d) → Q () { s with heap := h', toks := s.toks + 2 }) :
    wpAny (model prog w) A (setAttr (.ref x) name v) Q E s := by
  have hx := (N (x, (⟨.ref C, none, .fields vs, sl⟩ : Obj)) (by simp)).1
  have I : InstAt s.heap x ⟨.ref C, none, .fields vs, sl⟩ C none := ⟨hx, rfl, rfl, trivial⟩
  refine set_plain (X₀.keeps F.keep) I hs (osaE_open (s := { s with toks := s.toks + 1 }) (X₀.keeps F.keep) I hc hne hob hpass ht fun b => ?_)
  have lt := fun p (hp : p ∈ pre ++ (x, (⟨.ref C, none, .fields vs, sl⟩ : Obj)) :: post) => Heap.lt_size (N p hp).1
  have F1 := F.push emptyDict
  have N1 := News.push F N emptyDict
  obtain ⟨F2, N2⟩ := news_upd (pre := (s.heap.objs.size, emptyDict) :: pre) (f := fun o => { o with dict := some s.heap.objs.size }) (o' := ⟨.ref C, some s.heap.objs.size, .fields vs, sl⟩) F1 N1
    (fun p hp => by rcases List.mem_cons.mp hp with rfl | hp; exact Nat.ne_of_gt (lt (x, (⟨.ref C, none, .fields vs, sl⟩ : Obj)) (by simp)); exact h1 p hp) h2 rfl rfl
  have hx1 := (N1 (x, (⟨.ref C, none, .fields vs, sl⟩ : Obj)) (by simp)).1
  have D := (N2 (s.heap.objs.size, emptyDict) (by simp)).1
  obtain ⟨F3, N3⟩ := news_upd (pre := []) (d := s.heap.objs.size) (o' := dictOf [⟨PyData.keyHash w.params name, .str name (s.toks + 1), v⟩] 1) (f := Obj.putName name (PyData.keyHash w.params name) (.str name (s.toks + 1)) v) F2 N2 (fun _ h => nomatch h)
    (fun p hp => by
      have : p.1 < s.heap.objs.size := by
        rcases List.mem_append.mp hp with hp | hp
        · exact lt p (List.mem_append_left _ hp)
        · rcases List.mem_cons.mp hp with rfl | hp
          · exact lt (x, (⟨.ref C, none, .fields vs, sl⟩ : Obj)) (by simp)
          · exact lt p (List.mem_append_right _ (.tail _ hp))
      exact Nat.ne_of_lt this) (by exact putName_dict name _ _ v [] 0) rfl
  refine wpAny_bind (wpAny_pure (wpAny_bind (wpAny_bind (wpAny_loadPart hx (wpAny_bind (looks_clsIn (M := model prog w) (X₀.keeps F.keep) hc _ _ _ _ (fun _ _ e => e) ?_))))))
  rw [hdict]
  refine wpAny_bind (wpAny_alloc ?_)
  refine wpAny_bind (wpAny_update hx1 ?_)
  refine wpAny_pure (a := some s.heap.objs.size) ?_
  show wpAny _ _ (storeInDict s.heap.objs.size (.str name _) name v) _ _ _
  unfold storeInDict newKeyGuard nsSet
  refine wpAny_bind (wpAny_pure (wpAny_bind ?_))
  refine wpAny_bind (wpAny_bind (wpAny_askSetting (wpAny_pure (wpAny_bind (wpAny_mkText (wpAny_bind (wpAny_loadPart D ?_)))))))
  dsimp only
  rw [aRefKeyMayBeTheName_at, show (!(#[] : Array DictEntry).any (fun e => e.key.isStr name) && (#[] : Array DictEntry).any (fun e => e.refKey)) = false from by simp]
  have D2 := (N3 (s.heap.objs.size, dictOf [⟨PyData.keyHash w.params name, .str name (s.toks + 1), v⟩] 1) (by simp)).1
  refine wpAny_updatePart D ?_
  refine wpAny_bind (wpAny_lookBehind D2 (pastItsLine_dict (by rw [List.size_toArray, sizeLine_eq]; simp)) ?_)
  exact wpAny_pure (h _ _ F3 N3 lt)
end
section
variable {prog : Program} {w : World} {A : Around} {E : Value → Shared → Prop} {h : Heap} {g : Array GenState} {d : Drawn} {t : Nat} {os : OsState}
variable {nm q : Str} {C N : Addr} {bs bm bmB : List Value} {hdct : Bool} {sn : List Str} {sub : List Value} {ab : Bool} {col : Option Bool} {dd : Option Addr} {k0 k1 k2 k3 k5 : Option Value} {B Bn newId nid initId inN : String} {bmN : List Value}
theorem type_call_init (Fn : ExcBaseFacts Bn newId inN bmN) (hBn : bmB.contains (.type Bn) = true) (F : ExcBaseFacts B nid initId bmB) (T : OwnTail h bmB bm) {mN : Str → Option Value} {rest : List Value} {fI : Addr} {oI : Obj} {Q : Fin → Shared → Prop}
    (hC : h.get? C = some (excClassObj nm q C N bs bm hdct sn sub ab col dd k0 k1 k2 k3 k5 newId)) (hn : h.Ns N mN) (hi : mN "__init__" = some (.ref fI)) (hfI : h.get? fI = some oI) (hfc : oI.cls = .type "function")
    (hq : ∀ h' e, Heap.MadeExcOf h h' e (.ref C) rest → wpAny (model prog w) A (call (.ref fI) (.ref e :: rest)) (fun r s' => r = .none ∧ Q (.done (.ret (.ref e))) s') E ⟨h', g, d, t, os⟩) (hrest : rest.length ≤ sizeLine) :
    wpAny (model prog w) A (Builtin.«type.__call__» ⟨.ref C :: rest, []⟩) Q E ⟨h, g, d, t, os⟩ := by
  repeat (first | with_reducible refine wpAny_loadPart_at hC ?_ | with_reducible refine wpAny_madeBy_exc hC ?_ | wp_step)
  refine codeAny_call_builtin_code (Code.quiet_builtin _ Fn.quiet) (wpAny_check_new_subU Fn hBn T hC ?_)
  refine codeAny_exc_new_subU Fn hBn F T hC ?_ hrest
  show wpAny _ _ _ _ _ _
  have hC₁ := Heap.get?_push_of_some { cls := .ref C, data := .fields #[.ref h.objs.size, .none, .none, .none, .bool false, .none] }
    (Heap.get?_push_of_some { cls := .type "tuple", data := .seq rest.toArray } hC)
  have hfI₁ := Heap.get?_push_of_some { cls := .ref C, data := .fields #[.ref h.objs.size, .none, .none, .none, .bool false, .none] }
    (Heap.get?_push_of_some { cls := .type "tuple", data := .seq rest.toArray } hfI)
  have hn₁ : ((h.push { cls := .type "tuple", data := .seq rest.toArray }).push { cls := .ref C, data := .fields #[.ref h.objs.size, .none, .none, .none, .bool false, .none] }).Ns N mN :=
    let ⟨o, es, ep, e, r⟩ := hn; ⟨o, es, ep, Heap.get?_push_of_some _ (Heap.get?_push_of_some _ e), r⟩
  have hget : ((h.push { cls := .type "tuple", data := .seq rest.toArray }).push
      { cls := .ref C, data := .fields #[.ref h.objs.size, .none, .none, .none, .bool false, .none] }).get? (h.objs.size + 1) = some
      { cls := .ref C, data := .fields #[.ref h.objs.size, .none, .none, .none, .bool false, .none] } := by heap_get
  have hcC : (Value.ref C :: bm).contains (.ref C) = true := by simp
  have T₁ := T.keeps (h' := (h.push { cls := .type "tuple", data := .seq rest.toArray }).push { cls := .ref C, data := .fields #[.ref h.objs.size, .none, .none, .none, .bool false, .none] })
    fun b o e => Heap.get?_push_of_some _ (Heap.get?_push_of_some _ e)
  unfold isInstance
  repeat (first | with_reducible refine wpAny_loadPart_at hget ?_ | (with_reducible refine wpAny_isSubtype_exc hC₁ ?_; rw [hcC]) | wp_step)
  show wpAny _ _ (typeLookup (.ref C) _) _ _ _
  refine wpAny_typeLookup_tail hC₁ hn₁ T₁ F.mroIs F.init.lookup ?_
  rw [hi]
  refine wpAny_holding (wpAny_bind ?_)
  unfold bindSpecial
  refine wpAny_bind (wpAny_typeOf (T := "function") ⟨_, hfI₁, hfc⟩ ?_)
  rw [if_pos (by decide)]
  refine wpAny_pure (wpAny_bind (wpAny_mono (hq _ (h.objs.size + 1) ⟨fun b o hb => Heap.get?_push_of_some _ (Heap.get?_push_of_some _ hb), Heap.get?_none_of_le (Nat.le_succ _), h.objs.size, hget, Heap.get?_none_of_le (Nat.le_refl _), ?_⟩) (fun r s' hr => ?_) fun _ _ x => x))
  · exact Heap.get?_push_of_some _ (Heap.get?_push_at rfl rfl)
  · obtain ⟨rfl, hQ⟩ := hr
    wp_walk
    exact hQ
theorem call_init (Fn : ExcBaseFacts Bn newId inN bmN) (hBn : bmB.contains (.type Bn) = true) (F : ExcBaseFacts B nid initId bmB) (T : OwnTail h bmB bm) {mN : Str → Option Value} {rest : List Value} {fI : Addr} {oI : Obj} {Q : Value → Shared → Prop}
    (hC : h.get? C = some (excClassObj nm q C N bs bm hdct sn sub ab col dd k0 k1 k2 k3 k5 newId)) (hn : h.Ns N mN) (hi : mN "__init__" = some (.ref fI)) (hfI : h.get? fI = some oI) (hfc : oI.cls = .type "function")
    (hq : ∀ h' e, Heap.MadeExcOf h h' e (.ref C) rest → wpAny (model prog w) (A.under (.builtin "type.__call__" ⟨.ref C :: rest, []⟩)) (call (.ref fI) (.ref e :: rest)) (fun r s' => r = .none ∧ Q (.ref e) s') E ⟨h', g, d, t, os⟩) (hrest : rest.length ≤ sizeLine) :
    wpAny (model prog w) A (call (.ref C) rest) Q E ⟨h, g, d, t, os⟩ := by
  have f1 := tc_lookup
  have f2 := tc_bind (.ref C)
  have hT : (⟨h, g, d, t, os⟩ : Shared).TypeIs (.ref C) "type" := ⟨_, hC, rfl⟩
  refine wpAny_call (codeAny_of_tree ?_)
  show wpAny _ _ (callAny (.ref C) _) _ _ _
  repeat (any_goals (first | assumption | with_reducible refine wpAny_loadPart_at hC ?_ | wp_step))
  refine ⟨rfl, ?_⟩
  refine codeAny_call_builtin_at (Code.quiet_builtin _ (by decide +kernel)) entry_typeCall (wpAny_check_type_call_sub hC (type_call_init Fn hBn F T hC hn hi hfI hfc (fun h' e hm => ?_) hrest))
  exact hq h' e hm
end
theorem dict_mapFields (f : Array Value → Array Value) (o : Obj) : (Obj.mapFields f o).dict = o.dict := by
  obtain ⟨c, d, dt, sl⟩ := o
  cases dt <;> rfl
/-- an exception in flight, its own dict known -/
noncomputable def TrM (h base : Heap) (e : Addr) (cls : Value) (d : Addr) (fl : Value) : Prop :=
  ∃ oe vs T oT ts, h.get? e = some oe ∧ (oe.cls = cls ∧ oe.dict = some d) ∧ oe.data = .fields vs ∧ vs[1]? = some (.ref T) ∧ base.get? T = none ∧ T ≠ e ∧ h.get? T = some oT ∧ oT.data = .fields ts ∧ ts[3]? = some fl
noncomputable def FlyM (base : Heap) (l : List Env) (e : Addr) (cls : Value) (d : Addr) (fl : Value) (h₁ h : Heap) : Prop := base.StaysIn h ∧ base.get? e = none ∧ h.FunFrames base l ∧ TrM h base e cls d fl ∧ h₁.UpToSlots h
section
variable {M : Model} {A : Around} {E : Value → Shared → Prop} {s : Shared} {base h₁ : Heap} {env : Env} {outer l : List Env} {L e d : Addr} {oe : Obj} {vs : Array Value} {cls head fl : Value} {hadNext : Bool} {Q : Unit → Shared → Prop}
theorem entryM (hfr : A.frames = some (env :: outer)) (hl : s.heap.FunFrames base (env :: outer)) (hf : env.frame = some L)
    (he : s.heap.get? e = some oe) (hkb : base.StaysIn s.heap) (hen : base.get? e = none) (hd : oe.data = .fields vs) (hsz : 1 < vs.size) (hdict : oe.dict = some d)
    (h : ∀ h', FlyM base (env :: outer) e oe.cls d (rawInt L) s.heap h' → Q () { s with heap := h' }) :
    wpAny M A (do let a ← frameOf env; let pl ← entryPlaceOf L hadNext; let b ← EntryCells.newEntry head a .none (rawInt L) .none pl; setField (.ref e) 1 b) Q E s := by
  have hene : e ∉ (env :: outer).filterMap (·.frame) := fun hm => by
    obtain ⟨_, o, ho, hnf⟩ := hl.mem hm
    rw [he] at ho; injection ho with ho; subst ho; exact hnf vs hd
  refine wpAny_bind (wpAny_frameOf_fun hfr hl hf fun h₁ hs₁ => ?_)
  refine wpAny_bind (wpAny_entryPlaceOf fun pl hpl => ?_)
  unfold EntryCells.newEntry newFields
  refine wpAny_bind (wpAny_newObj_type ?_ (hpl.sizeOk5 _ _ _ _ _))
  have he₁ : h₁.get? e = some oe := (hs₁.2.1 e hene).trans he
  have kb₁ : base.StaysIn h₁ := fun b o hbo => (hs₁.2.1 b fun hm => by rw [(hl.mem hm).1] at hbo; cases hbo).trans (hkb b o hbo)
  generalize hob : ({ cls := .type "traceback", dict := none, data := .fields ([head, .ref L, .none, rawInt L, .none] ++ (if pl.isEmpty then List.replicate 6 Value.none else pl)).toArray } : Obj) = ob
  have hobd : ob.data = .fields ([head, .ref L, .none, rawInt L, .none] ++ (if pl.isEmpty then List.replicate 6 Value.none else pl)).toArray := by rw [← hob]
  have he₂ := Heap.get?_push_of_some (h := h₁) ob he₁
  refine wpAny_setField he₂ hd hsz (h _ ?_)
  have hTe : h₁.objs.size ≠ e := Nat.ne_of_gt (Heap.lt_size he₁)
  have hd₃ := Obj.data_mapFields hd (·.setIfInBounds 1 (Value.ref h₁.objs.size))
  have he₃ := Heap.get?_update_self (Obj.mapFields (·.setIfInBounds 1 (Value.ref h₁.objs.size))) he₂ (Obj.isFreed_of_fields hd₃)
  have hT₃ := (Heap.get?_update_other (h₁.push ob) (Obj.mapFields (·.setIfInBounds 1 (Value.ref h₁.objs.size))) (Ne.symm hTe)).trans (Heap.get?_push_size h₁ (by rw [← hob]; rfl))
  have keep : ∀ b o, b ≠ e → h₁.get? b = some o → ((h₁.push ob).update e (Obj.mapFields (·.setIfInBounds 1 (Value.ref h₁.objs.size)))).get? b = some o := fun b o hbe hb => by
    rw [Heap.get?_update_other _ _ (Ne.symm hbe)]
    exact Heap.get?_push_of_some _ hb
  have noRecord : ∀ b o, s.heap.get? b = some o → (∀ vs, o.data ≠ .fields vs) → b ≠ e := fun b o hb hnf q => by
    rw [q, he] at hb; injection hb with hb; subst hb; exact hnf vs hd
  refine ⟨fun b o hbo => keep b o (fun q => by rw [q, hen] at hbo; cases hbo) (kb₁ b o hbo), hen, hl.of_keeps fun b o hb hnf => ?_, ?_, fun b o hb hnf => ?_⟩
  · obtain ⟨sl, hs⟩ := hs₁.2.2 b o hb
    exact ⟨_, keep b _ (noRecord b o hb hnf) hs, rfl⟩
  · exact ⟨_, _, h₁.objs.size, _, _, he₃, ⟨Obj.cls_mapFields _ _, (dict_mapFields _ _).trans hdict⟩, hd₃, by simp [hsz], kb₁.fresh, hTe, hT₃, hobd, by simp⟩
  · obtain ⟨sl, hs⟩ := hs₁.2.2 b o hb
    exact ⟨sl, keep b _ (noRecord b o hb hnf) hs⟩
theorem landM (x : FlyM base l e cls d fl h₁ s.heap) (h : ∀ h', FlyM base l e cls d .none h₁ h' → Q () { s with heap := h' }) : wpAny M A (setFlight (.ref e) none) Q E s := by
  obtain ⟨hkb, hen, hl, ⟨oe, vs, T, oT, ts, he, hcls, hd, h1, hnT, hTe, hT, hdT, h3⟩, hu⟩ := x
  have hsz3 : 3 < ts.size := (Array.getElem?_eq_some_iff.mp h3).1
  have other : ∀ b, b ≠ T → (s.heap.update T (Obj.mapFields (·.setIfInBounds 3 ((none : Option Addr).elim Value.none fun f => rawInt f)))).get? b = s.heap.get? b :=
    fun b hb => Heap.get?_update_other _ _ (Ne.symm hb)
  have noRecord : ∀ b o, s.heap.get? b = some o → (∀ vs, o.data ≠ .fields vs) → b ≠ T := fun b o hb hnf q => by
    rw [q, hT] at hb; injection hb with hb; subst hb; exact hnf ts hdT
  unfold setFlight
  refine wpAny_bind (wpAny_field he hd h1 ?_)
  rw [if_pos (show (Value.ref T != Value.none) = true from by simp)]
  refine wpAny_setField hT hdT hsz3 (h _ ⟨fun b o hbo => (other b fun q => by rw [q, hnT] at hbo; cases hbo).trans (hkb b o hbo), hen,
    hl.of_keeps fun b o hb hnf => ⟨o, (other b (noRecord b o hb hnf)).trans hb, rfl⟩, ?_, hu.trans fun b o hb hnf => ⟨o.slots, (other b (noRecord b o hb hnf)).trans hb⟩⟩)
  exact ⟨oe, vs, T, _, _, (other e (Ne.symm hTe)).trans he, hcls, hd, h1, hnT, hTe, Heap.get?_update_self _ hT (Obj.isFreed_of_fields (Obj.data_mapFields hdT _)), Obj.data_mapFields hdT _, by simp [hsz3]⟩
theorem leaveM (hfr : A.frames = some (env :: outer)) (hl : s.heap.FunFrames base (env :: outer)) (hf : env.frame = some L)
    (he : s.heap.get? e = some oe) (hkb : base.StaysIn s.heap) (hen : base.get? e = none) (hd : oe.data = .fields vs) (h1 : vs[1]? = some .none) (hdict : oe.dict = some d)
    (h : ∀ h', FlyM base (env :: outer) e oe.cls d .none s.heap h' → Q () { s with heap := h' }) : wpAny M A (leaving env (.ref e)) Q E s := by
  unfold leaving noteFrame
  simp only [hf]
  refine wpAny_bind (wpAny_bind (wpAny_field he hd h1 ?_))
  rw [if_neg (by decide)]
  exact entryM hfr hl hf he hkb hen hd (Array.getElem?_eq_some_iff.mp h1).1 hdict fun h' x => landM (s := { s with heap := h' }) x h
theorem noteM (hfr : A.frames = some (env :: outer)) (hf : env.frame = some L) (x : FlyM base (env :: outer) e cls d .none h₁ s.heap)
    (h : ∀ h', FlyM base (env :: outer) e cls d (rawInt L) h₁ h' → Q () { s with heap := h' }) : wpAny M A (noteFrame (.ref e) env) Q E s := by
  obtain ⟨hkb, hen, hl, ⟨oe, vs, T, oT, ts, he, ⟨hcls, hdict⟩, hd, h1, hnT, hTe, hT, hdT, h3⟩, hu⟩ := x
  subst hcls
  unfold noteFrame
  simp only [hf]
  refine wpAny_bind (wpAny_field he hd h1 ?_)
  rw [if_pos (show (Value.ref T != Value.none) = true from by simp)]
  refine wpAny_bind (wpAny_field hT hdT h3 ?_)
  rw [if_neg (show ¬ ((Value.none == rawInt L) = true) from by simp [rawInt])]
  refine wpAny_bind (wpAny_setField hT hdT (Array.getElem?_eq_some_iff.mp h3).1 ?_)
  have other : ∀ b, b ≠ T → (s.heap.update T (Obj.mapFields (·.setIfInBounds 3 Value.none))).get? b = s.heap.get? b := fun b hb => Heap.get?_update_other _ _ (Ne.symm hb)
  have noRecord : ∀ b o, s.heap.get? b = some o → (∀ vs, o.data ≠ .fields vs) → b ≠ T := fun b o hb hnf q => by
    rw [q, hT] at hb; injection hb with hb; subst hb; exact hnf ts hdT
  refine entryM (s := { s with heap := s.heap.update T (Obj.mapFields (·.setIfInBounds 3 Value.none)) }) hfr (hl.of_keeps fun b o hb hnf => ⟨o, (other b (noRecord b o hb hnf)).trans hb, rfl⟩) hf ((other e (Ne.symm hTe)).trans he)
    (fun b o hbo => (other b fun q => by rw [q, hnT] at hbo; cases hbo).trans (hkb b o hbo)) hen hd (Array.getElem?_eq_some_iff.mp h1).1 hdict
    fun h' y => h h' ⟨y.1, y.2.1, y.2.2.1, y.2.2.2.1, hu.trans (Heap.UpToSlots.trans (h₁ := s.heap) (fun b o hb hnf => ⟨o.slots, (other b (noRecord b o hb hnf)).trans hb⟩) y.2.2.2.2)⟩
end
section
variable {prog : Program} {w : World} {A : Around} {E : Value → Shared → Prop} {s : Shared} {K : Frag} {a C : Addr} {ox : Obj} {od : Option Obj} {name : Str} {v : Value} {expr : Bool} {Q : Value → Shared → Prop}
theorem getE_call {tk : Tok} {R : Result → Shared → Prop} (X : K.In s.heap) (I : InstAt s.heap a ox C od) (hsub : mroIn K C (.type "BaseException") = some true) (hf : findObj K C od name = some (.value v)) (h : R (.ok (.ret v)) s) :
    codeAny (model prog w) A (.call (.builtin "BaseException.__getattribute__") ⟨[.ref a, .str name tk], []⟩) R s := by
  have sub : Looks (model prog w) s.heap (isInstance (.ref a) (.type "BaseException")) true := I.type.andThen (looks_mroIn X hsub)
  refine codeAny_call_builtin PySem.F.excAttr_ValueError.ga.plain PySem.F.entry_bexc_ga (@check_slot (model prog w) _ _ s "BaseException.__getattribute__" "BaseException" "__getattribute__" (.ref a) [.str name tk] [] _ (by decide +kernel) (by decide +kernel) sub (PySem.F.args_bexc_ga _ _) ?_)
  have L0 := I.type (M := model prog w)
  have L1 := looks_find (M := model prog w) X I hf
  unfold Builtin.«object.__getattribute__»
  refine wpAny_bind (wpAny_pure (wpAny_bind (wpAny_pure (wpAny_bind (L0.here (wpAny_bind (L1.here ?_)))))))
  exact wpAny_pure h
theorem getE (X : K.In s.heap) (I : InstAt s.heap a ox C od) (hga : findIn K (.ref C) "__getattribute__" = some (some (.builtin "BaseException.__getattribute__"))) (hgt : findIn K (.ref C) "__getattr__" = some none)
    (hsub : mroIn K C (.type "BaseException") = some true) (hf : findObj K C od name = some (.value v)) (hh : handedIn v = true) (h : Q v { s with toks := s.toks + 1 }) : wpAny (model prog w) A (getAttr (.ref a) name expr) Q E s := by
  obtain ⟨hp, g, d, t, os⟩ := s
  have L0 := I.type (M := model prog w)
  have L1 := looks_findIn (M := model prog w) X hga
  have L2 := looks_findIn (M := model prog w) X hgt
  have f3 := PySem.F.excAttr_ValueError.ga.bind (.ref a)
  unfold getAttr getAttrBy
  refine wpAny_bind (wpAny_mkText (wpAny_holding (wpAny_bind (L0.at (wpAny_bind (L1.at ?_))))))
  dsimp only
  rw [if_neg (by have : (Value.builtin "BaseException.__getattribute__" == Value.builtin "object.__getattribute__") = false := by decide +kernel
                 rw [this, Bool.and_false]; decide)]
  unfold getAttrByItsOwn hookBefore
  refine wpAny_bind (L2.at ?_)
  dsimp only [callGetattribute]
  rw [if_neg (by cases expr <;> decide)]
  unfold boundAndCalled
  rw [f3]
  refine wpAny_bind (wpAny_attempt (wpAny_holding (wpAny_bind (wpAny_pure (wpAny_call (getE_call (s := ⟨hp, g, d, t + 1, os⟩) X ⟨I.at_, I.cls, I.no, I.dict⟩ hsub hf ?_))))))
  show wpAny _ _ (handedOut v) _ _ _
  rw [handedOut_of hh]
  exact wpAny_pure h
end

structure HandX : Prop where
local macro_rules | `(tactic| walk_at "setAttr ref") => `(tactic| k_extra "my setAttr ref")
theorem word_93 : True := by
  k_with "my setAttr ref" => (((rename HandX => hHand9m); (refine Stop.out ?_)))
  trivial
section
variable {prog : Program} {w : World} {A : Around} {s : Shared} {Q E : Value → Shared → Prop}
noncomputable abbrev excO (d : Option Addr) (vs : Array Value) : Obj := ⟨.ref 65, d, .fields vs, #[]⟩
noncomputable abbrev cd65 : ClassData := ClassData.mk (Str.ofString "Refusal") [(Value.ref 45)] [(Value.ref 65), (Value.ref 45), (Value.type "Exception"), (Value.type "BaseException"), (Value.type "object")] 64 (Str.ofString "Refusal") Bool.true [] [] Bool.false none Bool.false
theorem pass65 (self : Value) : refuseLoop self "__setattr__" cd65.mro = pure () := by
  show refuseLoop self "__setattr__" (.ref 65 :: .ref 45 :: _) = _
  rw [refuseLoop_ref, refuseLoop_ref]
  exact PySem.F.store_Exception.passes self
set_option maxHeartbeats 4000000 in
theorem c_refinit {e : Addr} {vs : Array Value} {msg : Str} {tm : Tok} {hb : Heap} (hhb : hb = hideAll s.heap ([(e, excO none vs)].map (·.1))) (C : Cx w A hb) (hR : Rm A 2)
  (hos : ∀ q ∈ [(e, excO none vs)], s.heap.get? q.1 = some q.2)
  (hret : ∀ d t h' tk', hb.StaysIn h' → h'.get? e = some (excO (some d) vs) → h'.get? d = some (dictOf [⟨PyData.keyHash w.params (Str.ofString "message"), .str (Str.ofString "message") t, .str msg tm⟩] 1) → s.heap.get? d = none → d ≠ e → Q .none { s with heap := h', toks := tk' }) :
  wpAny (model prog w) A (call (.ref 62) [.ref e, .str msg tm]) Q E s := by
  obtain ⟨hh, base, outer, p, loose, mean, mg, mb, B, X, T⟩ := C
  obtain ⟨ah, dp, fr, gd, un⟩ := A
  cases hh
  cases B.stack
  have hHand : HandX := ⟨⟩
  k_extra "my enterO"
  k_extra "my go"
  unfold Stop
  rename Fr _ _ _ _ => kF
  rename News _ _ _ _ => kN
  refine set_fresh (pre := []) (post := []) (cd := cd65) kF X kN (fun _ h => nomatch h) (fun _ h => nomatch h) (by kernel_rfl) (by kernel_rfl) rfl rfl pass65 rfl (by kernel_rfl) ?_
  intro d h' F' N' l1
  replace l1 := l1 _ (.head _)
  clear kF kN
  k_extra "my go"
  rename Fr _ _ _ _ => kF
  rename News _ _ _ _ => kN
  exact hret d _ h' _ kF.keep (kN _ (.tail _ (.head _))).1 (kN _ (.head _)).1 (fresh_all hhb kN (.head _) (fun q => by simp only [List.map_cons, List.map_nil, List.mem_cons, List.not_mem_nil, or_false] at q; exact absurd q (Nat.ne_of_gt l1))) (Nat.ne_of_gt l1)
theorem ns_some_of {K : Frag} {h : Heap} {N : Addr} {mg : Str → Option Value} {n : Str} {v : Value} (X : K.In h) (G : h.Ns N mg) (e : nsIn K N n = some (some v)) : mg n = some v := by
  obtain ⟨o, es, ep, ho, hd, _, hf⟩ := G
  unfold nsIn at e
  split at e
  · rename_i c d es' n' sl q
    have := X _ _ q
    rw [ho] at this
    cases this
    cases hd
    split at e
    · rename_i en he
      cases e
      rw [← hf]
      unfold nsFind findBy
      rw [← Array.find?_toList, he]
      rfl
    · split at e <;> cases e
  · cases e
theorem refusal_led {base : Heap} {outer : List Env} {p' : Program} {loose : List Str} {mean : ExcName → Option Value} {mg mb m : Str → Option Value} {env : Env} {h₀ : Heap} {L : Addr} {msg : Str} {tm : Tok} (hh : A.handled = none) (B : Below A base outer h₀) (F : Fr h₀ L s.heap m) (X : (Kh w.params).In h₀) (T : Top p' loose mean mg mb h₀)
    (hf : env.frame = some L) (hk : env.scope.kind = .function) (hR : Rm (A.deeper env) 4)
    (hret : ∀ e t d ta h' tk', s.heap.StaysIn h' → s.heap.get? e = none → s.heap.get? d = none → d ≠ e → h'.get? e = some (excO (some d) #[.ref t, .none, .none, .none, .bool false, .none]) →
      h'.get? d = some (dictOf [⟨PyData.keyHash w.params (Str.ofString "message"), .str (Str.ofString "message") ta, .str msg tm⟩] 1) → Q (.ref e) { s with heap := h', toks := tk' }) :
    wpAny (model prog w) (A.deeper env) (call (.ref 65) [.str msg tm]) Q E s := by
  have X' : (Kh w.params).In s.heap := X.keeps F.keep
  have hC : s.heap.get? 65 = some (o105 w.params) := X' 65 _ (by kernel_rfl)
  have hI : s.heap.get? 62 = some (o102 w.params) := X' 62 _ (by kernel_rfl)
  obtain ⟨hp, g, dr, tk, os⟩ := s
  refine call_init (C := 65) PySem.F.excBase_Exception (by decide) PySem.F.excBase_Exception (tail_of_in X' (by kernel_rfl)) hC (.of_isNs (isNs_of_in X' (by kernel_rfl))) (ns_some_of X' (.of_isNs (isNs_of_in X' (by kernel_rfl))) (by kernel_rfl)) hI rfl (fun h' e hm => ?_) (by rw [sizeLine_eq]; simp)
  obtain ⟨t, he, htn, ht⟩ := hm.there
  have B' := pushX B F hf hk
  have F1 := F.keeps hm.keeps
  have B1 := pushX B F1 hf hk
  have hk1 : hp.StaysIn (hideAll h' ([(e, excO none #[.ref t, .none, .none, .none, .bool false, .none])].map (·.1))) := fun b o q => hideAll_get _ (hm.keeps b o q) fun z => by
    simp only [List.map_cons, List.map_nil, List.mem_cons, List.not_mem_nil, or_false] at z
    rw [z] at q
    have := hm.new
    rw [q] at this; cases this
  refine c_refinit (hb := hideAll h' ([(e, excO none #[.ref t, .none, .none, .none, .bool false, .none])].map (·.1))) rfl ⟨hh, base, env :: outer, p', loose, mean, mg, mb, ⟨?_, ?_, ?_⟩, X'.keeps fun b o q => hk1 b o q, (T.keeps F.keep).keeps fun b o q => hk1 b o q⟩ ?_ ?_ ?_
  · exact B'.stack
  · exact fun b o q => hk1 _ _ (B'.stays b o q)
  · exact B'.frames.of_keeps fun b o q _ => ⟨o, hk1 b o q, rfl⟩
  · refine ⟨?_, ?_⟩
    · rw [depth_under_make]; have := hR.1; omega
    · rw [units_under_make]; have := hR.2; omega
  · intro q hq; rw [List.mem_singleton.mp hq]; exact he
  · intro d ta h'' tk' k1 e1 d1 dn dne
    refine ⟨rfl, hret e t d ta h'' tk' (fun b o q => k1 _ _ (hk1 _ _ q)) hm.new ?_ dne e1 d1⟩
    cases q : hp.get? d with
    | none => rfl
    | some o => have := hm.keeps _ _ q; rw [dn] at this; cases this
end
section
variable {prog : Program} {w : World} {A : Around} {s : Shared} {E : Value → Shared → Prop}
theorem raiseStmt65 {env : Env} {P : Params} {x : Sem Value} {Q : Flow → Shared → Prop} (hh : A.handled = none)
    (h : wpAny (model prog w) A x (fun v s₁ => ∃ a t d, v = .ref a ∧ s₁.heap.get? 65 = some (o105 P) ∧ s₁.heap.get? a = some (excO (some d) #[.ref t, .none, .none, .none, .bool false, .none]) ∧ E (.ref a) s₁) E s) : wpAny (model prog w) A (raiseStmt env (some x) none) Q E s := by
  unfold raiseStmt
  refine wpAny_bind (wpAny_mono h (fun v s₁ h₁ => ?_) fun _ _ x => x)
  obtain ⟨e, t, d, rfl, hC, he, hE⟩ := h₁
  obtain ⟨hp, g, dr, tk, os⟩ := s₁
  have hC' : hp.get? 65 = some (excClassObj _ _ 65 _ _ _ _ _ _ _ _ _ _ _ _ _ _ _) := hC
  repeat (first | with_reducible refine wpAny_loadPart_at he ?_ | with_reducible refine wpAny_loadPart_at hC' ?_ | (with_reducible refine wpAny_isSubtype_exc hC' ?_; rw [show (_ : List Value).contains (Value.type "BaseException") = true from by decide]) | wp_step)
  exact wpAny_raiseNew_none hh hE
theorem Raise65 {env : Env} {P : Params} {ex : Expr} {pos : Pos} {Q : Flow → Shared → Prop} (hh : A.handled = none)
    (h : wpAny (model prog w) A (eval ex env) (fun v s₁ => ∃ a t d, v = .ref a ∧ s₁.heap.get? 65 = some (o105 P) ∧ s₁.heap.get? a = some (excO (some d) #[.ref t, .none, .none, .none, .bool false, .none]) ∧ E (.ref a) s₁) E s) :
    wpAny (model prog w) A (exec (.Raise (some ex) none pos) env) Q E s := by
  show wpAny (model prog w) A (do standAt pos; raiseStmt env (some (do let v ← eval ex env; standAt pos; pure v)) none) Q E s
  refine wpAny_bind (wpAny_standAt (raiseStmt65 (P := P) hh ?_))
  exact wpAny_bind (wpAny_mono h (fun v s₁ h₁ => wpAny_bind (wpAny_standAt (wpAny_pure h₁))) fun _ _ x => x)
theorem leave65 {M : Model} {base g hc : Heap} {outer : List Env} {env : Env} {L' e d t : Addr} {m' : Str → Option Value} {news : List (Addr × Obj)} {Q : Unit → Shared → Prop} (K : Below A base outer g) (F : Fr g L' hc m') (N : News g L' hc news) (k : hc.StaysIn s.heap) (en : hc.get? e = none)
    (he : s.heap.get? e = some (excO (some d) #[.ref t, .none, .none, .none, .bool false, .none])) (hf : env.frame = some L') (hk : env.scope.kind = .function)
    (hQ : ∀ Bf h'', FlyM Bf outer e (.ref 65) d .none s.heap h'' → base.StaysIn Bf → (∀ q ∈ news, Bf.get? q.1 = some q.2 ∧ base.get? q.1 = none) → g.UpToSlots h'' → Q () { s with heap := h'' }) :
    wpAny M (A.deeper env) (leaving env (.ref e)) Q E s := by
  have K' := pushX K F hf hk
  have hin : ∀ ev ∈ (env :: outer), ∀ b, ev.frame = some b → b ∈ (env :: outer).filterMap (·.frame) := fun ev he b hb => List.mem_filterMap.mpr ⟨ev, he, hb⟩
  have st : base.StaysIn (hideAll hc ((env :: outer).filterMap (·.frame))) := fun b o q => hideAll_get _ (K'.stays b o q) fun hm => by
    rw [(K'.frames.mem hm).1] at q; cases q
  have hl : ∀ q ∈ news, (hideAll hc ((env :: outer).filterMap (·.frame))).get? q.1 = some q.2 ∧ base.get? q.1 = none := fun q hq => by
    refine ⟨hideAll_get _ (N q hq).1 fun hm => ?_, fresh_of_stays K.stays (N q hq).2.2⟩
    obtain ⟨ev, he, hfe⟩ := List.mem_filterMap.mp hm
    rcases List.mem_cons.mp he with rfl | he
    · rw [hf] at hfe; exact (N q hq).2.1 (Option.some.inj hfe).symm
    · obtain ⟨o, ho, _⟩ := (K.frames.mem (List.mem_filterMap.mpr ⟨ev, he, hfe⟩)).2
      rw [(N q hq).2.2] at ho; cases ho
  have hfr : (A.deeper env).frames = some (env :: outer) := K'.stack
  refine leaveM (base := hideAll hc ((env :: outer).filterMap (·.frame))) (d := d) hfr ((funFrames_hide K'.frames hin).of_keeps fun b o q _ => ⟨o, k _ _ q, rfl⟩) hf he (fun b o q => k _ _ (of_hideAll _ q)) ?_ rfl rfl rfl fun h'' x => ?_
  · cases q : (hideAll hc ((env :: outer).filterMap (·.frame))).get? e with
    | none => rfl
    | some o => have := of_hideAll _ q; rw [en] at this; cases this
  · obtain ⟨x1, x2, ⟨_, _, x3⟩, x4, x5⟩ := x
    exact hQ _ h'' ⟨x1, x2, x3, x4, x5⟩ st hl (((Heap.UpToSlots.of_keeps F.keep).trans (Heap.UpToSlots.of_keeps k)).trans x5)
theorem fly_law {h₀ g h' h4 Bf : Heap} {env : Env} {L e d : Addr} {fl : Value} {m : Str → Option Value} {od : Obj} {news : List (Addr × Obj)} (hf : env.frame = some L) (F : Fr h₀ L g m) (hsm : g.UpToSlots h')
    (x : FlyM Bf [env] e (.ref 65) d fl h' h4) (st : h₀.StaysIn Bf) (hl : ∀ q ∈ news, Bf.get? q.1 = some q.2 ∧ h₀.get? q.1 = none) (hd : h'.get? d = some od) (hod : ∀ vs, od.data ≠ .fields vs) (hdB : h₀.get? d = none) (hdL : d ≠ L) :
    ∃ oe sl, Fr h₀ L h4 m ∧ News h₀ L h4 ((e, oe) :: (d, { od with slots := sl }) :: news) ∧ oe.cls = .ref 65 ∧ oe.dict = some d ∧ ∃ vs, oe.data = .fields vs := by
  obtain ⟨x1, x2, x3, x5, x6⟩ := x
  obtain ⟨_, ⟨L', oL, hfL, hBL, hoL, hnL⟩, _⟩ := x3
  obtain rfl : L = L' := Option.some.inj (hf.symm.trans hfL)
  obtain ⟨oe, vs, T, oT, ts, he, ⟨hcls, hdict⟩, hde, r⟩ := x5
  obtain ⟨sl, hsl⟩ := x6 d od hd hod
  refine ⟨oe, sl, F.of_stays (fun b o q => x1 _ _ (st _ _ q)) (hsm.trans x6), fun q hq => ?_, hcls, hdict, vs, hde⟩
  rcases List.mem_cons.mp hq with rfl | hq
  · exact ⟨he, (fun z => by have z' : e = L := z; rw [z', hoL] at he; cases he; exact hnL _ hde), fresh_of_stays st x2⟩
  · rcases List.mem_cons.mp hq with rfl | hq
    · exact ⟨hsl, hdL, hdB⟩
    · exact ⟨x1 _ _ (hl q hq).1, (fun z => by have := (hl q hq).1; rw [z, hBL] at this; cases this), (hl q hq).2⟩
theorem note65 {M : Model} {h₀ g h' Bf : Heap} {env : Env} {L e d : Addr} {m : Str → Option Value} {od : Obj} {news : List (Addr × Obj)} {hs : List ExceptHandler} {Q : Flow → Shared → Prop} (hfr : A.frames = some [env]) (hf : env.frame = some L) (F : Fr h₀ L g m) (hsm : g.UpToSlots h')
    (x : FlyM Bf [env] e (.ref 65) d .none h' s.heap) (st : h₀.StaysIn Bf) (hl : ∀ q ∈ news, Bf.get? q.1 = some q.2 ∧ h₀.get? q.1 = none) (hd : h'.get? d = some od) (hod : ∀ vs, od.data ≠ .fields vs) (hdB : h₀.get? d = none) (hdL : d ≠ L)
    (hQ : ∀ h4 oe sl, Fr h₀ L h4 m → News h₀ L h4 ((e, oe) :: (d, { od with slots := sl }) :: news) → oe.cls = .ref 65 → oe.dict = some d → (∃ vs, oe.data = .fields vs) → FlyM Bf [env] e (.ref 65) d .none h' h4 → wpAny M A (handleBy (.ref e) env hs) Q E { s with heap := h4 }) :
    wpAny M A (noteFrame (.ref e) env) (fun _ s₂ => wpAny M A (setFlight (.ref e) none) (fun _ s₃ => wpAny M A (handleBy (.ref e) env hs) Q E s₃) E s₂) E s := by
  refine noteM hfr hf x fun h3 x3 => landM (s := { s with heap := h3 }) x3 fun h4 x4 => ?_
  obtain ⟨oe, sl, F4, N4, c1, c2, c3⟩ := fly_law hf F hsm x4 st hl hd hod hdB hdL
  exact hQ h4 oe sl F4 N4 c1 c2 c3 x4
end
theorem getM65 {prog : Program} {w : World} {A : Around} {s : Shared} {E Q : Value → Shared → Prop} {oe : Obj} {d e : Addr} {sl : Array (Option Value)} {ta tm : Tok} {msg : Str} {vs : Array Value} {expr : Bool} (X : (Kh w.params).In s.heap) (he : s.heap.get? e = some oe) (c1 : oe.cls = .ref 65) (c2 : oe.dict = some d) (c3 : oe.data = .fields vs)
    (hd : s.heap.get? d = some { dictOf [⟨PyData.keyHash w.params (Str.ofString "message"), .str (Str.ofString "message") ta, .str msg tm⟩] 1 with slots := sl }) (h : Q (.str msg tm) { s with toks := s.toks + 1 }) : wpAny (model prog w) A (getAttr (.ref e) (Str.ofString "message") expr) Q E s := by
  refine getE (K := Kh w.params) (C := 65) (ox := oe) (od := some { dictOf [⟨PyData.keyHash w.params (Str.ofString "message"), .str (Str.ofString "message") ta, .str msg tm⟩] 1 with slots := sl }) X ⟨he, c1, by unfold notCls; rw [c3], by rw [c2]; exact hd⟩ (by kernel_rfl) (by kernel_rfl) (by kernel_rfl)
    (findObj_own (attr := none) (by kernel_rfl) (by kernel_rfl) rfl ?_) rfl h
  rfl

theorem word_94 : True := by
  k_with "my call ref" => (((with_reducible show wpAny _ _ (call (Value.ref 202) _) _ _ _); (k_dflt ((rename Hand => hHand9m); (refine Stop.out ?_)))))
  trivial
theorem word_95 : True := by
  k_with "my call ref" => (((with_reducible show wpAny _ _ (call (Value.ref 317) _) _ _ _); (k_dflt ((rename Hand => hHand9m); (refine Stop.out ?_)))))
  trivial
theorem word_96 : True := by
  k_with "my call ref" => (((with_reducible show wpAny _ _ (call (Value.ref 331) _) _ _ _); (k_dflt ((rename Hand => hHand9m); (refine Stop.out ?_)))))
  trivial
theorem word_97 : True := by
  k_with "my call ref" => (((with_reducible show wpAny _ _ (call (Value.ref 65) _) _ _ _); (k_dflt ((rename Hand => hHand9m); (refine Stop.out ?_)))))
  trivial
local macro_rules | `(tactic| walk_at "exec Raise some none") => `(tactic| k_extra "my exec Raise some none")
theorem word_98 : True := by
  k_with "my exec Raise some none" => (((rename Hand => hHand9m); (refine Stop.out ?_)))
  trivial
local macro_rules | `(tactic| walk_at "exec Try") => `(tactic| k_extra "my exec Try")
theorem word_99 : True := by
  k_with "my exec Try" => (((with_reducible show wpAny _ _ (exec (Stmt.Try _ (_ :: _) _ [] _) (envOfC _ _ _ _ _)) _ _ _); refine wpAny_Try_except ?_))
  trivial
theorem AtL.hide {h : Heap} {os : List (Addr × Obj)} {v : Value} {d : D} (a : At h v d) (ho : ∀ q ∈ os, h.get? q.1 = some q.2 ∧ q.2.cls ≠ .type "tuple") : AtL (hideAll h (os.map (·.1))) [] v d := by
  cases d with
  | no => exact a
  | pr x y =>
    obtain ⟨b, ta, tb, e, o, hg, hc, r⟩ := a
    refine ⟨b, ta, tb, e, .inl ⟨o, hideAll_get _ hg fun q => ?_, hc, r⟩⟩
    obtain ⟨p, hp, rfl⟩ := List.mem_map.mp q
    have z := ho p hp
    rw [hg] at z; cases z.1; exact z.2 hc
theorem AtsAt.hide {h : Heap} {os : List (Addr × Obj)} {ys : List Value} {ds : List D} (a : AtsAt h ys ds) (ho : ∀ q ∈ os, h.get? q.1 = some q.2 ∧ q.2.cls ≠ .type "tuple") : AtsL (hideAll h (os.map (·.1))) [] ys ds := by
  induction a with
  | nil => exact .nil
  | cons a _ ih => exact .cons (AtL.hide a ho) ih
/-- values of the data that stand now go onto the ledger -/
theorem AtsAt.led {h₀ h : Heap} {L : Addr} {m : Str → Option Value} {all : List (Addr × Obj)} (F : Fr h₀ L h m) (N : News h₀ L h all) {ys : List Value} {ds : List D} (a : AtsAt h ys ds) : ∃ T, News h₀ L h (all ++ T) ∧ AtsL h₀ T ys ds := by
  induction a with
  | nil => exact ⟨[], by rw [List.append_nil]; exact N, .nil⟩
  | @cons v d ys ds a _ ih =>
    obtain ⟨T, NT, aT⟩ := ih
    cases d with
    | no => exact ⟨T, NT, .cons a aT⟩
    | pr x y =>
      obtain ⟨b, ta, tb, e, o, hg, hc, n, hd⟩ := a
      cases q : h₀.get? b with
      | some o' =>
        have z := F.keep _ _ q
        rw [hg] at z; cases z
        exact ⟨T, NT, .cons ⟨b, ta, tb, e, .inl ⟨o, q, hc, n, hd⟩⟩ aT⟩
      | none =>
        refine ⟨(b, o) :: T, fun p hp => ?_, .cons ⟨b, ta, tb, e, .inr ⟨o, List.mem_cons_self, hc, n, hd⟩⟩ (aT.mono fun p hp => List.mem_cons_of_mem _ hp)⟩
        rcases List.mem_append.mp hp with hp | hp
        · exact NT p (List.mem_append_left _ hp)
        · rcases List.mem_cons.mp hp with rfl | hp
          · refine ⟨hg, fun e => ?_, q⟩
            obtain ⟨oL, es, ep, hL, hdL, _⟩ := F.ns
            have e' : b = L := e
            rw [e', hL] at hg; cases hg; rw [hd] at hdL; cases hdL
          · exact NT p (List.mem_append_right _ hp)
section
variable {h₀ h : Heap} {L : Addr} {p : Addr × Obj} {l l' : List (Addr × Obj)} {a : Addr} {o : Obj}
noncomputable def New1 (h₀ : Heap) (L : Addr) (h : Heap) (p : Addr × Obj) : Prop := h.get? p.1 = some p.2 ∧ p.1 ≠ L ∧ h₀.get? p.1 = none
theorem news_nil : News h₀ L h [] ↔ True := ⟨fun _ => trivial, fun _ _ hp => nomatch hp⟩
theorem news_cons : News h₀ L h (p :: l) ↔ New1 h₀ L h p ∧ News h₀ L h l :=
  ⟨fun N => ⟨N p List.mem_cons_self, fun q hq => N q (List.mem_cons_of_mem _ hq)⟩, fun ⟨a, b⟩ q hq => by rcases List.mem_cons.mp hq with rfl | hq; exact a; exact b q hq⟩
theorem news_pick {L' : List (Addr × Obj)} (N : News h₀ L h l) (k : Nat) (is : List Nat) (e : (is.filterMap fun i => l[i]?) ++ l.drop k = L') : News h₀ L h L' := fun q hq => by
  rw [← e] at hq
  rcases List.mem_append.mp hq with hq | hq
  · obtain ⟨i, _, hi⟩ := List.mem_filterMap.mp hq
    exact N q (List.mem_of_getElem? hi)
  · exact N q (List.mem_of_mem_drop hq)
theorem news_some {L' : List (Addr × Obj)} (N : News h₀ L h l) (is : List Nat) (e : (is.filterMap fun i => l[i]?) = L') : News h₀ L h L' := fun q hq => by
  rw [← e] at hq
  obtain ⟨i, _, hi⟩ := List.mem_filterMap.mp hq
  exact N q (List.mem_of_getElem? hi)
theorem news_both (N : News h₀ L h l) (N' : News h₀ L h l') : News h₀ L h (l ++ l') := fun q hq => (List.mem_append.mp hq).elim (N q) (N' q)
theorem news_app : News h₀ L h (l ++ l') ↔ News h₀ L h l ∧ News h₀ L h l' :=
  ⟨fun N => ⟨fun q hq => N q (List.mem_append_left _ hq), fun q hq => N q (List.mem_append_right _ hq)⟩, fun ⟨a, b⟩ q hq => (List.mem_append.mp hq).elim (a q) (b q)⟩
noncomputable def OffB (R : List (Addr × Obj)) (b : Nat) : Prop := ∀ p ∈ R, @Ne Nat p.1 b
theorem own_nil : OwnOff l [] ↔ True := ⟨fun _ => trivial, fun _ _ _ _ hp => nomatch hp⟩
theorem own_cons {r : List Addr} : OwnOff l (a :: r) ↔ OffB l a ∧ OwnOff l r :=
  ⟨fun H => ⟨fun q hq => H q hq a List.mem_cons_self, fun q hq b hb => H q hq b (List.mem_cons_of_mem _ hb)⟩, fun ⟨x, y⟩ q hq b hb => by rcases List.mem_cons.mp hb with rfl | hb; exact x q hq; exact y q hq b hb⟩
theorem off_of {b : Nat} {r : List Addr} (H : OwnOff l r) (m : b ∈ r) : OffB l b := fun q hq => H q hq b m
theorem nd_cons {a : Nat} {l : List Nat} (h : NeL a l) (n : l.Nodup) : (a :: l).Nodup := List.nodup_cons.mpr ⟨fun m => h a m rfl, n⟩
theorem nel_nil {a : Nat} : NeL a [] := fun _ h => nomatch h
theorem nel_cons {a c : Nat} {l : List Nat} (h : c ≠ a) (n : NeL a l) : NeL a (c :: l) := fun x hx => by
  rcases List.mem_cons.mp hx with rfl | hx
  · exact h
  · exact n x hx
theorem nel_app {a : Nat} {l l' : List Nat} (h : NeL a l) (n : NeL a l') : NeL a (l ++ l') := fun x hx => (List.mem_append.mp hx).elim (h x) (n x)
theorem nel_all {a : Addr} (h : ∀ p ∈ l, p.1 ≠ a) : NeL a (l.map fun p => p.1) := fun c hc => by
  obtain ⟨p, hp, rfl⟩ := List.mem_map.mp hc
  exact h p hp
theorem off_nil {b : Nat} : OffB [] b ↔ True := ⟨fun _ => trivial, fun _ _ hp => nomatch hp⟩
theorem off_cons {b : Nat} : OffB (p :: l) b ↔ @Ne Nat p.1 b ∧ OffB l b :=
  ⟨fun N => ⟨N p List.mem_cons_self, fun q hq => N q (List.mem_cons_of_mem _ hq)⟩, fun ⟨a, b⟩ q hq => by rcases List.mem_cons.mp hq with rfl | hq; exact a; exact b q hq⟩
theorem off_app {b : Nat} : OffB (l ++ l') b ↔ OffB l b ∧ OffB l' b :=
  ⟨fun N => ⟨fun q hq => N q (List.mem_append_left _ hq), fun q hq => N q (List.mem_append_right _ hq)⟩, fun ⟨a, b⟩ q hq => (List.mem_append.mp hq).elim (a q) (b q)⟩
theorem tab_of {ps : Array Value} (N : News h₀ L h l) (hm : (319, tabObj ps) ∈ l) : ∃ ps, New1 h₀ L h (319, tabObj ps) := ⟨ps, N _ hm⟩
end
theorem av_led {prog : Program} {w : World} {h₀ h : Heap} {L : Addr} {all : List (Addr × Obj)} {av : Value} {nm : Option Addr} (N : News h₀ L h all) (hv : AvIs prog w h av nm) (hn : ∀ V2, nm = some V2 → ∃ AD, av = .ref AD ∧ h₀.get? AD = none ∧ AD ≠ L) :
    ∃ T, News h₀ L h (all ++ T) ∧ ((nm = none ∧ av = .none) ∨ ∃ V2 AD oA, nm = some V2 ∧ av = .ref AD ∧ (AD == sysModules) = false ∧ (AD, oA) ∈ T ∧ Obj.IsDictOf (PySem.strKind prog w) oA [(Str.ofString "names", Value.ref V2)]) := by
  cases nm with
  | none => exact ⟨[], by rw [List.append_nil]; exact N, .inl ⟨rfl, hv⟩⟩
  | some V2 =>
    obtain ⟨AD, oA, e, lo, hg, hd⟩ := hv
    obtain ⟨AD', e', n1, n2⟩ := hn V2 rfl
    rw [e'] at e; cases e
    refine ⟨[(AD, oA)], fun p hp => ?_, .inr ⟨V2, AD, oA, rfl, e', lo, .head _, hd⟩⟩
    rcases List.mem_append.mp hp with hp | hp
    · exact N p hp
    · rw [List.mem_singleton.mp hp]; exact ⟨hg, n2, n1⟩
theorem led_cps {prog : Program} {w : World} {h₀ h : Heap} {L : Addr} {m : Str → Option Value} {all : List (Addr × Obj)} {ys : List Value} {ds : List D} {av : Value} {nm : Option Addr} {G : Prop} (F : Fr h₀ L h m) (N : News h₀ L h all) (a : AtsAt h ys ds) (hv : AvIs prog w h av nm) (hn : ∀ V2, nm = some V2 → ∃ AD, av = .ref AD ∧ h₀.get? AD = none ∧ AD ≠ L)
    (k : ∀ T, News h₀ L h (all ++ T) → AtsL h₀ T ys ds → ((nm = none ∧ av = .none) ∨ ∃ V2 AD oA, nm = some V2 ∧ av = .ref AD ∧ (AD == sysModules) = false ∧ (AD, oA) ∈ T ∧ Obj.IsDictOf (PySem.strKind prog w) oA [(Str.ofString "names", Value.ref V2)]) → G) : G := by
  obtain ⟨T9, N9, aT⟩ := a.led F N
  obtain ⟨T8, N8, h8⟩ := av_led N9 hv hn
  refine k (T9 ++ T8) (by rw [← List.append_assoc]; exact N8) (aT.mono fun p hp => List.mem_append_left _ hp) (h8.imp id fun ⟨V2, AD, oA, e1, e2, e3, e4, e5⟩ => ⟨V2, AD, oA, e1, e2, e3, List.mem_append_right _ e4, e5⟩)
section
variable {prog : Program} {w : World} {A : Around} {s : Shared} {base : Heap} {outer : List Env} {p' : Program} {loose : List Str} {mean : ExcName → Option Value} {mg mb m : Str → Option Value} {env : Env} {h₀ : Heap} {L : Addr} {all : List (Addr × Obj)} {Q E : Value → Shared → Prop}
theorem take_led {La Lf T0 T1 : Addr} {tg tx td : Tok} {na nf n0 n1 : Nat} {x1 x2 : Addr} (hh : A.handled = none) (B : Below A base outer h₀) (F : Fr h₀ L s.heap m) (N : News h₀ L s.heap all) (X : (Kh w.params).In h₀) (T : Top p' loose mean mg mb h₀)
    (hf : env.frame = some L) (hk : env.scope.kind = .function) (hR : Rm (A.deeper env) 8) (m1 : (La, listOf #[.ref T0, .ref T1] na) ∈ all) (m2 : (Lf, listOf #[.str (Str.ofString "x") tx, .str (Str.ofString "digits") td] nf) ∈ all)
    (m3 : (T0, ({ cls := .type "tuple", data := .seq #[.none, .ref x1] n0 } : Obj)) ∈ all) (m4 : (T1, ({ cls := .type "tuple", data := .seq #[.str (Str.ofString "digits") tg, .ref x2] n1 } : Obj)) ∈ all)
    (hret : ∀ F1 n h' tk', Fr h₀ L h' m → News h₀ L h' ((F1, listOf #[.ref x1, .ref x2] n) :: all) → NeAll F1 all → Q (.ref F1) { s with heap := h', toks := tk' }) :
    wpAny (model prog w) (A.deeper env) (call (.ref 202) [.ref La, .ref Lf]) Q E s := by
  have hm : ∀ q ∈ [(La, listOf #[.ref T0, .ref T1] na), (Lf, listOf #[.str (Str.ofString "x") tx, .str (Str.ofString "digits") td] nf), (T0, ({ cls := .type "tuple", data := .seq #[.none, .ref x1] n0 } : Obj)), (T1, ({ cls := .type "tuple", data := .seq #[.str (Str.ofString "digits") tg, .ref x2] n1 } : Obj))], q ∈ all := by
    intro q hq
    simp only [List.mem_cons, List.not_mem_nil, or_false] at hq
    rcases hq with rfl | rfl | rfl | rfl <;> assumption
  refine c_take rfl (cxo_push hh B F N hm X T hf hk) hR (fun q hq => (N q (hm q hq)).1) ?_
  intro F1 n h' tk' k' e1 e2
  exact hret F1 n h' tk' (F.keeps k') (news_fresh F N k' e1 e2) (ne_fresh N e1)
theorem counts_led {X1 DX D1 : Addr} {t1 t2 t3 t4 t5 t6 : Tok} {c1 : Nat} {av : Value} {ys : List Value} {gs : List D} (hh : A.handled = none) (B : Below A base outer h₀) (F : Fr h₀ L s.heap m) (N : News h₀ L s.heap all) (X : (Kh w.params).In h₀) (T : Top p' loose mean mg mb h₀)
    (hf : env.frame = some L) (hk : env.scope.kind = .function) (hR : Rm (A.deeper env) 6) (m1 : (X1, instObj 92 DX) ∈ all) (m2 : (DX, vecO w.params t1 t2 t3 t4 t5 t6 (Str.ofString "double") (.ref D1) av) ∈ all) (m3 : (D1, listOf ys.toArray c1) ∈ all)
    (ha : AtsAt s.heap ys gs) (hg : ∀ d ∈ gs, GOk d) (hl : gs.length < 4)
    (hret : ∀ F1 ws n h' tk', Fr h₀ L h' m → News h₀ L h' ((F1, listOf ws.toArray n) :: all) → NeAll F1 all → CntAre ws (gs.map cnt) → Q (.ref F1) { s with heap := h', toks := tk' }) :
    wpAny (model prog w) (A.deeper env) (call (.ref 317) [.ref X1]) Q E s := by
  have hm : ∀ q ∈ [(X1, instObj 92 DX), (DX, vecO w.params t1 t2 t3 t4 t5 t6 (Str.ofString "double") (.ref D1) av), (D1, listOf ys.toArray c1)], q ∈ all ∧ q.2.cls ≠ .type "tuple" := by
    intro q hq
    simp only [List.mem_cons, List.not_mem_nil, or_false] at hq
    rcases hq with rfl | rfl | rfl
    · exact ⟨m1, fun e => nomatch e⟩
    · exact ⟨m2, fun e => absurd (Value.type.inj e) (by decide)⟩
    · exact ⟨m3, fun e => absurd (Value.type.inj e) (by decide)⟩
  refine c_counts rfl (cxo_push hh B F N (fun q hq => (hm q hq).1) X T hf hk) hR (fun q hq => (N q (hm q hq).1).1) (ha.hide fun q hq => ⟨(N q (hm q hq).1).1, (hm q hq).2⟩) hg hl ?_
  intro F1 ws n h' tk' k' e1 e2 hc
  exact hret F1 ws n h' tk' (F.keeps k') (news_fresh F N k' e1 e2) (ne_fresh N e1) hc
theorem rv_led {X1 DX D1 PL : Addr} {t1 t2 t3 t4 t5 t6 tn : Tok} {c1 c2 : Nat} {av : Value} {ys ws : List Value} {ds : List D} {ks : List (Option Int)} {nm : Option Addr} (hh : A.handled = none) (B : Below A base outer h₀) (F : Fr h₀ L s.heap m) (N : News h₀ L s.heap all) (X : (Kh w.params).In h₀) (T : Top p' loose mean mg mb h₀)
    (hf : env.frame = some L) (hk : env.scope.kind = .function) (hR : Rm (A.deeper env) 16) (m1 : (X1, instObj 92 DX) ∈ all) (m2 : (DX, vecO w.params t1 t2 t3 t4 t5 t6 (Str.ofString "double") (.ref D1) av) ∈ all) (m3 : (D1, listOf ys.toArray c1) ∈ all) (m4 : (PL, listOf ws.toArray c2) ∈ all)
    (ha : AtsAt s.heap ys ds) (hd : ∀ d ∈ ds, EOk d) (hl : ds.length < 6) (hk' : CntAre ws ks) (hks : ∀ k ∈ ks, ∀ p, k = some p → (p = 10000 ∨ p = -10000 ∨ (-2 ≤ p ∧ p ≤ 4))) (hk0 : 0 < ks.length) (hk4 : ks.length < 4)
    (hav : AvIs prog w s.heap av nm) (hne : ∀ AD, av = .ref AD → AD ∉ ([X1, DX, D1, PL] : List Addr))
    (hret : ∀ F3 DF DI v1 v2 v3 v4 v5 v6 n3 av3 ws h' tk', Fr h₀ L h' m → News h₀ L h' ((F3, instObj 92 DF) :: (DF, vecO w.params v1 v2 v3 v4 v5 v6 (Str.ofString "double") (.ref DI) av3) :: (DI, listOf ws.toArray n3) :: all) → AvIs prog w h' av3 (if rvLen ds.length ks.length = ds.length then nm else none) →
      (∀ V2, (if rvLen ds.length ks.length = ds.length then nm else none) = some V2 → ∃ AD, av3 = .ref AD ∧ s.heap.get? AD = none) → AtsAt h' ws (rvD ds ks) → Q (.ref F3) { s with heap := h', toks := tk' }) :
    wpAny (model prog w) (A.deeper env) (call (.ref 331) [.str (Str.ofString "round") tn, .ref X1, .ref PL]) Q E s := by
  have hm : ∀ q ∈ [(X1, instObj 92 DX), (DX, vecO w.params t1 t2 t3 t4 t5 t6 (Str.ofString "double") (.ref D1) av), (D1, listOf ys.toArray c1), (PL, listOf ws.toArray c2)], q ∈ all ∧ q.2.cls ≠ .type "tuple" := by
    intro q hq
    simp only [List.mem_cons, List.not_mem_nil, or_false] at hq
    rcases hq with rfl | rfl | rfl | rfl
    · exact ⟨m1, fun e => nomatch e⟩
    · exact ⟨m2, fun e => absurd (Value.type.inj e) (by decide)⟩
    · exact ⟨m3, fun e => absurd (Value.type.inj e) (by decide)⟩
    · exact ⟨m4, fun e => absurd (Value.type.inj e) (by decide)⟩
  refine c_rv (nm := nm) rfl (cxo_push hh B F N (fun q hq => (hm q hq).1) X T hf hk) hR (fun q hq => (N q (hm q hq).1).1) (ha.hide fun q hq => ⟨(N q (hm q hq).1).1, (hm q hq).2⟩) hd hl hk' hks hk0 hk4 ?_ ?_
  rotate_left 1
  · rintro F1 ws h' tk' k' ⟨DF, DI, v1, v2, v3, v4, v5, v6, n3, av3, f1, f2, f3, g1, g2, g3, hv3, hn3⟩ hA
    exact hret F1 DF DI v1 v2 v3 v4 v5 v6 n3 av3 ws h' tk' (F.keeps k') (news_add F (news_add F (news_fresh F N k' f3 g3) f2 g2) f1 g1) hv3 hn3 hA
  cases nm with
  | none => exact hav
  | some V2 => obtain ⟨AD, oA, e, lo, hg, hd⟩ := hav; exact ⟨AD, oA, e, lo, hideAll_get _ hg (hne AD e), hd⟩
end
section
set_option maxHeartbeats 1500000 in
theorem stD {prog : Program} {w : World} {p : Program} {loose : List Str} {mean : ExcName → Option Value} {mg mb : Str → Option Value} {s : Shared} {E : Value → Shared → Prop} {Q : Flow → Shared → Prop} {h₀ : Heap} {L fa : Addr} {cd : Value} {s6 s7 : Stmt} {scope : Scope} (hs6 : bs 6 = s6) (hs7 : bs 7 = s7) (hs : fS (c 52) = scope)
  (X : (Kh w.params).In h₀) (T : Top p loose mean mg mb h₀) (B : Below callerA h₀ [] h₀)
  {X1 DX D1 Dg : Addr} {t1 t2 t3 t4 t5 t6 : Tok} {c1 : Nat} {av : Value} {ys yg : List Value} {o3 : Obj} {R : List (Addr × Obj)} {m0 : Str → Option Value}
  (F : Fr h₀ L s.heap (fun y => if y = Str.ofString "x" then some (.ref X1) else m0 y))
  (N : News h₀ L s.heap ((X1, instObj 92 DX) :: (DX, vecO w.params t1 t2 t3 t4 t5 t6 (Str.ofString "double") (.ref D1) av) :: (D1, listOf ys.toArray c1) :: (Dg, LCg.lst yg) :: (L + 1 + 1 + 1, o3) :: (319, tabObj #[]) :: R))
  (d3 : o3.data = .cell (some (.ref Dg))) {gs : List D} {tups : List (Addr × Obj)} (hag : AtsL h₀ tups yg gs) (htR : ∀ p ∈ tups, p ∈ R) (hgo : ∀ d ∈ gs, GOk d) (hgl : gs.length < 4)
  {ds : List D} {nm : Option Addr} (hae : AtsL h₀ R ys ds) (hde : ∀ d ∈ ds, EOk d) (hdl : ds.length < 6) (hav : (nm = none ∧ av = .none) ∨ ∃ V2 AD oA, nm = some V2 ∧ av = .ref AD ∧ (AD, oA) ∈ R ∧ Obj.IsDictOf (PySem.strKind prog w) oA [(Str.ofString "names", Value.ref V2)]) (havR : ∀ AD, av = .ref AD → AD ∉ ([X1, DX, D1] : List Addr) ∧ @LT.lt Nat _ 319 AD)
  (nextR : gs = [] → ∀ (h : Heap) (tk : Nat) (m : Str → Option Value), Fr h₀ L h m → GrownAt 319 h → Q (.ret (.bool true)) { s with heap := h, toks := tk }) (ho : OwnOff R [319, L + 1 + 1 + 1]) (l0 : @LT.lt Nat _ 319 L) (hD : ([X1, DX, D1, Dg, L + 1 + 1 + 1, 319] : List Nat).Nodup)
  (next : ∀ (F3 DF DI : Addr) (u1 u2 u3 u4 u5 u6 : Tok) (n3 : Nat) (va av3 : Value) (ws3 : List Value) (ps : Array Value) (T : List (Addr × Obj)) (h : Heap) (tk : Nat),
    Fr h₀ L h (fun y => if y = Str.ofString "told" then some (.ref F3) else if y = Str.ofString "asked" then some va else if y = Str.ofString "x" then some (.ref X1) else m0 y) →
    News h₀ L h ((F3, instObj 92 DF) :: (DF, vecO w.params u1 u2 u3 u4 u5 u6 (Str.ofString "double") (.ref DI) av3) :: (DI, listOf ws3.toArray n3) :: (X1, instObj 92 DX) :: (DX, vecO w.params t1 t2 t3 t4 t5 t6 (Str.ofString "double") (.ref D1) av) :: (D1, listOf ys.toArray c1) :: (Dg, LCg.lst yg) :: (L + 1 + 1 + 1, o3) :: (319, tabObj ps) :: (R ++ T)) →
    AtsL h₀ T ws3 (rvD ds (gs.map cnt)) →
    (((if rvLen ds.length gs.length = ds.length then nm else none) = none ∧ av3 = .none) ∨ ∃ V2 AD oA, (if rvLen ds.length gs.length = ds.length then nm else none) = some V2 ∧ av3 = .ref AD ∧ (AD == sysModules) = false ∧ (AD, oA) ∈ T ∧ Obj.IsDictOf (PySem.strKind prog w) oA [(Str.ofString "names", Value.ref V2)]) →
    0 < gs.length → Q .next { s with heap := h, toks := tk }) :
  wpAny (model prog w) (callerA.deeper (envOfC (Str.ofString "law") scope L fa cd)) (execs [s6, s7] (envOfC (Str.ofString "law") scope L fa cd)) Q E s := by
  conv at hs6 => lhs; whnf
  conv at hs7 => lhs; whnf
  conv at hs => lhs; whnf
  subst hs6 hs7 hs
  repeat (have nd9 := nd_nel hD; replace hD := nd_tl hD)
  have hR : Rm callerA 20 := by constructor <;> decide
  have hHand : Hand := ⟨⟩
  have hCH : CodeHd h₀ 323 319 := codeHd_of_K X (by kernel_rfl)
  have hyg : yg.length < 4 := by rw [hag.length]; exact hgl
  k_extra "my go"
  unfold Stop
  rename Fr _ _ _ _ => kF
  rename News _ _ _ _ => kN
  rename Rm _ _ => kR
  refine take_led (by with_unfolding_all rfl) (by with_reducible assumption) kF kN (by with_reducible assumption) (by with_reducible assumption) rfl rfl (by first | exact kR.deeper (by decide) | exact Rm.deeper2 kR (by decide)) (by k_mem) (by k_mem) (by k_mem) (by k_mem) ?_
  intro F1 n h' tk' kF2 kN2 n1
  k_lt n1
  clear kF kN
  k_extra "my go"
  unfold Stop
  rename Fr _ _ _ _ => kF
  rename News _ _ _ _ => kN
  rename Rm _ _ => kR
  rename Fr h₀ L _ _ => FG
  have hat := hag.at2 (fun b o e => kF.keep _ _ (FG.keep _ _ e)) (fun p hp => (kN p (by have z := htR p hp; repeat (first | exact z | refine List.Mem.tail _ ?_))).1)
  refine counts_led (by with_unfolding_all rfl) (by with_reducible assumption) kF kN (by with_reducible assumption) (by with_reducible assumption) rfl rfl (by first | exact kR.deeper (by decide) | exact Rm.deeper2 kR (by decide)) (by k_mem) (by k_mem) (by k_mem) hat hgo hgl ?_
  intro F2 ws n h' tk' kF3 kN3 n2 hc
  have n2m := n2.mem
  k_lt n2
  have hlc : ws.length = gs.length := by rw [hc.length, List.length_map]
  clear kF kN hat
  k_extra "my go"
  · unfold Stop
    clear hCH
    refine Raise65 (P := w.params) (by with_unfolding_all rfl) ?_
    k_extra "my go"
    unfold Stop
    rename Fr _ _ _ _ => kF
    rename News _ _ _ _ => kN
    rename Rm _ _ => kR
    refine refusal_led (by with_unfolding_all rfl) (by with_reducible assumption) kF (by with_reducible assumption) (by with_reducible assumption) rfl rfl (by first | exact kR.deeper (by decide) | exact Rm.deeper2 kR (by decide)) ?_
    intro e t d ta h' tk' k' en dn dne he hd
    refine ⟨e, t, d, rfl, k' _ _ (kF.keep _ _ (FG.keep _ _ (X 65 _ (by kernel_rfl)))), he, ?_⟩
    show wpAny _ _ (leaving _ (.ref e)) _ _ _
    refine leave65 (by with_reducible assumption) kF kN k' en he rfl rfl ?_
    intro Bf h'' x st hl hg
    show wpAny _ _ (noteFrame (.ref e) _) _ _ _
    have hdB : h₀.get? d = none := by
      cases q : h₀.get? d with
      | none => rfl
      | some o => have := kF.keep _ _ (FG.keep _ _ q); rw [dn] at this; cases this
    have hdL : d ≠ L := fun q => by
      obtain ⟨oL, _, _, hL, _⟩ := FG.ns
      have := kF.keep _ _ hL
      rw [← q, dn] at this; cases this
    refine note65 (L := L) rfl rfl FG ((Heap.UpToSlots.of_keeps kF.keep).trans (Heap.UpToSlots.of_keeps k')) x st hl hd (fun vs q => nomatch q) hdB hdL ?_
    intro h4 oe sl F4 N4 c1 c2 c3 x4
    have hup := (Heap.UpToSlots.of_keeps kF.keep).trans (Heap.UpToSlots.of_keeps k')
    clear kF kN
    refine wpAny_handleBy_cons (codeAny_handlers_test ?_) (by intro q; cases q)
    k_extra "my go"
    have h65 : h4.get? 65 = some (o105 w.params) := F4.keep _ _ (X 65 _ (by kernel_rfl))
    have h65' : h4.get? 65 = some (excClassObj _ _ 65 _ _ [.ref 45, .type "Exception", .type "BaseException", .type "object"] _ _ _ _ _ _ _ _ _ _ _ _) := h65
    refine wpAny_excMatches_sub_self h65' (N4 _ (.head _)).1 c1 (by decide) (codeAny_handlers_suite_as ?_)
    refine landM (s := { s with heap := h4, toks := _ }) x4 fun h5 x5 => ?_
    clear F4 N4 c1 c2 c3
    obtain ⟨oe, sl, F4, N4, c1, c2, c3⟩ := fly_law (L := L) rfl FG hup x5 st hl hd (fun vs q => nomatch q) hdB hdL
    have hws : ws = [] := List.isEmpty_iff.mp (by with_reducible assumption)
    have hgs : gs = [] := List.length_eq_zero_iff.mp (by rw [← hlc, hws]; rfl)
    have hQ0 : HandQ := ⟨⟩
    have hE0 : HandE := ⟨⟩
    k_extra "my go"
    unfold Stop
    rename Fr _ _ _ _ => kF
    rename News _ _ _ _ => kN
    refine eq_lists (as := gs) (bs := []) (Rm.room (env := envOfC (Str.ofString "law") (fS (c 52)) L fa cd) (show Rm callerA 20 by constructor <;> decide)) (hag.at2 (fun b o e => kF.keep _ _ e) (fun p hp => (kN p (by have z := htR p hp; repeat (first | exact z | refine List.Mem.tail _ ?_))).1)) .nil (kN (Dg, LCg.lst yg) (by k_mem)).1 (kN _ (.head _)).1 ?_
    rw [decide_eq_true hgs]
    k_extra "my go"
    unfold Stop
    obtain ⟨vs9, c4⟩ := c3
    refine getM65 (sl := sl) (oe := oe) (d := d) (X.keeps kF.keep) (kN (e, oe) (by k_mem)).1 c1 c2 c4 (kN (d, _) (by k_mem)).1 ?_
    k_extra "my go"
    refine wpAny_nameGoes_keeps (by rfl) kF.ns (by rfl) fun h6 v6 hn6 hs6 => ?_
    exact nextR hgs _ _ _ (kF.set hn6 hs6) (GrownAt.of (kN.set hs6) (by k_mem))
  · unfold Stop
    rename Fr _ _ _ _ => kF
    rename News _ _ _ _ => kN
    rename Rm _ _ => kR
    have hat2 := hae.at2 (fun b o e => kF.keep _ _ (FG.keep _ _ e)) (fun p hp => (kN p (by repeat (first | exact hp | refine List.Mem.tail _ ?_))).1)
    refine rv_led (nm := nm) (ks := gs.map cnt) (by with_unfolding_all rfl) (by with_reducible assumption) kF kN (by with_reducible assumption) (by with_reducible assumption) rfl rfl (by first | exact kR.deeper (by decide) | exact Rm.deeper2 kR (by decide)) (by k_mem) (by k_mem) (by k_mem) (by k_mem) hat2 hde hdl hc ?_ ?_ ?_ ?_ ?_ ?_
    · exact kgo hgo
    · rw [List.length_map, ← hlc]
      have hE : ws.isEmpty = false := by with_reducible assumption
      exact List.length_pos_iff.mpr fun e => by rw [e] at hE; cases hE
    · rw [List.length_map]; exact hgl
    · rcases hav with ⟨rfl, rfl⟩ | ⟨V2, AD, oA, rfl, rfl, hm, hdA⟩
      · rfl
      · have h319 := (havR AD rfl).2
        exact ⟨AD, oA, rfl, beq_eq_false_iff_ne.mpr (fun e => by have e' : @Eq Nat AD 1 := e; omega), (kN (AD, oA) (by repeat (first | exact hm | refine List.Mem.tail _ ?_))).1, hdA⟩
    · intro AD e
      have he := (havR AD e).1
      rcases hav with ⟨-, e'⟩ | ⟨V2, AD', oA, -, e', hm, -⟩
      · rw [e'] at e; cases e
      · rw [e'] at e; cases e
        have hF2 := n2m (AD, oA) (by repeat (first | exact hm | refine List.Mem.tail _ ?_))
        simp only [List.mem_cons, List.not_mem_nil, or_false, not_or] at he ⊢
        exact ⟨he.1, he.2.1, he.2.2, hF2⟩
    · intro F3 DF DI v1 v2 v3 v4 v5 v6 n3 av3 ws3 h' tk' kF5 kN5 hv3 hn3 hA
      rw [List.length_map] at hv3 hn3
      have hn4 : ∀ V2, (if rvLen ds.length gs.length = ds.length then nm else none) = some V2 → ∃ AD, av3 = .ref AD ∧ h₀.get? AD = none ∧ AD ≠ L := fun V2 e => by
        obtain ⟨AD, ea, en⟩ := hn3 V2 e
        refine ⟨AD, ea, ?_, fun q => ?_⟩
        · cases q : h₀.get? AD with
          | none => rfl
          | some o => have := kF.keep _ _ (FG.keep _ _ q); rw [en] at this; cases this
        · obtain ⟨oL, _, _, hL, _⟩ := FG.ns
          have := kF.keep _ _ hL
          rw [← q, en] at this; cases this
      have hg0 : 0 < gs.length := by
        have hE : ws.isEmpty = false := by with_reducible assumption
        rw [← hlc]
        exact List.length_pos_iff.mpr fun e => by rw [e] at hE; cases hE
      have hS0 : HandS := ⟨⟩
      clear kF kN hat2 hn3
      k_extra "my go"
      unfold Stop
      rename Fr _ _ _ _ => kF
      rename News _ _ _ _ => kN
      refine led_cps kF kN hA hv3 hn4 fun T7 kN8 aT hav8 => ?_
      dsimp only [List.cons_append] at kN8
      rename HandS => hS0
      clear hS0 kN
      k_extra "my go"
      rename Fr _ _ _ _ => kF
      rename News _ _ _ _ => kN
      obtain ⟨ps, hps⟩ := tab_of kN (by k_extra "my mem")
      refine next F3 DF DI v1 v2 v3 v4 v5 v6 n3 _ av3 ws3 ps T7 _ _ kF ?_ aT hav8 hg0
      repeat (refine news_cons.mpr ⟨by first | exact hps | exact kN _ (by k_mem), ?_⟩)
      exact fun q hq => kN q (by repeat (first | exact hq | refine List.Mem.tail _ ?_))
end

section
set_option maxHeartbeats 4000000 in
theorem stE {prog : Program} {w : World} {p : Program} {loose : List Str} {mean : ExcName → Option Value} {mg mb : Str → Option Value} {s : Shared} {E : Value → Shared → Prop} {Q : Flow → Shared → Prop} {h₀ : Heap} {L fa : Addr} {cd : Value} {s8 s9 : Stmt} {scope : Scope} (hs8 : bs 8 = s8) (hs9 : bs 9 = s9) (hs : fS (c 52) = scope)
  (X : (Kh w.params).In h₀) (T : Top p loose mean mg mb h₀) (B : Below callerA h₀ [] h₀)
  {Dd Dg : Addr} {ys yg : List Value} {oe o3 : Obj} {R : List (Addr × Obj)} {m : Str → Option Value}
  (F : Fr h₀ L s.heap m) (N : News h₀ L s.heap ((Dd, LCg.lst ys) :: (Dg, LCg.lst yg) :: (L + 1 + 1, oe) :: (L + 1 + 1 + 1, o3) :: R))
  (de : oe.data = .cell (some (.ref Dd))) (d3 : o3.data = .cell (some (.ref Dg))) {ds gs : List D} (hae : AtsL h₀ R ys ds) (hag : AtsL h₀ R yg gs) (hdl : ds.length < 6) (hgl : gs.length < 4) (hg0 : gs ≠ [])
  (next : ∀ (t : Tok) (h : Heap) (tk : Nat), Fr h₀ L h (fun y => if y = Str.ofString "total" then some (.int ((rvLen ds.length gs.length : Nat) : Int) t) else m y) → News h₀ L h ((Dd, LCg.lst ys) :: (Dg, LCg.lst yg) :: (L + 1 + 1, oe) :: (L + 1 + 1 + 1, o3) :: R) → Q .next { s with heap := h, toks := tk }) :
  wpAny (model prog w) (callerA.deeper (envOfC (Str.ofString "law") scope L fa cd)) (execs [s8, s9] (envOfC (Str.ofString "law") scope L fa cd)) Q E s := by
  conv at hs8 => lhs; whnf
  conv at hs9 => lhs; whnf
  conv at hs => lhs; whnf
  subst hs8 hs9 hs
  have hR : Rm callerA 20 := by constructor <;> decide
  have hHand : Hand := ⟨⟩
  have hQ0 : HandQ := ⟨⟩
  have hly : ys.length = ds.length := hae.length
  have hlg : yg.length = gs.length := hag.length
  k_extra "my go"
  unfold Stop
  rename Fr _ _ _ _ => kF
  rename News _ _ _ _ => kN
  refine eq_lists (as := gs) (bs := []) (Rm.room hR) (hag.at2 kF.keep fun p hp => (kN p (by repeat (first | exact hp | refine List.Mem.tail _ ?_))).1) .nil (kN (Dg, LCg.lst yg) (by k_mem)).1 (kN _ (.head _)).1 ?_
  rw [decide_eq_false hg0]
  k_extra "my go"
  unfold Stop
  rename Fr _ _ _ _ => kF
  rename News _ _ _ _ => kN
  refine eq_lists (as := ds) (bs := []) (Rm.room hR) (hae.at2 kF.keep fun p hp => (kN p (by repeat (first | exact hp | refine List.Mem.tail _ ?_))).1) .nil (kN (Dd, LCg.lst ys) (by k_mem)).1 (kN _ (.head _)).1 ?_
  by_cases hd0 : ds = []
  · rw [decide_eq_true hd0]
    k_extra "my go"
    rename Fr _ _ _ _ => kF
    rename News _ _ _ _ => kN
    have e : ((rvLen ds.length gs.length : Nat) : Int) = 0 := by rw [hd0]; rfl
    rw [e] at next
    exact next _ _ _ kF (fun q hq => kN q (.tail _ (.tail _ hq)))
  · rw [decide_eq_false hd0]
    k_extra "my go"
    rename Fr _ _ _ _ => kF
    rename News _ _ _ _ => kN
    have hdp : 0 < ds.length := List.length_pos_iff.mpr hd0
    by_cases q : (yg.length : Int) > (ys.length : Int)
    · have e : ((rvLen ds.length gs.length : Nat) : Int) = (yg.length : Int) := by unfold rvLen; rw [if_neg (by omega)]; omega
      simp only [if_pos q] at kF
      rw [e] at next
      exact next _ _ _ kF (fun q hq => kN q (.tail _ (.tail _ hq)))
    · have e : ((rvLen ds.length gs.length : Nat) : Int) = (ys.length : Int) := by unfold rvLen; rw [if_neg (by omega)]; omega
      simp only [if_neg q] at kF
      rw [e] at next
      exact next _ _ _ kF (fun q hq => kN q (.tail _ (.tail _ hq)))
end

theorem AtL.at2 {h₀ h : Heap} {l : List (Addr × Obj)} {v : Value} {d : D} (x : AtL h₀ l v d) (k : h₀.StaysIn h) (hl : ∀ p ∈ l, h.get? p.1 = some p.2) : At h v d := by
  cases d with
  | no => exact x
  | pr p q =>
    obtain ⟨y, ta, tb, e, t | ⟨o, hm, c, n, hd⟩⟩ := x
    · exact ⟨y, ta, tb, e, t.keeps k⟩
    · exact ⟨y, ta, tb, e, o, hl _ hm, c, n, hd⟩
theorem word_100 : True := by
  k_with "my call ref" => (((with_reducible show wpAny _ _ (call (Value.ref 373) _) _ _ _); (k_dflt ((rename Hand => hHand9m); (refine Stop.out ?_)))))
  trivial
section
set_option maxHeartbeats 4000000 in
theorem stF {prog : Program} {w : World} {p : Program} {loose : List Str} {mean : ExcName → Option Value} {mg mb : Str → Option Value} {s : Shared} {E : Value → Shared → Prop} {Q : Flow → Shared → Prop} {h₀ : Heap} {L fa : Addr} {cd : Value} {s10 : Stmt} {scope : Scope} (hs10 : bs 10 = s10) (hs : fS (c 52) = scope)
  (X : (Kh w.params).In h₀) (T : Top p loose mean mg mb h₀) (B : Below callerA h₀ [] h₀)
  {Dd Dg : Addr} {ys yg : List Value} {oe o3 : Obj} {R : List (Addr × Obj)} {m : Str → Option Value} {t : Tok} {tot : Nat}
  (F : Fr h₀ L s.heap (fun y => if y = Str.ofString "total" then some (.int (tot : Int) t) else m y)) (N : News h₀ L s.heap ((Dd, LCg.lst ys) :: (Dg, LCg.lst yg) :: (L + 1 + 1, oe) :: (L + 1 + 1 + 1, o3) :: R))
  (de : oe.data = .cell (some (.ref Dd))) (d3 : o3.data = .cell (some (.ref Dg))) {ds gs : List D} (hae : AtsL h₀ R ys ds) (hag : AtsL h₀ R yg gs) (hde : ∀ d ∈ ds, EOk d) (hgo : ∀ d ∈ gs, GOk d) (hdl : ds.length < 6) (hgl : gs.length < 4) (hg0 : 0 < gs.length) (ht : tot = rvLen ds.length gs.length)
  (hD : ([Dd, Dg, L + 1 + 1, L + 1 + 1 + 1] : List Nat).Nodup)
  (next : ∀ (Du : Addr) (yu : List Value) (tups : List (Addr × Obj)) (h : Heap) (tk : Nat), Fr h₀ L h (fun y => if y = Str.ofString "due" then some (.ref Du) else if y = Str.ofString "total" then some (.int (tot : Int) t) else m y) →
    News h₀ L h ((Du, LCg.lst yu) :: (Dd, LCg.lst ys) :: (Dg, LCg.lst yg) :: (L + 1 + 1, oe) :: (L + 1 + 1 + 1, o3) :: (R ++ tups)) → AtsL h₀ (tups ++ R) yu ((List.range tot).map fun i => dueD (ds.getD (i % ds.length) .no) (gs.getD (i % gs.length) .no)) → Q .next { s with heap := h, toks := tk }) :
  wpAny (model prog w) (callerA.deeper (envOfC (Str.ofString "law") scope L fa cd)) (execs [s10] (envOfC (Str.ofString "law") scope L fa cd)) Q E s := by
  conv at hs10 => lhs; whnf
  conv at hs => lhs; whnf
  subst hs10 hs
  repeat (have nd9 := nd_nel hD; replace hD := nd_tl hD)
  have hR : Rm callerA 20 := by constructor <;> decide
  have hHand : Hand := ⟨⟩
  have hly : ys.length = ds.length := hae.length
  have hlg : yg.length = gs.length := hag.length
  have htot : tot < 100000 := by subst ht; unfold rvLen; split <;> omega
  have hI0 : Idx := ⟨⟩
  k_extra "my go"
  unfold Stop
  rename IsRange _ _ _ _ _ _ _ _ => hr
  rename Fr _ _ _ _ => kF
  rename News _ _ _ _ => kN
  refine LCg.CompSrc.range (n := tot) rfl kF kN hr (small_one (by omega) (by omega) (by omega) (by omega)) (by rw [rangeSize_nat]; omega) (by rw [sizeLine_eq]; omega) ?_
  intro g
  refine comp_map (T := R) (Z := fun _ => True) (G := fun i => dueD (ds.getD (i % ds.length) .no) (gs.getD (i % gs.length) .no)) (fun tups => trivial) ?_ ?_
  · intro i v I oI C oC Dq yq m₂ h tk E' tups hi' hv hC hx F₂ N₂ off ne ho
    obtain ⟨t₇, rfl⟩ := hv
    have of1 := (off3_nel off ne).1
    have of2 := (off3_nel off ne).2.1
    have of3 := (off3_nel off ne).2.2
    clear ne
    dsimp only [List.map, List.cons_append, List.nil_append, List.map_append] at of1 of2 of3
    simp only [List.cons_append, List.map_cons] at N₂ ho
    have hi2 : i < rvLen ds.length gs.length := by omega
    have hds0 : 0 < ds.length := by unfold rvLen at hi2; split at hi2 <;> omega
    have hm1 : i % gs.length < gs.length := Nat.mod_lt _ (by omega)
    have hm2 : i % ds.length < ds.length := Nat.mod_lt _ hds0
    obtain ⟨u, hu⟩ : ∃ u, yg[i % gs.length]? = some u := ⟨_, List.getElem?_eq_getElem (by omega)⟩
    obtain ⟨z, hz⟩ : ∃ z, ys[i % ds.length]? = some z := ⟨_, List.getElem?_eq_getElem (by omega)⟩
    obtain ⟨gd, hgd, hgat⟩ := hag.get hu
    obtain ⟨dd, hdd, hdat⟩ := hae.get hz
    have hgok := hgo gd (List.mem_of_getElem? hgd)
    have hdok := hde dd (List.mem_of_getElem? hdd)
    rw [← hlg] at hu
    rw [← hly] at hz
    replace hu : yg[((0 + (i : Int)).fmod (yg.length : Int)).toNat]? = some u := by rw [fm]; exact hu
    replace hz : ys[((0 + (i : Int)).fmod (ys.length : Int)).toNat]? = some z := by rw [fm]; exact hz
    have hm1' : i % yg.length < yg.length := by rw [hlg]; exact hm1
    have hm2' : i % ys.length < ys.length := by rw [hly]; exact hm2
    have b1 : 0 ≤ (0 + (i : Int)).fmod (yg.length : Int) := by rw [fm]; omega
    have b2 : (0 + (i : Int)).fmod (yg.length : Int) < 2 ^ 63 := by rw [fm]; omega
    have b3 : 0 ≤ (0 + (i : Int)).fmod (ys.length : Int) := by rw [fm]; omega
    have b4 : (0 + (i : Int)).fmod (ys.length : Int) < 2 ^ 63 := by rw [fm]; omega
    rw [show ds.getD (i % ds.length) .no = dd by simp [hdd], show gs.getD (i % gs.length) .no = gd by simp [hgd]]
    obtain ⟨R2, hR2⟩ : ∃ R2, R2 = R ++ tups := ⟨_, rfl⟩
    have hRR : ∀ p ∈ R, p ∈ R2 := fun p hp => by rw [hR2]; exact List.mem_append_left _ hp
    rw [← hR2] at N₂
    clear kF kN hr
    k_extra "my go"
    unfold Stop
    rename Fr _ _ _ _ => kF
    rename News _ _ _ _ => kN
    rename Rm _ _ => kR
    refine c_due (cx_push (by with_unfolding_all rfl) (by with_reducible assumption) kF (by with_reducible assumption) (by with_reducible assumption) rfl rfl) (by first | exact kR.deeper (by decide) | exact Rm.deeper2 kR (by decide)) _ _ dd gd ?_ ?_ hdok hgok ?_
    · exact hdat.at2 kF.keep fun p hp => (kN p (by have z := hRR p hp; repeat (first | exact z | refine List.Mem.tail _ ?_))).1
    · exact hgat.at2 kF.keep fun p hp => (kN p (by have z := hRR p hp; repeat (first | exact z | refine List.Mem.tail _ ?_))).1
    · intro v' h' tk' k' hA
      have kF2 := kF.keeps k'
      have kN2 := kN.grown k'
      clear kF kN
      k_extra "my go"
      all_goals subst hR2
      · assumption
      · assumption
      · rcases hA with ⟨rfl, e⟩ | hA
        · exact .inl ⟨by rw [e]; exact hdat, trivial⟩
        · exact .inr hA
  · intro yu tups hat _ hot
    intro Du h tk F₂ N₂ off
    have of1 := off1_nel off
    dsimp only [List.map, List.cons_append, List.nil_append, List.map_append] at of1
    simp only [List.cons_append, List.map_cons] at N₂ hot
    clear kF kN hr
    k_extra "my go"
    exact next _ _ _ _ _ F₂ N₂ hat
end

/-- a list of strings -/
inductive StrsAre : List Value → List Str → Prop
  | nil : StrsAre [] []
  | cons {x : Str} {t : Tok} {ys : List Value} {xs : List Str} : PyData.strOk x = true → StrsAre ys xs → StrsAre (.str x t :: ys) (x :: xs)
theorem map3 {m : Str → Option Value} {a b c : Str} {v1 v2 v3 : Option Value} (h1 : m a = v1) (h2 : m b = v2) (h3 : m c = v3) : (fun y => if y = a then v1 else if y = b then v2 else if y = c then v3 else m y) = m := by
  funext y
  (repeat' split) <;> simp_all
theorem strs_of : ∀ ys : List Value, (∀ (i : Nat) (y : Value), ys[i]? = some y → ∃ x t, y = Value.str x t ∧ PyData.strOk x = true) → ∃ xs, StrsAre ys xs
  | [], _ => ⟨[], .nil⟩
  | y :: ys, h => by
    obtain ⟨x, t, rfl, hx0⟩ := h 0 y rfl
    obtain ⟨xs, hx⟩ := strs_of ys fun i z e => h (i + 1) z (by simpa using e)
    exact ⟨x :: xs, .cons hx0 hx⟩
theorem StrsAre.reads {h : Heap} {ys : List Value} {xs : List Str} (a : StrsAre ys xs) : ReadsAll h ys (xs.map PyData.str) [] := by
  induction a with
  | nil => exact .nil
  | cons _ _ ih => exact .cons (.str _ _) ih
theorem StrsAre.list {h : Heap} {l : Addr} {ys : List Value} {xs : List Str} {n : Nat} (a : StrsAre ys xs) (e : h.get? l = some (listOf ys.toArray n)) : Reads h (.ref l) (.list (xs.map PyData.str)) [l] := .list e rfl rfl (by simpa using a.reads)
theorem eqv_strs : ∀ xs : List Str, PyData.eqv (.list (xs.map PyData.str)) (.list (xs.map PyData.str)) = true
  | [] => by simp [PyData.eqv, PyData.eqvAll]
  | x :: xs => by
    have ih := eqv_strs xs
    simp only [PyData.eqv] at ih
    simp only [List.map_cons, PyData.eqv, PyData.eqvAll, ih]
    simp
theorem shaped_strs_all {ys : List Value} {xs : List Str} (a : StrsAre ys xs) : PyData.canLayAll0 (xs.map PyData.str) = true ∧ PyData.depthAll (xs.map PyData.str) ≤ 1 := by
  induction a with
  | nil => exact ⟨rfl, Nat.zero_le _⟩
  | cons hx _ ih =>
    obtain ⟨h1, h2⟩ := ih
    refine ⟨?_, ?_⟩
    · rw [List.map_cons]; unfold PyData.canLayAll0; rw [h1, Bool.and_true]; unfold PyData.canLay0; exact hx
    · rw [List.map_cons]; unfold PyData.depthAll; exact Nat.max_le.mpr ⟨by simp [PyData.depth], h2⟩
theorem shaped_strs {ys : List Value} {xs : List Str} (a : StrsAre ys xs) : PySem.SeqAt.shaped (.list (xs.map PyData.str)) = true := by
  obtain ⟨h1, h2⟩ := shaped_strs_all a
  unfold PySem.SeqAt.shaped
  rw [Bool.and_eq_true]
  refine ⟨by unfold PyData.canLay0; exact h1, decide_eq_true ?_⟩
  unfold PyData.depth; omega
theorem eq_strs {prog : Program} {w : World} {A : Around} {s : Shared} {Q E : Value → Shared → Prop} {l k : Addr} {n n' : Nat} {ys : List Value} {xs : List Str} (hu : A.units + 64 < cLine) (a : StrsAre ys xs) (e1 : s.heap.get? l = some (listOf ys.toArray n)) (e2 : s.heap.get? k = some (listOf ys.toArray n')) (h : Q (.bool true) s) :
    wpAny (model prog w) A (compareOp .Eq (.ref l) (.ref k)) Q E s := eq_dataH (a.list e1) (a.list e2) (shaped_strs a) (shaped_strs a) hu (by rw [eqv_strs]; exact h)
noncomputable def HeadsAt (w : World) (R : List (Addr × Obj)) (V2 : Addr) (hv : Value) : Prop := ∃ (DV2 HL HD : Addr) (v1 v2 v3 v4 v5 v6 : Tok) (c1 n2 : Nat) (yh : List Value) (xs : List Str), hv = .ref HD ∧
  (V2, instObj 92 DV2) ∈ R ∧ (DV2, vecO w.params v1 v2 v3 v4 v5 v6 (Str.ofString "character") (.ref HL) .none) ∈ R ∧ (HL, listOf yh.toArray c1) ∈ R ∧ (HD, listOf yh.toArray n2) ∈ R ∧ StrsAre yh xs
theorem HeadsAt.mono {w : World} {R R' : List (Addr × Obj)} {V2 : Addr} {hv : Value} (h : HeadsAt w R V2 hv) (k : ∀ p ∈ R, p ∈ R') : HeadsAt w R' V2 hv := by
  obtain ⟨DV2, HL, HD, v1, v2, v3, v4, v5, v6, c1, n2, yh, xs, e, m2, m3, m4, m5, hxs⟩ := h
  exact ⟨DV2, HL, HD, v1, v2, v3, v4, v5, v6, c1, n2, yh, xs, e, k _ m2, k _ m3, k _ m4, k _ m5, hxs⟩
section
set_option maxHeartbeats 4000000 in
theorem stG {prog : Program} {w : World} {p : Program} {loose : List Str} {mean : ExcName → Option Value} {mg mb : Str → Option Value} {s : Shared} {E : Value → Shared → Prop} {Q : Flow → Shared → Prop} {h₀ : Heap} {L fa : Addr} {cd : Value} {s11 : Stmt} {scope : Scope} (hs11 : bs 11 = s11) (hs : fS (c 52) = scope)
  (X : (Kh w.params).In h₀) (T : Top p loose mean mg mb h₀) (B : Below callerA h₀ [] h₀)
  {F3 DF DI X1 DX D1 Dd Du : Addr} {t1 t2 t3 t4 t5 t6 u1 u2 u3 u4 u5 u6 : Tok} {c1 n3 : Nat} {av av3 : Value} {ys ws yu : List Value} {oe : Obj} {R : List (Addr × Obj)} {m : Str → Option Value}
  (F : Fr h₀ L s.heap m) (N : News h₀ L s.heap ((F3, instObj 92 DF) :: (DF, vecO w.params u1 u2 u3 u4 u5 u6 (Str.ofString "double") (.ref DI) av3) :: (DI, listOf ws.toArray n3) :: (X1, instObj 92 DX) :: (DX, vecO w.params t1 t2 t3 t4 t5 t6 (Str.ofString "double") (.ref D1) av) :: (D1, listOf ys.toArray c1) ::
    (Dd, LCg.lst ys) :: (Du, LCg.lst yu) :: (L + 1 + 1, oe) :: R))
  (mt : m (Str.ofString "told") = some (.ref F3)) (mx : m (Str.ofString "x") = some (.ref X1)) (md : m (Str.ofString "due") = some (.ref Du))
  (de : oe.data = .cell (some (.ref Dd))) {ds es : List D} (hae : AtsL h₀ R ys ds) (haw : AtsL h₀ R ws es) (hau : AtsL h₀ R yu es)
  (next : ∀ (h : Heap) (tk : Nat), Fr h₀ L h m → News h₀ L h ((F3, instObj 92 DF) :: (DF, vecO w.params u1 u2 u3 u4 u5 u6 (Str.ofString "double") (.ref DI) av3) :: (DI, listOf ws.toArray n3) :: (X1, instObj 92 DX) :: (DX, vecO w.params t1 t2 t3 t4 t5 t6 (Str.ofString "double") (.ref D1) av) :: (D1, listOf ys.toArray c1) ::
    (Dd, LCg.lst ys) :: (Du, LCg.lst yu) :: (L + 1 + 1, oe) :: R) → Q .next { s with heap := h, toks := tk }) :
  wpAny (model prog w) (callerA.deeper (envOfC (Str.ofString "law") scope L fa cd)) (execs [s11] (envOfC (Str.ofString "law") scope L fa cd)) Q E s := by
  conv at hs11 => lhs; whnf
  conv at hs => lhs; whnf
  subst hs11 hs
  have hR : Rm callerA 20 := by constructor <;> decide
  have hQ0 : HandQ := ⟨⟩
  rw [← map3 mt mx md] at F
  k_extra "my go"
  unfold Stop
  rename Fr _ _ _ _ => kF
  rename News _ _ _ _ => kN
  have up : ∀ q ∈ R, _ := fun q hq => (kN q (by repeat (first | exact hq | refine List.Mem.tail _ ?_))).1
  refine ne_lists (as := es) (bs := es) (Rm.room hR) (haw.at2 kF.keep up) (hau.at2 kF.keep up) (kN (DI, listOf ws.toArray n3) (by k_mem)).1 (kN (Du, LCg.lst yu) (by k_mem)).1 ?_
  rw [decide_eq_true rfl]
  k_extra "my go"
  unfold Stop
  refine ne_lists (as := ds) (bs := ds) (Rm.room hR) (hae.at2 kF.keep up) (hae.at2 kF.keep up) (kN (D1, listOf ys.toArray c1) (by k_mem)).1 (kN (Dd, LCg.lst ys) (by k_mem)).1 ?_
  rw [decide_eq_true rfl]
  k_extra "my go"
  rename Fr _ _ _ _ => kF
  rename News _ _ _ _ => kN
  rw [map3 mt mx md] at kF
  exact next _ _ kF kN
set_option maxHeartbeats 4000000 in
theorem stH {prog : Program} {w : World} {p : Program} {loose : List Str} {mean : ExcName → Option Value} {mg mb : Str → Option Value} {s : Shared} {E : Value → Shared → Prop} {Q : Flow → Shared → Prop} {h₀ : Heap} {L fa : Addr} {cd : Value} {s12 s13 : Stmt} {scope : Scope} (hs12 : bs 12 = s12) (hs13 : bs 13 = s13) (hs : fS (c 52) = scope)
  (X : (Kh w.params).In h₀) (T : Top p loose mean mg mb h₀) (B : Below callerA h₀ [] h₀)
  {F3 DF DI Dd : Addr} {u1 u2 u3 u4 u5 u6 tt : Tok} {tot : Nat} {av3 hv : Value} {ys : List Value} {oe : Obj} {ps : Array Value} {R : List (Addr × Obj)} {m : Str → Option Value}
  (F : Fr h₀ L s.heap m) (N : News h₀ L s.heap ((F3, instObj 92 DF) :: (DF, vecO w.params u1 u2 u3 u4 u5 u6 (Str.ofString "double") (.ref DI) av3) :: (Dd, LCg.lst ys) :: (L + 1 + 1, oe) :: (319, tabObj ps) :: R))
  (mt : m (Str.ofString "told") = some (.ref F3)) (mh : m (Str.ofString "heads") = some hv) (mo : m (Str.ofString "total") = some (.int (tot : Int) tt))
  (de : oe.data = .cell (some (.ref Dd))) (hyl : ys.length < 6)
  (hcase : (av3 = .none ∧ (tot = ys.length → hv = .none)) ∨ (∃ (AD V2 : Addr) (oA : Obj), av3 = .ref AD ∧ tot = ys.length ∧ (AD == sysModules) = false ∧ (AD, oA) ∈ R ∧ Obj.IsDictOf (PySem.strKind prog w) oA [(Str.ofString "names", Value.ref V2)] ∧ HeadsAt w R V2 hv))
  (fin : ∀ (h : Heap) (tk : Nat) (m : Str → Option Value), Fr h₀ L h m → GrownAt 319 h → Q (.ret (.bool true)) { s with heap := h, toks := tk }) :
  wpAny (model prog w) (callerA.deeper (envOfC (Str.ofString "law") scope L fa cd)) (execs [s12, s13] (envOfC (Str.ofString "law") scope L fa cd)) Q E s := by
  conv at hs12 => lhs; whnf
  conv at hs13 => lhs; whnf
  conv at hs => lhs; whnf
  subst hs12 hs13 hs
  have hR : Rm callerA 20 := by constructor <;> decide
  have hQ0 : HandQ := ⟨⟩
  rw [← map3 mt mh mo] at F
  rcases hcase with ⟨rfl, hc⟩ | ⟨AD, V2, oA, rfl, rfl, h319, m1, hdA, DV2, HL, HD, v1, v2, v3, v4, v5, v6, c1, n2, yh, xs, rfl, m2, m3, m4, m5, hxs⟩
  · by_cases ht : tot = ys.length
    · cases hc ht
      subst ht
      k_extra "my go"
      · rename Fr _ _ _ _ => kF
        rename News _ _ _ _ => kN
        exact fin _ _ _ kF (GrownAt.of kN (by k_mem))
      · exact absurd rfl (by assumption)
    · have ht2 : ¬ ((tot : Int) = (ys.length : Int)) := by omega
      k_extra "my go"
      · exact absurd (by assumption) ht2
      · rename Fr _ _ _ _ => kF
        rename News _ _ _ _ => kN
        exact fin _ _ _ kF (GrownAt.of kN (by k_mem))
  · have N2 : News h₀ L s.heap ((F3, instObj 92 DF) :: (DF, vecO w.params u1 u2 u3 u4 u5 u6 (Str.ofString "double") (.ref DI) (.ref AD)) :: (Dd, LCg.lst ys) :: (L + 1 + 1, oe) :: (319, tabObj ps) ::
        (AD, oA) :: (V2, instObj 92 DV2) :: (DV2, vecO w.params v1 v2 v3 v4 v5 v6 (Str.ofString "character") (.ref HL) .none) :: (HL, listOf yh.toArray c1) :: (HD, listOf yh.toArray n2) :: R) := by
      have key : ∀ q ∈ [(AD, oA), (V2, instObj 92 DV2), (DV2, vecO w.params v1 v2 v3 v4 v5 v6 (Str.ofString "character") (.ref HL) .none), (HL, listOf yh.toArray c1), (HD, listOf yh.toArray n2)], q ∈ R := am_cons m1 (am_cons m2 (am_cons m3 (am_cons m4 (am_cons m5 am_nil))))
      exact fun q hq => N q ((List.mem_append (s := [(F3, instObj 92 DF), (DF, vecO w.params u1 u2 u3 u4 u5 u6 (Str.ofString "double") (.ref DI) (.ref AD)), (Dd, LCg.lst ys), (L + 1 + 1, oe), (319, tabObj ps)]).mp hq).elim (fun h => List.mem_append_left R h) fun h => List.mem_append_right [(F3, instObj 92 DF), (DF, vecO w.params u1 u2 u3 u4 u5 u6 (Str.ofString "double") (.ref DI) (.ref AD)), (Dd, LCg.lst ys), (L + 1 + 1, oe), (319, tabObj ps)] ((List.mem_append (s := [(AD, oA), (V2, instObj 92 DV2), (DV2, vecO w.params v1 v2 v3 v4 v5 v6 (Str.ofString "character") (.ref HL) .none), (HL, listOf yh.toArray c1), (HD, listOf yh.toArray n2)]).mp h |>.elim (key q) id)))
    clear N
    k_extra "my go"
    · unfold Stop
      rename Fr _ _ _ _ => kF
      rename News _ _ _ _ => kN
      refine eq_strs (Rm.room hR) hxs (kN (HL, listOf yh.toArray c1) (by k_mem)).1 (kN (HD, listOf yh.toArray n2) (by k_mem)).1 ?_
      exact fin _ _ _ kF (GrownAt.of kN (by k_mem))
    · exact absurd rfl (by assumption)
end

theorem map1 {m : Str → Option Value} {a : Str} {v1 : Option Value} (h1 : m a = v1) : m = fun y => if y = a then v1 else m y := by
  funext y
  split <;> simp_all
theorem word_101 : True := by
  k_with "my own" => (repeat' (first | exact own_nil.mpr trivial | refine own_cons.mpr ⟨?_, ?_⟩ | refine off_cons.mpr ⟨by k_ne, ?_⟩ | refine off_app.mpr ⟨?_, ?_⟩ | exact off_of (by assumption) (by k_extra "my memA")))
  trivial
theorem word_102 : True := by
  k_with "my nd" => (repeat' (first | exact nel_nil | exact List.nodup_nil | refine nel_cons (by k_ne) ?_ | refine nd_cons ?_ ?_))
  trivial
section
set_option maxHeartbeats 1000000 in
theorem law_rest {prog : Program} {w : World} {p : Program} {loose : List Str} {mean : ExcName → Option Value} {mg mb : Str → Option Value} {s : Shared} {E : Value → Shared → Prop} {Q : Flow → Shared → Prop} {h₀ : Heap} {L fa : Addr} {cd : Value} {scope : Scope} (hs : fS (c 52) = scope)
  (X : (Kh w.params).In h₀) (T : Top p loose mean mg mb h₀) (B : Below callerA h₀ [] h₀)
  {X1 DX D1 Dd cc : Addr} {t1 t2 t3 t4 t5 t6 : Tok} {c1 n : Nat} {av hv : Value} {ys vs : List Value} {ds : List D} {ns : List Int} {oe oc o3 : Obj} {R : List (Addr × Obj)} {m : Str → Option Value} {nm : Option Addr}
  (F : Fr h₀ L s.heap m) (mx : m (Str.ofString "x") = some (.ref X1)) (mh : m (Str.ofString "heads") = some hv)
  (N : News h₀ L s.heap ((X1, instObj 92 DX) :: (DX, vecO w.params t1 t2 t3 t4 t5 t6 (Str.ofString "double") (.ref D1) av) :: (D1, listOf ys.toArray c1) :: (Dd, LCg.lst ys) :: (cc, listOf vs.toArray n) :: (L + 1 + 1 + 1, o3) :: (L + 1 + 1, oe) :: (L + 1, oc) :: (319, tabObj #[]) :: R))
  (d3 : o3.data = .cell none) (de : oe.data = .cell (some (.ref Dd))) (dc : oc.data = .cell (some (.ref cc))) (hae : AtsL h₀ R ys ds) (hde : ∀ d ∈ ds, EOk d) (hdl : ds.length < 6) (hi : IntsAre vs ns) (hlen : ns.length ≤ 200)
  (ho : OwnOff R [X1, DX, D1, Dd, cc, L + 1 + 1 + 1, L + 1 + 1, L + 1, 319]) (hD : ([X1, DX, D1, Dd, cc, L + 1 + 1 + 1, L + 1 + 1, L + 1, 319] : List Nat).Nodup) (l0 : @LT.lt Nat _ 319 L)
  (hav : (nm = none ∧ av = .none) ∨ ∃ V2 AD oA, nm = some V2 ∧ av = .ref AD ∧ (AD, oA) ∈ R ∧ Obj.IsDictOf (PySem.strKind prog w) oA [(Str.ofString "names", Value.ref V2)]) (havR : ∀ AD, av = .ref AD → AD ∉ ([X1, DX, D1] : List Addr) ∧ @LT.lt Nat _ 319 AD)
  (hnone : nm = none → hv = .none) (hsome : ∀ V2, nm = some V2 → HeadsAt w R V2 hv)
  (fin : ∀ (h : Heap) (tk : Nat) (m : Str → Option Value), Fr h₀ L h m → GrownAt 319 h → Q (.ret (.bool true)) { s with heap := h, toks := tk }) :
  wpAny (model prog w) (callerA.deeper (envOfC (Str.ofString "law") scope L fa cd)) (execs [bs 5, bs 6, bs 7, bs 8, bs 9, bs 10, bs 11, bs 12, bs 13] (envOfC (Str.ofString "law") scope L fa cd)) Q E s := by
  repeat (have nd9 := nd_nel hD; replace hD := nd_tl hD)
  have hys : ys.length = ds.length := hae.length
  refine execs_split (l1 := [bs 5]) (l2 := [bs 6, bs 7, bs 8, bs 9, bs 10, bs 11, bs 12, bs 13]) ?_
  refine stC (n := n) (R := (X1, instObj 92 DX) :: (DX, vecO w.params t1 t2 t3 t4 t5 t6 (Str.ofString "double") (.ref D1) av) :: (D1, listOf ys.toArray c1) :: (Dd, LCg.lst ys) :: (L + 1 + 1, oe) :: (319, tabObj #[]) :: R) rfl hs X T B F (news_pick N 9 [4, 5, 7, 0, 1, 2, 3, 6, 8] rfl) d3 dc hi hlen ?_ ?_ ?_
  · k_extra "my own"
  · k_extra "my nd"
  intro Dg yg vs5 gs o3' n5 tups h5 tk5 F5 N5 d35 hag hgo hgl hoDg hot hD5
  have nDg := nel_app (nd_nel hD5) (nel_all hoDg)
  dsimp only [List.map, List.cons_append, List.nil_append] at nDg hot
  clear hoDg hD5
  show wpAny _ _ (execs [bs 6, bs 7, bs 8, bs 9, bs 10, bs 11, bs 12, bs 13] _) _ _ _
  refine execs_split (l1 := [bs 6, bs 7]) (l2 := [bs 8, bs 9, bs 10, bs 11, bs 12, bs 13]) ?_
  refine stD (X1 := X1) (DX := DX) (D1 := D1) (Dg := Dg) (t1 := t1) (t2 := t2) (t3 := t3) (t4 := t4) (t5 := t5) (t6 := t6) (c1 := c1) (av := av) (R := (cc, listOf vs5.toArray n5) :: (L + 1, oc) :: (Dd, LCg.lst ys) :: (L + 1 + 1, oe) :: (R ++ tups)) (m0 := m) (nm := nm) rfl rfl hs X T B (map1 mx ▸ F5) (news_pick N5 10 [4, 5, 6, 0, 2, 9, 1, 3, 7, 8] rfl) d35 hag
    (fun p hp => .tail _ (.tail _ (.tail _ (.tail _ (List.mem_append_right _ hp))))) hgo hgl (hae.mono fun p hp => .tail _ (.tail _ (.tail _ (.tail _ (List.mem_append_left _ hp))))) hde hdl (hav.imp id fun ⟨V2, AD, oA, e1, e2, m1, hdA⟩ => ⟨V2, AD, oA, e1, e2, .tail _ (.tail _ (.tail _ (.tail _ (List.mem_append_left _ m1)))), hdA⟩) havR (fun _ h tk m' F' G' => fin h tk m' F' G') ?_ l0 ?_ ?_
  · k_extra "my own"
  · k_extra "my nd"
  intro F3 DF DI u1 u2 u3 u4 u5 u6 n3 va av3 ws3 ps T3 h7 tk7 F7 N7 aT hav3 hg0
  show wpAny _ _ (execs [bs 8, bs 9, bs 10, bs 11, bs 12, bs 13] _) _ _ _
  refine execs_split (l1 := [bs 8, bs 9]) (l2 := [bs 10, bs 11, bs 12, bs 13]) ?_
  have NE := news_pick N7 13 [11, 6, 12, 7, 0, 1, 2, 3, 4, 5, 8] rfl
  have hR1 : ∀ p ∈ R, p ∈ (F3, instObj 92 DF) :: (DF, vecO w.params u1 u2 u3 u4 u5 u6 (Str.ofString "double") (.ref DI) av3) :: (DI, listOf ws3.toArray n3) :: (X1, instObj 92 DX) :: (DX, vecO w.params t1 t2 t3 t4 t5 t6 (Str.ofString "double") (.ref D1) av) :: (D1, listOf ys.toArray c1) :: (319, tabObj ps) :: (R ++ tups ++ T3) :=
    fun p hp => .tail _ (.tail _ (.tail _ (.tail _ (.tail _ (.tail _ (.tail _ (List.mem_append_left _ (List.mem_append_left _ hp))))))))
  have hR2 : ∀ p ∈ tups, p ∈ (F3, instObj 92 DF) :: (DF, vecO w.params u1 u2 u3 u4 u5 u6 (Str.ofString "double") (.ref DI) av3) :: (DI, listOf ws3.toArray n3) :: (X1, instObj 92 DX) :: (DX, vecO w.params t1 t2 t3 t4 t5 t6 (Str.ofString "double") (.ref D1) av) :: (D1, listOf ys.toArray c1) :: (319, tabObj ps) :: (R ++ tups ++ T3) :=
    fun p hp => .tail _ (.tail _ (.tail _ (.tail _ (.tail _ (.tail _ (.tail _ (List.mem_append_left _ (List.mem_append_right _ hp))))))))
  have hR3 : ∀ p ∈ T3, p ∈ (F3, instObj 92 DF) :: (DF, vecO w.params u1 u2 u3 u4 u5 u6 (Str.ofString "double") (.ref DI) av3) :: (DI, listOf ws3.toArray n3) :: (X1, instObj 92 DX) :: (DX, vecO w.params t1 t2 t3 t4 t5 t6 (Str.ofString "double") (.ref D1) av) :: (D1, listOf ys.toArray c1) :: (319, tabObj ps) :: (R ++ tups ++ T3) :=
    fun p hp => .tail _ (.tail _ (.tail _ (.tail _ (.tail _ (.tail _ (.tail _ (List.mem_append_right _ hp)))))))
  obtain ⟨RE, hRE⟩ : ∃ RE, RE = (F3, instObj 92 DF) :: (DF, vecO w.params u1 u2 u3 u4 u5 u6 (Str.ofString "double") (.ref DI) av3) :: (DI, listOf ws3.toArray n3) :: (X1, instObj 92 DX) :: (DX, vecO w.params t1 t2 t3 t4 t5 t6 (Str.ofString "double") (.ref D1) av) :: (D1, listOf ys.toArray c1) :: (319, tabObj ps) :: (R ++ tups ++ T3) := ⟨_, rfl⟩
  replace NE : News h₀ L h7 ((Dd, LCg.lst ys) :: (Dg, LCg.lst yg) :: (L + 1 + 1, oe) :: (L + 1 + 1 + 1, o3') :: RE) := by rw [hRE]; exact NE
  rw [← hRE] at hR1 hR2 hR3
  refine stE (R := RE) rfl rfl hs X T B F7 NE de d35 (hae.mono hR1) (hag.mono hR2) hdl hgl (List.length_pos_iff.mp hg0) ?_
  intro tt h9 tk9 F9 N9
  show wpAny _ _ (execs [bs 10, bs 11, bs 12, bs 13] _) _ _ _
  refine execs_split (l1 := [bs 10]) (l2 := [bs 11, bs 12, bs 13]) ?_
  refine stF (R := RE) rfl hs X T B F9 N9 de d35 (hae.mono hR1) (hag.mono hR2) hde hgo hdl hgl hg0 rfl ?_ ?_
  · k_extra "my nd"
  intro Du yu tu h10 tk10 F10 N10 hau
  rw [← rv_due hde hgo hg0] at hau
  have NB : News h₀ L h10 (tu ++ RE) := fun q hq => N10 q (.tail _ (.tail _ (.tail _ (.tail _ (.tail _ ((List.mem_append.mp hq).elim (List.mem_append_right _) (List.mem_append_left _)))))))
  rw [hRE] at N10
  have N10b := news_both (news_some N10 [5, 6, 7, 8, 9, 10, 1, 0, 3, 11] rfl) NB
  show wpAny _ _ (execs [bs 11, bs 12, bs 13] _) _ _ _
  refine execs_split (l1 := [bs 11]) (l2 := [bs 12, bs 13]) ?_
  refine stG (F3 := F3) (DF := DF) (DI := DI) (X1 := X1) (DX := DX) (D1 := D1) (t1 := t1) (t2 := t2) (t3 := t3) (t4 := t4) (t5 := t5) (t6 := t6) (u1 := u1) (u2 := u2) (u3 := u3) (u4 := u4) (u5 := u5) (u6 := u6) (c1 := c1) (n3 := n3) (av := av) (av3 := av3) (R := (319, tabObj ps) :: (tu ++ RE)) rfl hs X T B F10 N10b ((if_neg (by decide)).trans <| (if_neg (by decide)).trans <| if_pos rfl) ((if_neg (by decide)).trans <| (if_neg (by decide)).trans <| (if_neg (by decide)).trans <| (if_neg (by decide)).trans <| if_pos rfl) (if_pos rfl) de (hae.mono fun p hp => .tail _ (List.mem_append_right _ (hR1 p hp))) (aT.mono fun p hp => .tail _ (List.mem_append_right _ (hR3 p hp))) (hau.mono fun p hp => .tail _ hp) ?_
  intro h11 tk11 F11 N11
  show wpAny _ _ (execs [bs 12, bs 13] _) _ _ _
  refine stH (F3 := F3) (DF := DF) (DI := DI) (u1 := u1) (u2 := u2) (u3 := u3) (u4 := u4) (u5 := u5) (u6 := u6) (ps := ps) (av3 := av3) (hv := hv) (tt := tt) (R := R ++ T3) rfl rfl hs X T B F11 (news_both (news_some N11 [0, 1, 6, 8, 9] rfl) fun q hq => N11 q (.tail _ (.tail _ (.tail _ (.tail _ (.tail _ (.tail _ (.tail _ (.tail _ (.tail _ (.tail _ (List.mem_append_right _ ((List.mem_append.mp hq).elim (hR1 q) (hR3 q)))))))))))))) ((if_neg (by decide)).trans <| (if_neg (by decide)).trans <| if_pos rfl) ((if_neg (by decide)).trans <| (if_neg (by decide)).trans <| (if_neg (by decide)).trans <| (if_neg (by decide)).trans <| (if_neg (by decide)).trans <| mh) ((if_neg (by decide)).trans <| if_pos rfl) de (by rw [hys]; exact hdl) ?_ ?_
  · rcases hav3 with ⟨e1, e2⟩ | ⟨V2, AD, oA, e1, e2, e3, e4, e5⟩
    · refine .inl ⟨e2, fun q => ?_⟩
      rw [if_pos (by rw [q, hys])] at e1
      exact hnone e1
    · by_cases q : rvLen ds.length gs.length = ds.length
      · rw [if_pos q] at e1
        exact .inr ⟨AD, V2, oA, e2, by rw [q, hys], e3, List.mem_append_right _ e4, e5, (hsome V2 e1).mono fun p hp => List.mem_append_left _ hp⟩
      · rw [if_neg q] at e1; cases e1
  · intro h tk m' F' G'; exact fin h tk m' F' G'
set_option maxHeartbeats 1000000 in
theorem law_body {prog : Program} {w : World} {p : Program} {loose : List Str} {mean : ExcName → Option Value} {mg mb : Str → Option Value} {s : Shared} {E : Value → Shared → Prop} {Q : Flow → Shared → Prop} {h₀ : Heap} {L fa a : Addr} {cd : Value} {scope : Scope} (hs : fS (c 52) = scope)
  (X : (Kh w.params).In h₀) (T : Top p loose mean mg mb h₀) (B : Below callerA h₀ [] h₀) {o1 o2 o3 : Obj}
  (F : Fr h₀ L s.heap (bindL (envOfC (Str.ofString "law") scope L fa cd).kindOf [(Str.ofString "script", .ref a)] fun _ => none))
  (d1 : o1.data = .cell none) (d2 : o2.data = .cell none) (d3 : o3.data = .cell none)
  (N : News h₀ L s.heap [(L + 1 + 1 + 1, o3), (L + 1 + 1, o2), (L + 1, o1), (319, tabObj #[])]) (l0 : @LT.lt Nat _ 319 L)
  {vs : List Value} {ns : List Int} (hl : h₀.IsList a vs.toArray) (hi : IntsAre vs ns) (hlen : ns.length ≤ 63)
  (fin : ∀ (h : Heap) (tk : Nat) (m : Str → Option Value), Fr h₀ L h m → GrownAt 319 h → Q (.ret (.bool true)) { s with heap := h, toks := tk }) :
  wpAny (model prog w) (callerA.deeper (envOfC (Str.ofString "law") scope L fa cd)) (execs (fB (c 52)) (envOfC (Str.ofString "law") scope L fa cd)) Q E s := by
  have e52 : fB (c 52) = [bs 0, bs 1, bs 2, bs 3, bs 4, bs 5, bs 6, bs 7, bs 8, bs 9, bs 10, bs 11, bs 12, bs 13] := by kernel_rfl
  rw [e52]
  refine execs_split (l1 := [bs 0, bs 1, bs 2]) (l2 := [bs 3, bs 4, bs 5, bs 6, bs 7, bs 8, bs 9, bs 10, bs 11, bs 12, bs 13]) ?_
  refine stA rfl rfl rfl hs X T B F d1 d2 d3 N l0 hl hi hlen ?_
  intro X1 DX D1 Dd cc t1 t2 t3 t4 t5 t6 c1 n ys vs1 ds ns1 oe oc R m0 h1 tk1 F1 N1 de dc hae hde hdl hi1 hl1 ho1 hB1 hD1 l1 l2
  have hD := hD1
  repeat (have nd9 := nd_nel hD; replace hD := nd_tl hD)
  have ho2 : OwnOff R [X1, DX, D1, Dd, cc, L + 1 + 1 + 1, L + 1 + 1, L + 1, 319] :=
    own_cons.mpr ⟨Bnd.ne hB1 (Nat.le_of_lt (Nat.lt_trans l1 l2)), own_cons.mpr ⟨Bnd.ne hB1 (Nat.le_of_lt l1), own_cons.mpr ⟨Bnd.ne hB1 (Nat.le_refl _), ho1⟩⟩⟩
  clear ho1 hD
  show wpAny _ _ (execs [bs 3, bs 4, bs 5, bs 6, bs 7, bs 8, bs 9, bs 10, bs 11, bs 12, bs 13] _) _ _ _
  refine execs_split (l1 := [bs 3, bs 4]) (l2 := [bs 5, bs 6, bs 7, bs 8, bs 9, bs 10, bs 11, bs 12, bs 13]) ?_
  refine stB (n := n) (X1 := X1) (DX := DX) (D1 := D1) (t1 := t1) (t2 := t2) (t3 := t3) (t4 := t4) (t5 := t5) (t6 := t6) (R := (D1, listOf ys.toArray c1) :: (L + 1 + 1 + 1, o3) :: (319, tabObj #[]) :: R) rfl rfl hs X T B F1 (news_pick N1 9 [0, 1, 4, 3, 6, 7, 2, 5, 8] rfl) de dc (by rw [hae.length]; exact hdl) hi1 hl1 ?_ ?_ ?_ ?_
  · k_extra "my own"
  · k_extra "my nd"
  · intro vs2 ns2 n2 h2 tk2 F2 N2 hi2 hl2
    show wpAny _ _ (execs [bs 5, bs 6, bs 7, bs 8, bs 9, bs 10, bs 11, bs 12, bs 13] _) _ _ _
    exact law_rest (n := n2) (X1 := X1) (DX := DX) (D1 := D1) (t1 := t1) (t2 := t2) (t3 := t3) (t4 := t4) (t5 := t5) (t6 := t6) (c1 := c1) (av := .none) (hv := .none) (R := R) (nm := none) hs X T B F2 ((if_neg (by decide)).trans (if_pos rfl)) (if_pos rfl) (news_pick N2 9 [0, 1, 6, 3, 2, 7, 4, 5, 8] rfl) d3 de dc hae hde hdl hi2 hl2 ho2 hD1 l0 (.inl ⟨rfl, rfl⟩) (fun AD e => by cases e) (fun _ => rfl) (fun V2 e => by cases e) fin
  · intro V2 DV2 HL AD HD u1 u2 u3 u4 u5 u6 c3 n2 yh vs2 ns2 oA h2 tk2 F2 N2 hdA hyl hyp hi2 hl2 hD2 hB2 hHD l3 l4 l5
    obtain ⟨xs, hxs⟩ := strs_of yh hyp
    have b3 : @LT.lt Nat _ 319 AD := hB2 (319, tabObj #[]) (.tail _ (.tail _ (.head _)))
    have lA := ltl_of hB2
    dsimp only [List.map] at lA
    have lH := lA.up l3
    have lD := lH.up l4
    have lV := lD.up l5
    have nH := nd_nel (nd_tl (nd_tl (nd_tl (nd_tl hD2))))
    replace nH := nel_app nH (nel_all hHD)
    dsimp only [List.map, List.cons_append, List.nil_append] at nH
    have n1 := nd_nel hD2
    replace hD2 := nd_tl hD2
    have n2' := nd_nel hD2
    replace hD2 := nd_tl hD2
    have n3 := nd_nel hD2
    replace hD2 := nd_tl hD2
    have n4 := nd_nel hD2
    clear hD2 hHD hB2
    show wpAny _ _ (execs [bs 5, bs 6, bs 7, bs 8, bs 9, bs 10, bs 11, bs 12, bs 13] _) _ _ _
    refine law_rest (n := n2) (X1 := X1) (DX := DX) (D1 := D1) (t1 := t1) (t2 := t2) (t3 := t3) (t4 := t4) (t5 := t5) (t6 := t6) (c1 := c1) (av := .ref AD) (hv := .ref HD) (R := (V2, instObj 92 DV2) :: (DV2, vecO w.params u1 u2 u3 u4 u5 u6 (Str.ofString "character") (.ref HL) .none) :: (HL, listOf yh.toArray c3) :: (AD, oA) :: (HD, LCg.lst yh) :: R) (nm := some V2) hs X T B F2 ((if_neg (by decide)).trans (if_pos rfl)) (if_pos rfl) (news_pick N2 14 [5, 6, 11, 8, 7, 12, 9, 10, 13, 0, 1, 2, 3, 4] rfl) d3 de dc (hae.mono fun p hp => .tail _ (.tail _ (.tail _ (.tail _ (.tail _ hp))))) hde hdl hi2 hl2 ?_ hD1 l0
      (.inr ⟨V2, AD, oA, rfl, rfl, .tail _ (.tail _ (.tail _ (.head _))), hdA⟩) ?_ (fun e => by cases e) ?_ fin
    · k_extra "my own"
    · intro AD' e
      cases e
      exact ⟨by k_extra "my nm", b3⟩
    · intro V2' e
      cases e
      exact ⟨DV2, HL, HD, u1, u2, u3, u4, u5, u6, c3, _, yh, xs, rfl, .head _, .tail _ (.head _), .tail _ (.tail _ (.head _)), .tail _ (.tail _ (.tail _ (.tail _ (.head _)))), hxs⟩
end

set_option maxHeartbeats 8000000 in
theorem law_holds : PySem.Challenge.rw_pq1404_01.Holds := by
  w_on
  refine holds_law said fun said9 => ?_
  refine holds_open (q := view39) (loose := loose0) (Xt := Xt0) (XP := XL view39 []) (Yf := (kmHook Kh asK hMap [319]).obs) (Ya := (kmHook Kh asK hMap [319]).val) (YP := (kmHook Kh asK hMap [319]).says) (N := 4794) ?hl (Hook.of _) (Hook.keeps _) (fun s e => xl_of s (Bool.and_eq_true_iff.mp e).1) XL.keeps (by rfl) (by rfl) (by rfl) (fun s e => recFacts_of (Bool.and_eq_true_iff.mp e).2) (by rfl) (by assumption) okAll ⟨rfl, rfl, rfl, rfl, rfl, by decide +kernel⟩ ?hw ?hc
  case hl => exact h_left
  case hw => w_witness2
  w_strict (
    k_go0
    rename Fr _ _ _ _ => kF
    rename News _ _ _ _ => kN
    rename Top _ _ _ _ _ _ => kT
    rename Below _ _ _ _ => kB
    refine law_body rfl (by assumption) kT kB kF ?_ ?_ ?_ kN (LtL.lt (by with_reducible assumption) (.head _)) lifted (by assumption) (by omega) ?_
    · assumption
    · assumption
    · assumption
    · intro h tk m F G
      refine ⟨?_, G, trivial⟩
      refine goodW_bool F (by assumption) (raisesW_false ?_) ?_
      · wrow_none_raised
      · wrow_post)

end
end Mine
theorem PySem.Challenge.cw_pq1404_01_holds : PySem.Challenge.rw_pq1404_01.Holds :=
  Mine.law_holds
