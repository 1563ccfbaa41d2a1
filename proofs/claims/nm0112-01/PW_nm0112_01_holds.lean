import PyProof.Rows.All
import Wide.All
import OpenK.AllK
import Wide.FinOn
import PySem.Challenge.RW_nm0112_01
set_option Elab.async false
set_option rowWalk.seconds 0
local macro_rules | `(tactic| walk_at $s:str) => `(tactic| k_extra $s)

/- part Hd -/
section
open PySem PySem.W PyProof.Rows
set_option maxRecDepth 100000
namespace Mine
noncomputable def hd.view_39 : Program := view Challenge.pw_nm0112_01 [0, 2, 3, 5, 6, 7, 8, 9, 11, 12, 13, 14, 15, 17, 18, 19, 20, 21, 22, 23, 24, 25, 26]
/-- the text's statement i, and statement j in the body of class i -/
noncomputable def hq.st (i : Nat) : Stmt := Challenge.pw_nm0112_01.main.body.getD i (.Pass ⟨0, 0, 0, 0⟩)
noncomputable def hq.su (i j : Nat) : Stmt := match hq.st i with
  | .ClassDef _ _ _ b .. => b.getD j (.Pass ⟨0, 0, 0, 0⟩)
  | s => s
noncomputable def hq.fa (s : Stmt) : Arguments := match s with
  | .FunctionDef _ a .. => a
  | _ => ⟨[], [], none, [], [], none, []⟩
noncomputable def hq.fb (s : Stmt) : List Stmt := match s with
  | .FunctionDef _ _ b .. => b
  | _ => []
noncomputable def hq.fs (s : Stmt) : Scope := match s with
  | .FunctionDef _ _ _ _ _ _ c .. => c
  | _ => ⟨.module, [], false, false, []⟩
noncomputable def hq.o43 (P : Params) : Obj := (Obj.mk (Value.type "tuple") none (Data.seq (Array.mk []) 0) (Array.mk []))
noncomputable def hq.o44 (P : Params) : Obj := (Obj.mk Value.none none (Data.fields (Array.mk [])) (Array.mk []))
noncomputable def hq.o45 (P : Params) : Obj := (Obj.mk (Value.type "code") none (Data.fields (Array.mk [(Value.str (@Str.ofString "<module>") 182), (Value.str (@Str.ofString "<module>") 183), (Value.str (@Str.ofString "/claim/cut.py") 184), (Value.int (1 : Int) 0), (Value.int (0 : Int) 0), (Value.int (0 : Int) 0), (Value.int (0 : Int) 0), (Value.int (0 : Int) 0), (Value.ref 11), (Value.bool Bool.false), (Value.int (181 : Int) 0), (Value.ref 12), Value.none, Value.none, Value.none, Value.none, (Value.int (185 : Int) 0), (Value.int (1 : Int) 0), (Value.str (@Str.ofString "/claim/cut.py") 186)])) (Array.mk []))
noncomputable def hq.o46 (P : Params) : Obj := (Obj.mk (Value.type "frame") none Data.plain (Array.mk [(some (Value.ref 13)), (some (Value.ref 3)), (some (Value.ref 3)), none, (some (Value.str (@Str.ofString "__main__") 164)), none, (some (Value.ref 0))]))
noncomputable def hq.o49 (P : Params) : Obj := (Obj.mk Value.none none (Data.dict (Array.mk [(DictEntry.mk (@PyData.keyHash P (@Str.ofString "type.__subclasses__.Exception.0")) (Value.str (@Str.ofString "type.__subclasses__.Exception.0") 221) (Value.int (38 : Int) 0)), (DictEntry.mk (@PyData.keyHash P (@Str.ofString "type.__subclasses__.Exception.n")) (Value.str (@Str.ofString "type.__subclasses__.Exception.n") 222) (Value.int (1 : Int) 0))]) 2) (Array.mk []))
noncomputable def hq.o50 (P : Params) : Obj := (Obj.mk (Value.type "dict") none (Data.dict (Array.mk [(DictEntry.mk (@PyData.keyHash P (@Str.ofString "__name__")) (Value.str (@Str.ofString "__name__") 165) (Value.str (@Str.ofString "wasmcore.faults") 194)), (DictEntry.mk (@PyData.keyHash P (@Str.ofString "__doc__")) (Value.str (@Str.ofString "__doc__") 166) Value.none), (DictEntry.mk (@PyData.keyHash P (@Str.ofString "__package__")) (Value.str (@Str.ofString "__package__") 167) Value.none), (DictEntry.mk (@PyData.keyHash P (@Str.ofString "__loader__")) (Value.str (@Str.ofString "__loader__") 168) (Value.builtin "__main__.__loader__#opaque")), (DictEntry.mk (@PyData.keyHash P (@Str.ofString "__spec__")) (Value.str (@Str.ofString "__spec__") 169) Value.none), (DictEntry.mk (@PyData.keyHash P (@Str.ofString "__annotations__")) (Value.str (@Str.ofString "__annotations__") 170) (Value.ref 6)), (DictEntry.mk (@PyData.keyHash P (@Str.ofString "__builtins__")) (Value.str (@Str.ofString "__builtins__") 171) (Value.ref 4)), (DictEntry.mk (@PyData.keyHash P (@Str.ofString "__file__")) (Value.str (@Str.ofString "__file__") 173) (Value.str (@Str.ofString "/claim/cut.py") 172)), (DictEntry.mk (@PyData.keyHash P (@Str.ofString "__cached__")) (Value.str (@Str.ofString "__cached__") 174) Value.none), (DictEntry.mk (@PyData.keyHash P (@Str.ofString "_wall")) (Value.str (@Str.ofString "_wall") 193) (Value.ref 21)), (DictEntry.mk (@PyData.keyHash P (@Str.ofString "WasmFault")) (Value.str (@Str.ofString "WasmFault") 224) (Value.ref 38))]) 11) (Array.mk []))
noncomputable def hq.o51 (P : Params) : Obj := (Obj.mk Value.none none (Data.fields (Array.mk [(Value.int (1 : Int) 0), (Value.int (0 : Int) 0), (Value.ref 20), (Value.int (5 : Int) 0), (Value.int (0 : Int) 0), (Value.ref 27)])) (Array.mk []))
noncomputable def hq.o52 (P : Params) : Obj := (Obj.mk (Value.type "tuple") none (Data.seq (Array.mk []) 0) (Array.mk []))
noncomputable def hq.o53 (P : Params) : Obj := (Obj.mk Value.none none (Data.fields (Array.mk [])) (Array.mk []))
noncomputable def hq.o54 (P : Params) : Obj := (Obj.mk (Value.type "tuple") none (Data.seq (Array.mk [(Value.str (@Str.ofString "k") 190)]) 0) (Array.mk []))
noncomputable def hq.o55 (P : Params) : Obj := (Obj.mk (Value.type "tuple") none (Data.seq (Array.mk []) 0) (Array.mk []))
noncomputable def hq.o56 (P : Params) : Obj := (Obj.mk Value.none none (Data.func (FuncData.mk (@Str.ofString "_wall") (@Str.ofString "_wall") (hq.fa (hq.st 0)) (FuncBody.stmts (hq.fb (hq.st 0))) (hq.fs (hq.st 0)) 0 [] Value.none Value.none Value.none Value.none none Value.none Value.none 0)) (Array.mk []))
noncomputable def hq.o57 (P : Params) : Obj := (Obj.mk (Value.type "code") none (Data.fields (Array.mk [(Value.str (@Str.ofString "_wall") 187), (Value.str (@Str.ofString "_wall") 188), (Value.str (@Str.ofString "/claim/cut.py") 189), (Value.int (1 : Int) 0), (Value.int (1 : Int) 0), (Value.int (0 : Int) 0), (Value.int (0 : Int) 0), (Value.int (3 : Int) 0), (Value.ref 15), (Value.bool Bool.true), (Value.int (181 : Int) 0), (Value.ref 16), Value.none, (Value.ref 17), (Value.ref 18), (Value.ref 19), (Value.int (191 : Int) 0), (Value.int (1 : Int) 0), (Value.str (@Str.ofString "/claim/cut.py") 192)])) (Array.mk []))
noncomputable def hq.o58 (P : Params) : Obj := (Obj.mk (Value.type "function") none (Data.func (FuncData.mk (@Str.ofString "_wall") (@Str.ofString "_wall") (hq.fa (hq.st 0)) (FuncBody.stmts (hq.fb (hq.st 0))) (hq.fs (hq.st 0)) 3 [] Value.none Value.none Value.none (Value.str (@Str.ofString "__main__") 164) none (Value.ref 20) Value.none 0)) (Array.mk []))
noncomputable def hq.o59 (P : Params) : Obj := (Obj.mk (Value.type "tuple") none (Data.seq (Array.mk [(Value.type "Exception")]) 0) (Array.mk []))
noncomputable def hq.o60 (P : Params) : Obj := (Obj.mk (Value.type "builtin_function_or_method") none (Data.fields (Array.mk [(Value.builtin "type.__prepare__"), (Value.type "type")])) (Array.mk []))
noncomputable def hq.o61 (P : Params) : Obj := (Obj.mk (Value.type "dict") none (Data.dict (Array.mk [(DictEntry.mk (@PyData.keyHash P (@Str.ofString "__module__")) (Value.str (@Str.ofString "__module__") 203) (Value.str (@Str.ofString "wasmcore.faults") 194)), (DictEntry.mk (@PyData.keyHash P (@Str.ofString "__qualname__")) (Value.str (@Str.ofString "__qualname__") 205) (Value.str (@Str.ofString "WasmFault") 204)), (DictEntry.mk (@PyData.keyHash P (@Str.ofString "__firstlineno__")) (Value.str (@Str.ofString "__firstlineno__") 207) (Value.int (5 : Int) 206)), (DictEntry.mk (@PyData.keyHash P (@Str.ofString "__init__")) (Value.str (@Str.ofString "__init__") 215) (Value.ref 35)), (DictEntry.mk (@PyData.keyHash P (@Str.ofString "__static_attributes__")) (Value.str (@Str.ofString "__static_attributes__") 217) (Value.ref 36))]) 5) (Array.mk []))
noncomputable def hq.o62 (P : Params) : Obj := (Obj.mk (Value.type "tuple") none (Data.seq (Array.mk []) 0) (Array.mk []))
noncomputable def hq.o63 (P : Params) : Obj := (Obj.mk Value.none none (Data.fields (Array.mk [(Value.int (7 : Int) 0), (Value.int (4 : Int) 0), (Value.ref 34)])) (Array.mk []))
noncomputable def hq.o64 (P : Params) : Obj := (Obj.mk (Value.type "code") none (Data.fields (Array.mk [(Value.str (@Str.ofString "WasmFault") 198), (Value.str (@Str.ofString "WasmFault") 199), (Value.str (@Str.ofString "/claim/cut.py") 200), (Value.int (5 : Int) 0), (Value.int (0 : Int) 0), (Value.int (0 : Int) 0), (Value.int (0 : Int) 0), (Value.int (0 : Int) 0), (Value.ref 25), (Value.bool Bool.false), (Value.int (181 : Int) 0), (Value.ref 26), Value.none, Value.none, Value.none, Value.none, (Value.int (201 : Int) 0), (Value.int (5 : Int) 0), (Value.str (@Str.ofString "/claim/cut.py") 202)])) (Array.mk []))
noncomputable def hq.o65 (P : Params) : Obj := (Obj.mk (Value.type "frame") none Data.plain (Array.mk [(some (Value.ref 27)), (some (Value.ref 3)), (some (Value.ref 24)), none, (some (Value.str (@Str.ofString "wasmcore.faults") 194)), none, (some (Value.ref 0))]))
noncomputable def hq.o66 (P : Params) : Obj := (Obj.mk (Value.type "tuple") none (Data.seq (Array.mk []) 0) (Array.mk []))
noncomputable def hq.o67 (P : Params) : Obj := (Obj.mk Value.none none (Data.fields (Array.mk [])) (Array.mk []))
noncomputable def hq.o68 (P : Params) : Obj := (Obj.mk (Value.type "tuple") none (Data.seq (Array.mk [(Value.str (@Str.ofString "self") 211), (Value.str (@Str.ofString "why") 212)]) 0) (Array.mk []))
noncomputable def hq.o69 (P : Params) : Obj := (Obj.mk (Value.type "tuple") none (Data.seq (Array.mk []) 0) (Array.mk []))
noncomputable def hq.o70 (P : Params) : Obj := (Obj.mk Value.none none (Data.func (FuncData.mk (@Str.ofString "__init__") (@Str.ofString "WasmFault.__init__") (hq.fa (hq.su 2 0)) (FuncBody.stmts (hq.fb (hq.su 2 0))) (hq.fs (hq.su 2 0)) 0 [] Value.none Value.none Value.none Value.none none Value.none Value.none 0)) (Array.mk []))
noncomputable def hq.o71 (P : Params) : Obj := (Obj.mk (Value.type "code") none (Data.fields (Array.mk [(Value.str (@Str.ofString "__init__") 208), (Value.str (@Str.ofString "WasmFault.__init__") 209), (Value.str (@Str.ofString "/claim/cut.py") 210), (Value.int (7 : Int) 0), (Value.int (2 : Int) 0), (Value.int (0 : Int) 0), (Value.int (0 : Int) 0), (Value.int (3 : Int) 0), (Value.ref 29), (Value.bool Bool.true), (Value.int (181 : Int) 0), (Value.ref 30), Value.none, (Value.ref 31), (Value.ref 32), (Value.ref 33), (Value.int (213 : Int) 0), (Value.int (7 : Int) 0), (Value.str (@Str.ofString "/claim/cut.py") 214)])) (Array.mk []))
noncomputable def hq.o72 (P : Params) : Obj := (Obj.mk (Value.type "function") none (Data.func (FuncData.mk (@Str.ofString "__init__") (@Str.ofString "WasmFault.__init__") (hq.fa (hq.su 2 0)) (FuncBody.stmts (hq.fb (hq.su 2 0))) (hq.fs (hq.su 2 0)) 3 [] Value.none Value.none Value.none (Value.str (@Str.ofString "wasmcore.faults") 194) none (Value.ref 34) Value.none 0)) (Array.mk []))
noncomputable def hq.o73 (P : Params) : Obj := (Obj.mk (Value.type "tuple") none (Data.seq (Array.mk [(Value.str (@Str.ofString "why") 216)]) 0) (Array.mk []))
noncomputable def hq.o74 (P : Params) : Obj := (Obj.mk (Value.type "dict") none (Data.dict (Array.mk [(DictEntry.mk (@PyData.keyHash P (@Str.ofString "__module__")) (Value.str (@Str.ofString "__module__") 203) (Value.str (@Str.ofString "wasmcore.faults") 194)), (DictEntry.mk (@PyData.keyHash P (@Str.ofString "__firstlineno__")) (Value.str (@Str.ofString "__firstlineno__") 207) (Value.int (5 : Int) 206)), (DictEntry.mk (@PyData.keyHash P (@Str.ofString "__init__")) (Value.str (@Str.ofString "__init__") 215) (Value.ref 35)), (DictEntry.mk (@PyData.keyHash P (@Str.ofString "__static_attributes__")) (Value.str (@Str.ofString "__static_attributes__") 217) (Value.ref 36)), (DictEntry.mk (@PyData.keyHash P (@Str.ofString "__weakref__")) (Value.str (@Str.ofString "__weakref__") 219) (Value.ref 39)), (DictEntry.mk (@PyData.keyHash P (@Str.ofString "__doc__")) (Value.str (@Str.ofString "__doc__") 220) Value.none)]) 3) (Array.mk []))
noncomputable def hq.o75 (P : Params) : Obj := (Obj.mk (Value.type "type") none (Data.cls (ClassData.mk (@Str.ofString "WasmFault") [(Value.type "Exception")] [(Value.ref 38), (Value.type "Exception"), (Value.type "BaseException"), (Value.type "object")] 37 (@Str.ofString "WasmFault") Bool.true [] [] Bool.false none Bool.false)) (Array.mk [(some (Value.ref 22)), none, (some (Value.str (@Str.ofString "WasmFault") 196)), (some (Value.str (@Str.ofString "WasmFault") 204)), (some (Value.builtin "Exception.__new__")), (some (Value.bool Bool.true))]))
noncomputable def hq.o76 (P : Params) : Obj := (Obj.mk (Value.type "getset_descriptor") none (Data.fields (Array.mk [(Value.str (@Str.ofString "__weakref__") 218), (Value.ref 38), (Value.builtin "ExceptionGroup.__weakref__"), Value.none])) (Array.mk []))
noncomputable def hq.o77 (P : Params) : Obj := (Obj.mk (Value.type "super") none (Data.fields (Array.mk [(Value.ref 38), (Value.ref 38), (Value.ref 38)])) (Array.mk []))
noncomputable def hq.o78 (P : Params) : Obj := (Obj.mk (Value.type "builtin_function_or_method") none (Data.fields (Array.mk [(Value.builtin "object.__init_subclass__"), (Value.ref 38)])) (Array.mk []))
noncomputable def hq.o79 (P : Params) : Obj := (Obj.mk (Value.type "dict") none (Data.dict (Array.mk [(DictEntry.mk (@PyData.keyHash P (@Str.ofString "__name__")) (Value.str (@Str.ofString "__name__") 165) (Value.str (@Str.ofString "wasmcore.lexer") 253)), (DictEntry.mk (@PyData.keyHash P (@Str.ofString "__doc__")) (Value.str (@Str.ofString "__doc__") 166) Value.none), (DictEntry.mk (@PyData.keyHash P (@Str.ofString "__package__")) (Value.str (@Str.ofString "__package__") 167) Value.none), (DictEntry.mk (@PyData.keyHash P (@Str.ofString "__loader__")) (Value.str (@Str.ofString "__loader__") 168) (Value.builtin "__main__.__loader__#opaque")), (DictEntry.mk (@PyData.keyHash P (@Str.ofString "__spec__")) (Value.str (@Str.ofString "__spec__") 169) Value.none), (DictEntry.mk (@PyData.keyHash P (@Str.ofString "__annotations__")) (Value.str (@Str.ofString "__annotations__") 170) (Value.ref 6)), (DictEntry.mk (@PyData.keyHash P (@Str.ofString "__builtins__")) (Value.str (@Str.ofString "__builtins__") 171) (Value.ref 4)), (DictEntry.mk (@PyData.keyHash P (@Str.ofString "__file__")) (Value.str (@Str.ofString "__file__") 173) (Value.str (@Str.ofString "/claim/cut.py") 172)), (DictEntry.mk (@PyData.keyHash P (@Str.ofString "__cached__")) (Value.str (@Str.ofString "__cached__") 174) Value.none), (DictEntry.mk (@PyData.keyHash P (@Str.ofString "_wall")) (Value.str (@Str.ofString "_wall") 193) (Value.ref 21)), (DictEntry.mk (@PyData.keyHash P (@Str.ofString "WasmFault")) (Value.str (@Str.ofString "WasmFault") 224) (Value.ref 38)), (DictEntry.mk (@PyData.keyHash P (@Str.ofString "BadText")) (Value.str (@Str.ofString "BadText") 252) (Value.ref 58)), (DictEntry.mk (@PyData.keyHash P (@Str.ofString "DIGITS")) (Value.str (@Str.ofString "DIGITS") 256) (Value.str (@Str.ofString "0123456789") 255)), (DictEntry.mk (@PyData.keyHash P (@Str.ofString "HEX_DIGITS")) (Value.str (@Str.ofString "HEX_DIGITS") 258) (Value.str (@Str.ofString "0123456789abcdefABCDEF") 257)), (DictEntry.mk (@PyData.keyHash P (@Str.ofString "SMALL_LETTERS")) (Value.str (@Str.ofString "SMALL_LETTERS") 260) (Value.str (@Str.ofString "abcdefghijklmnopqrstuvwxyz") 259))]) 15) (Array.mk []))
noncomputable def hq.o80 (P : Params) : Obj := (Obj.mk Value.none none (Data.fields (Array.mk [(Value.int (1 : Int) 0), (Value.int (0 : Int) 0), (Value.ref 20), (Value.int (5 : Int) 0), (Value.int (0 : Int) 0), (Value.ref 27), (Value.int (10 : Int) 0), (Value.int (0 : Int) 0), (Value.ref 47)])) (Array.mk []))
noncomputable def hq.o81 (P : Params) : Obj := (Obj.mk (Value.type "type") none (Data.cls (ClassData.mk (@Str.ofString "WasmFault") [(Value.type "Exception")] [(Value.ref 38), (Value.type "Exception"), (Value.type "BaseException"), (Value.type "object")] 37 (@Str.ofString "WasmFault") Bool.true [] [(Value.ref 58)] Bool.false none Bool.false)) (Array.mk [(some (Value.ref 22)), none, (some (Value.str (@Str.ofString "WasmFault") 196)), (some (Value.str (@Str.ofString "WasmFault") 204)), (some (Value.builtin "Exception.__new__")), (some (Value.bool Bool.true))]))
noncomputable def hq.o82 (P : Params) : Obj := (Obj.mk (Value.type "tuple") none (Data.seq (Array.mk [(Value.ref 38)]) 0) (Array.mk []))
noncomputable def hq.o83 (P : Params) : Obj := (Obj.mk (Value.type "builtin_function_or_method") none (Data.fields (Array.mk [(Value.builtin "type.__prepare__"), (Value.type "type")])) (Array.mk []))
noncomputable def hq.o84 (P : Params) : Obj := (Obj.mk (Value.type "dict") none (Data.dict (Array.mk [(DictEntry.mk (@PyData.keyHash P (@Str.ofString "__module__")) (Value.str (@Str.ofString "__module__") 232) (Value.str (@Str.ofString "wasmcore.faults") 194)), (DictEntry.mk (@PyData.keyHash P (@Str.ofString "__qualname__")) (Value.str (@Str.ofString "__qualname__") 234) (Value.str (@Str.ofString "BadText") 233)), (DictEntry.mk (@PyData.keyHash P (@Str.ofString "__firstlineno__")) (Value.str (@Str.ofString "__firstlineno__") 236) (Value.int (10 : Int) 235)), (DictEntry.mk (@PyData.keyHash P (@Str.ofString "__init__")) (Value.str (@Str.ofString "__init__") 246) (Value.ref 55)), (DictEntry.mk (@PyData.keyHash P (@Str.ofString "__static_attributes__")) (Value.str (@Str.ofString "__static_attributes__") 249) (Value.ref 56))]) 5) (Array.mk []))
noncomputable def hq.o85 (P : Params) : Obj := (Obj.mk (Value.type "tuple") none (Data.seq (Array.mk []) 0) (Array.mk []))
noncomputable def hq.o86 (P : Params) : Obj := (Obj.mk Value.none none (Data.fields (Array.mk [(Value.int (12 : Int) 0), (Value.int (4 : Int) 0), (Value.ref 54)])) (Array.mk []))
noncomputable def hq.o87 (P : Params) : Obj := (Obj.mk (Value.type "code") none (Data.fields (Array.mk [(Value.str (@Str.ofString "BadText") 227), (Value.str (@Str.ofString "BadText") 228), (Value.str (@Str.ofString "/claim/cut.py") 229), (Value.int (10 : Int) 0), (Value.int (0 : Int) 0), (Value.int (0 : Int) 0), (Value.int (0 : Int) 0), (Value.int (0 : Int) 0), (Value.ref 45), (Value.bool Bool.false), (Value.int (181 : Int) 0), (Value.ref 46), Value.none, Value.none, Value.none, Value.none, (Value.int (230 : Int) 0), (Value.int (10 : Int) 0), (Value.str (@Str.ofString "/claim/cut.py") 231)])) (Array.mk []))
noncomputable def hq.o88 (P : Params) : Obj := (Obj.mk (Value.type "frame") none Data.plain (Array.mk [(some (Value.ref 47)), (some (Value.ref 3)), (some (Value.ref 44)), none, (some (Value.str (@Str.ofString "wasmcore.faults") 194)), none, (some (Value.ref 0))]))
noncomputable def hq.o89 (P : Params) : Obj := (Obj.mk (Value.type "tuple") none (Data.seq (Array.mk []) 0) (Array.mk []))
noncomputable def hq.o90 (P : Params) : Obj := (Obj.mk Value.none none (Data.fields (Array.mk [])) (Array.mk []))
noncomputable def hq.o91 (P : Params) : Obj := (Obj.mk (Value.type "tuple") none (Data.seq (Array.mk [(Value.str (@Str.ofString "self") 240), (Value.str (@Str.ofString "why") 241), (Value.str (@Str.ofString "row") 242), (Value.str (@Str.ofString "column") 243)]) 0) (Array.mk []))
noncomputable def hq.o92 (P : Params) : Obj := (Obj.mk (Value.type "tuple") none (Data.seq (Array.mk []) 0) (Array.mk []))
noncomputable def hq.o93 (P : Params) : Obj := (Obj.mk Value.none none (Data.func (FuncData.mk (@Str.ofString "__init__") (@Str.ofString "BadText.__init__") (hq.fa (hq.su 3 0)) (FuncBody.stmts (hq.fb (hq.su 3 0))) (hq.fs (hq.su 3 0)) 0 [] Value.none Value.none Value.none Value.none none Value.none Value.none 0)) (Array.mk []))
noncomputable def hq.o94 (P : Params) : Obj := (Obj.mk (Value.type "code") none (Data.fields (Array.mk [(Value.str (@Str.ofString "__init__") 237), (Value.str (@Str.ofString "BadText.__init__") 238), (Value.str (@Str.ofString "/claim/cut.py") 239), (Value.int (12 : Int) 0), (Value.int (4 : Int) 0), (Value.int (0 : Int) 0), (Value.int (0 : Int) 0), (Value.int (3 : Int) 0), (Value.ref 49), (Value.bool Bool.true), (Value.int (181 : Int) 0), (Value.ref 50), Value.none, (Value.ref 51), (Value.ref 52), (Value.ref 53), (Value.int (244 : Int) 0), (Value.int (12 : Int) 0), (Value.str (@Str.ofString "/claim/cut.py") 245)])) (Array.mk []))
noncomputable def hq.o95 (P : Params) : Obj := (Obj.mk (Value.type "function") none (Data.func (FuncData.mk (@Str.ofString "__init__") (@Str.ofString "BadText.__init__") (hq.fa (hq.su 3 0)) (FuncBody.stmts (hq.fb (hq.su 3 0))) (hq.fs (hq.su 3 0)) 3 [] Value.none Value.none Value.none (Value.str (@Str.ofString "wasmcore.faults") 194) none (Value.ref 54) Value.none 0)) (Array.mk []))
noncomputable def hq.o96 (P : Params) : Obj := (Obj.mk (Value.type "tuple") none (Data.seq (Array.mk [(Value.str (@Str.ofString "column") 247), (Value.str (@Str.ofString "row") 248)]) 0) (Array.mk []))
noncomputable def hq.o97 (P : Params) : Obj := (Obj.mk (Value.type "dict") none (Data.dict (Array.mk [(DictEntry.mk (@PyData.keyHash P (@Str.ofString "__module__")) (Value.str (@Str.ofString "__module__") 232) (Value.str (@Str.ofString "wasmcore.faults") 194)), (DictEntry.mk (@PyData.keyHash P (@Str.ofString "__firstlineno__")) (Value.str (@Str.ofString "__firstlineno__") 236) (Value.int (10 : Int) 235)), (DictEntry.mk (@PyData.keyHash P (@Str.ofString "__init__")) (Value.str (@Str.ofString "__init__") 246) (Value.ref 55)), (DictEntry.mk (@PyData.keyHash P (@Str.ofString "__static_attributes__")) (Value.str (@Str.ofString "__static_attributes__") 249) (Value.ref 56)), (DictEntry.mk (@PyData.keyHash P (@Str.ofString "__doc__")) (Value.str (@Str.ofString "__doc__") 250) Value.none)]) 2) (Array.mk []))
noncomputable def hq.o98 (P : Params) : Obj := (Obj.mk (Value.type "type") none (Data.cls (ClassData.mk (@Str.ofString "BadText") [(Value.ref 38)] [(Value.ref 58), (Value.ref 38), (Value.type "Exception"), (Value.type "BaseException"), (Value.type "object")] 57 (@Str.ofString "BadText") Bool.true [] [] Bool.false none Bool.false)) (Array.mk [(some (Value.ref 42)), none, (some (Value.str (@Str.ofString "BadText") 225)), (some (Value.str (@Str.ofString "BadText") 233)), (some (Value.builtin "Exception.__new__")), (some (Value.bool Bool.true))]))
noncomputable def hq.o99 (P : Params) : Obj := (Obj.mk (Value.type "super") none (Data.fields (Array.mk [(Value.ref 58), (Value.ref 58), (Value.ref 58)])) (Array.mk []))
noncomputable def hq.o100 (P : Params) : Obj := (Obj.mk (Value.type "builtin_function_or_method") none (Data.fields (Array.mk [(Value.builtin "object.__init_subclass__"), (Value.ref 58)])) (Array.mk []))
noncomputable def hq.o101 (P : Params) : Obj := (Obj.mk (Value.type "dict") none (Data.dict (Array.mk [(DictEntry.mk (@PyData.keyHash P (@Str.ofString "__name__")) (Value.str (@Str.ofString "__name__") 165) (Value.str (@Str.ofString "wasmcore.lexer") 253)), (DictEntry.mk (@PyData.keyHash P (@Str.ofString "__doc__")) (Value.str (@Str.ofString "__doc__") 166) Value.none), (DictEntry.mk (@PyData.keyHash P (@Str.ofString "__package__")) (Value.str (@Str.ofString "__package__") 167) Value.none), (DictEntry.mk (@PyData.keyHash P (@Str.ofString "__loader__")) (Value.str (@Str.ofString "__loader__") 168) (Value.builtin "__main__.__loader__#opaque")), (DictEntry.mk (@PyData.keyHash P (@Str.ofString "__spec__")) (Value.str (@Str.ofString "__spec__") 169) Value.none), (DictEntry.mk (@PyData.keyHash P (@Str.ofString "__annotations__")) (Value.str (@Str.ofString "__annotations__") 170) (Value.ref 6)), (DictEntry.mk (@PyData.keyHash P (@Str.ofString "__builtins__")) (Value.str (@Str.ofString "__builtins__") 171) (Value.ref 4)), (DictEntry.mk (@PyData.keyHash P (@Str.ofString "__file__")) (Value.str (@Str.ofString "__file__") 173) (Value.str (@Str.ofString "/claim/cut.py") 172)), (DictEntry.mk (@PyData.keyHash P (@Str.ofString "__cached__")) (Value.str (@Str.ofString "__cached__") 174) Value.none), (DictEntry.mk (@PyData.keyHash P (@Str.ofString "_wall")) (Value.str (@Str.ofString "_wall") 193) (Value.ref 21)), (DictEntry.mk (@PyData.keyHash P (@Str.ofString "WasmFault")) (Value.str (@Str.ofString "WasmFault") 224) (Value.ref 38)), (DictEntry.mk (@PyData.keyHash P (@Str.ofString "BadText")) (Value.str (@Str.ofString "BadText") 252) (Value.ref 58)), (DictEntry.mk (@PyData.keyHash P (@Str.ofString "DIGITS")) (Value.str (@Str.ofString "DIGITS") 256) (Value.str (@Str.ofString "0123456789") 255)), (DictEntry.mk (@PyData.keyHash P (@Str.ofString "HEX_DIGITS")) (Value.str (@Str.ofString "HEX_DIGITS") 258) (Value.str (@Str.ofString "0123456789abcdefABCDEF") 257)), (DictEntry.mk (@PyData.keyHash P (@Str.ofString "SMALL_LETTERS")) (Value.str (@Str.ofString "SMALL_LETTERS") 260) (Value.str (@Str.ofString "abcdefghijklmnopqrstuvwxyz") 259)), (DictEntry.mk (@PyData.keyHash P (@Str.ofString "Token")) (Value.str (@Str.ofString "Token") 297) (Value.ref 77))]) 16) (Array.mk []))
noncomputable def hq.o102 (P : Params) : Obj := (Obj.mk Value.none none (Data.fields (Array.mk [(Value.int (1 : Int) 0), (Value.int (0 : Int) 0), (Value.ref 20), (Value.int (5 : Int) 0), (Value.int (0 : Int) 0), (Value.ref 27), (Value.int (10 : Int) 0), (Value.int (0 : Int) 0), (Value.ref 47), (Value.int (20 : Int) 0), (Value.int (0 : Int) 0), (Value.ref 66)])) (Array.mk []))
noncomputable def hq.o103 (P : Params) : Obj := (Obj.mk (Value.type "tuple") none (Data.seq (Array.mk []) 0) (Array.mk []))
noncomputable def hq.o104 (P : Params) : Obj := (Obj.mk (Value.type "builtin_function_or_method") none (Data.fields (Array.mk [(Value.builtin "type.__prepare__"), (Value.type "type")])) (Array.mk []))
noncomputable def hq.o105 (P : Params) : Obj := (Obj.mk (Value.type "dict") none (Data.dict (Array.mk [(DictEntry.mk (@PyData.keyHash P (@Str.ofString "__module__")) (Value.str (@Str.ofString "__module__") 268) (Value.str (@Str.ofString "wasmcore.lexer") 253)), (DictEntry.mk (@PyData.keyHash P (@Str.ofString "__qualname__")) (Value.str (@Str.ofString "__qualname__") 270) (Value.str (@Str.ofString "Token") 269)), (DictEntry.mk (@PyData.keyHash P (@Str.ofString "__firstlineno__")) (Value.str (@Str.ofString "__firstlineno__") 272) (Value.int (20 : Int) 271)), (DictEntry.mk (@PyData.keyHash P (@Str.ofString "__init__")) (Value.str (@Str.ofString "__init__") 284) (Value.ref 74)), (DictEntry.mk (@PyData.keyHash P (@Str.ofString "__static_attributes__")) (Value.str (@Str.ofString "__static_attributes__") 290) (Value.ref 75))]) 5) (Array.mk []))
noncomputable def hq.o106 (P : Params) : Obj := (Obj.mk (Value.type "tuple") none (Data.seq (Array.mk []) 0) (Array.mk []))
noncomputable def hq.o107 (P : Params) : Obj := (Obj.mk Value.none none (Data.fields (Array.mk [(Value.int (22 : Int) 0), (Value.int (4 : Int) 0), (Value.ref 73)])) (Array.mk []))
noncomputable def hq.o108 (P : Params) : Obj := (Obj.mk (Value.type "code") none (Data.fields (Array.mk [(Value.str (@Str.ofString "Token") 263), (Value.str (@Str.ofString "Token") 264), (Value.str (@Str.ofString "/claim/cut.py") 265), (Value.int (20 : Int) 0), (Value.int (0 : Int) 0), (Value.int (0 : Int) 0), (Value.int (0 : Int) 0), (Value.int (0 : Int) 0), (Value.ref 64), (Value.bool Bool.false), (Value.int (181 : Int) 0), (Value.ref 65), Value.none, Value.none, Value.none, Value.none, (Value.int (266 : Int) 0), (Value.int (20 : Int) 0), (Value.str (@Str.ofString "/claim/cut.py") 267)])) (Array.mk []))
noncomputable def hq.o109 (P : Params) : Obj := (Obj.mk (Value.type "frame") none Data.plain (Array.mk [(some (Value.ref 66)), (some (Value.ref 3)), (some (Value.ref 63)), none, (some (Value.str (@Str.ofString "wasmcore.lexer") 253)), none, (some (Value.ref 0))]))
noncomputable def hq.o110 (P : Params) : Obj := (Obj.mk (Value.type "tuple") none (Data.seq (Array.mk []) 0) (Array.mk []))
noncomputable def hq.o111 (P : Params) : Obj := (Obj.mk Value.none none (Data.fields (Array.mk [])) (Array.mk []))
noncomputable def hq.o112 (P : Params) : Obj := (Obj.mk (Value.type "tuple") none (Data.seq (Array.mk [(Value.str (@Str.ofString "self") 276), (Value.str (@Str.ofString "sort") 277), (Value.str (@Str.ofString "text") 278), (Value.str (@Str.ofString "value") 279), (Value.str (@Str.ofString "row") 280), (Value.str (@Str.ofString "column") 281)]) 0) (Array.mk []))
noncomputable def hq.o113 (P : Params) : Obj := (Obj.mk (Value.type "tuple") none (Data.seq (Array.mk []) 0) (Array.mk []))
noncomputable def hq.o114 (P : Params) : Obj := (Obj.mk Value.none none (Data.func (FuncData.mk (@Str.ofString "__init__") (@Str.ofString "Token.__init__") (hq.fa (hq.su 8 0)) (FuncBody.stmts (hq.fb (hq.su 8 0))) (hq.fs (hq.su 8 0)) 0 [] Value.none Value.none Value.none Value.none none Value.none Value.none 0)) (Array.mk []))
noncomputable def hq.o115 (P : Params) : Obj := (Obj.mk (Value.type "code") none (Data.fields (Array.mk [(Value.str (@Str.ofString "__init__") 273), (Value.str (@Str.ofString "Token.__init__") 274), (Value.str (@Str.ofString "/claim/cut.py") 275), (Value.int (22 : Int) 0), (Value.int (6 : Int) 0), (Value.int (0 : Int) 0), (Value.int (0 : Int) 0), (Value.int (3 : Int) 0), (Value.ref 68), (Value.bool Bool.true), (Value.int (181 : Int) 0), (Value.ref 69), Value.none, (Value.ref 70), (Value.ref 71), (Value.ref 72), (Value.int (282 : Int) 0), (Value.int (22 : Int) 0), (Value.str (@Str.ofString "/claim/cut.py") 283)])) (Array.mk []))
noncomputable def hq.o116 (P : Params) : Obj := (Obj.mk (Value.type "function") none (Data.func (FuncData.mk (@Str.ofString "__init__") (@Str.ofString "Token.__init__") (hq.fa (hq.su 8 0)) (FuncBody.stmts (hq.fb (hq.su 8 0))) (hq.fs (hq.su 8 0)) 3 [] Value.none Value.none Value.none (Value.str (@Str.ofString "wasmcore.lexer") 253) none (Value.ref 73) Value.none 0)) (Array.mk []))
noncomputable def hq.o117 (P : Params) : Obj := (Obj.mk (Value.type "tuple") none (Data.seq (Array.mk [(Value.str (@Str.ofString "column") 285), (Value.str (@Str.ofString "row") 286), (Value.str (@Str.ofString "sort") 287), (Value.str (@Str.ofString "text") 288), (Value.str (@Str.ofString "value") 289)]) 0) (Array.mk []))
noncomputable def hq.o118 (P : Params) : Obj := (Obj.mk (Value.type "dict") none (Data.dict (Array.mk [(DictEntry.mk (@PyData.keyHash P (@Str.ofString "__module__")) (Value.str (@Str.ofString "__module__") 268) (Value.str (@Str.ofString "wasmcore.lexer") 253)), (DictEntry.mk (@PyData.keyHash P (@Str.ofString "__firstlineno__")) (Value.str (@Str.ofString "__firstlineno__") 272) (Value.int (20 : Int) 271)), (DictEntry.mk (@PyData.keyHash P (@Str.ofString "__init__")) (Value.str (@Str.ofString "__init__") 284) (Value.ref 74)), (DictEntry.mk (@PyData.keyHash P (@Str.ofString "__static_attributes__")) (Value.str (@Str.ofString "__static_attributes__") 290) (Value.ref 75)), (DictEntry.mk (@PyData.keyHash P (@Str.ofString "__dict__")) (Value.str (@Str.ofString "__dict__") 292) (Value.ref 78)), (DictEntry.mk (@PyData.keyHash P (@Str.ofString "__weakref__")) (Value.str (@Str.ofString "__weakref__") 294) (Value.ref 79)), (DictEntry.mk (@PyData.keyHash P (@Str.ofString "__doc__")) (Value.str (@Str.ofString "__doc__") 295) Value.none)]) 4) (Array.mk []))
noncomputable def hq.o119 (P : Params) : Obj := (Obj.mk (Value.type "type") none (Data.cls (ClassData.mk (@Str.ofString "Token") [(Value.type "object")] [(Value.ref 77), (Value.type "object")] 76 (@Str.ofString "Token") Bool.true [] [] Bool.false none Bool.false)) (Array.mk [none, none, (some (Value.str (@Str.ofString "Token") 261)), (some (Value.str (@Str.ofString "Token") 269)), (some (Value.builtin "object.__new__")), (some (Value.bool Bool.true))]))
noncomputable def hq.o120 (P : Params) : Obj := (Obj.mk (Value.type "getset_descriptor") none (Data.fields (Array.mk [(Value.str (@Str.ofString "__dict__") 291), (Value.ref 77), (Value.builtin "function.__dict__"), (Value.builtin "function.__dict__#set")])) (Array.mk []))
noncomputable def hq.o121 (P : Params) : Obj := (Obj.mk (Value.type "getset_descriptor") none (Data.fields (Array.mk [(Value.str (@Str.ofString "__weakref__") 293), (Value.ref 77), (Value.builtin "ExceptionGroup.__weakref__"), Value.none])) (Array.mk []))
noncomputable def hq.o122 (P : Params) : Obj := (Obj.mk (Value.type "super") none (Data.fields (Array.mk [(Value.ref 77), (Value.ref 77), (Value.ref 77)])) (Array.mk []))
noncomputable def hq.o123 (P : Params) : Obj := (Obj.mk (Value.type "builtin_function_or_method") none (Data.fields (Array.mk [(Value.builtin "object.__init_subclass__"), (Value.ref 77)])) (Array.mk []))
noncomputable def hq.o124 (P : Params) : Obj := (Obj.mk (Value.type "dict") none (Data.dict (Array.mk [(DictEntry.mk (@PyData.keyHash P (@Str.ofString "__name__")) (Value.str (@Str.ofString "__name__") 165) (Value.str (@Str.ofString "wasmcore.lexer") 253)), (DictEntry.mk (@PyData.keyHash P (@Str.ofString "__doc__")) (Value.str (@Str.ofString "__doc__") 166) Value.none), (DictEntry.mk (@PyData.keyHash P (@Str.ofString "__package__")) (Value.str (@Str.ofString "__package__") 167) Value.none), (DictEntry.mk (@PyData.keyHash P (@Str.ofString "__loader__")) (Value.str (@Str.ofString "__loader__") 168) (Value.builtin "__main__.__loader__#opaque")), (DictEntry.mk (@PyData.keyHash P (@Str.ofString "__spec__")) (Value.str (@Str.ofString "__spec__") 169) Value.none), (DictEntry.mk (@PyData.keyHash P (@Str.ofString "__annotations__")) (Value.str (@Str.ofString "__annotations__") 170) (Value.ref 6)), (DictEntry.mk (@PyData.keyHash P (@Str.ofString "__builtins__")) (Value.str (@Str.ofString "__builtins__") 171) (Value.ref 4)), (DictEntry.mk (@PyData.keyHash P (@Str.ofString "__file__")) (Value.str (@Str.ofString "__file__") 173) (Value.str (@Str.ofString "/claim/cut.py") 172)), (DictEntry.mk (@PyData.keyHash P (@Str.ofString "__cached__")) (Value.str (@Str.ofString "__cached__") 174) Value.none), (DictEntry.mk (@PyData.keyHash P (@Str.ofString "_wall")) (Value.str (@Str.ofString "_wall") 193) (Value.ref 21)), (DictEntry.mk (@PyData.keyHash P (@Str.ofString "WasmFault")) (Value.str (@Str.ofString "WasmFault") 224) (Value.ref 38)), (DictEntry.mk (@PyData.keyHash P (@Str.ofString "BadText")) (Value.str (@Str.ofString "BadText") 252) (Value.ref 58)), (DictEntry.mk (@PyData.keyHash P (@Str.ofString "DIGITS")) (Value.str (@Str.ofString "DIGITS") 256) (Value.str (@Str.ofString "0123456789") 255)), (DictEntry.mk (@PyData.keyHash P (@Str.ofString "HEX_DIGITS")) (Value.str (@Str.ofString "HEX_DIGITS") 258) (Value.str (@Str.ofString "0123456789abcdefABCDEF") 257)), (DictEntry.mk (@PyData.keyHash P (@Str.ofString "SMALL_LETTERS")) (Value.str (@Str.ofString "SMALL_LETTERS") 260) (Value.str (@Str.ofString "abcdefghijklmnopqrstuvwxyz") 259)), (DictEntry.mk (@PyData.keyHash P (@Str.ofString "Token")) (Value.str (@Str.ofString "Token") 297) (Value.ref 77)), (DictEntry.mk (@PyData.keyHash P (@Str.ofString "Branch")) (Value.str (@Str.ofString "Branch") 337) (Value.ref 105)), (DictEntry.mk (@PyData.keyHash P (@Str.ofString "is_token")) (Value.str (@Str.ofString "is_token") 346) (Value.ref 117)), (DictEntry.mk (@PyData.keyHash P (@Str.ofString "whole_of")) (Value.str (@Str.ofString "whole_of") 358) (Value.ref 124)), (DictEntry.mk (@PyData.keyHash P (@Str.ofString "number_in")) (Value.str (@Str.ofString "number_in") 367) (Value.ref 131)), (DictEntry.mk (@PyData.keyHash P (@Str.ofString "sorted_word")) (Value.str (@Str.ofString "sorted_word") 375) (Value.ref 138))]) 21) (Array.mk []))
noncomputable def hq.o125 (P : Params) : Obj := (Obj.mk Value.none none (Data.fields (Array.mk [(Value.int (1 : Int) 0), (Value.int (0 : Int) 0), (Value.ref 20), (Value.int (5 : Int) 0), (Value.int (0 : Int) 0), (Value.ref 27), (Value.int (10 : Int) 0), (Value.int (0 : Int) 0), (Value.ref 47), (Value.int (20 : Int) 0), (Value.int (0 : Int) 0), (Value.ref 66), (Value.int (28 : Int) 0), (Value.int (0 : Int) 0), (Value.ref 87), (Value.int (37 : Int) 0), (Value.int (0 : Int) 0), (Value.ref 116), (Value.int (39 : Int) 0), (Value.int (0 : Int) 0), (Value.ref 123), (Value.int (52 : Int) 0), (Value.int (0 : Int) 0), (Value.ref 130), (Value.int (56 : Int) 0), (Value.int (0 : Int) 0), (Value.ref 137)])) (Array.mk []))
noncomputable def hq.o126 (P : Params) : Obj := (Obj.mk (Value.type "tuple") none (Data.seq (Array.mk []) 0) (Array.mk []))
noncomputable def hq.o127 (P : Params) : Obj := (Obj.mk (Value.type "builtin_function_or_method") none (Data.fields (Array.mk [(Value.builtin "type.__prepare__"), (Value.type "type")])) (Array.mk []))
noncomputable def hq.o128 (P : Params) : Obj := (Obj.mk (Value.type "dict") none (Data.dict (Array.mk [(DictEntry.mk (@PyData.keyHash P (@Str.ofString "__module__")) (Value.str (@Str.ofString "__module__") 305) (Value.str (@Str.ofString "wasmcore.lexer") 253)), (DictEntry.mk (@PyData.keyHash P (@Str.ofString "__qualname__")) (Value.str (@Str.ofString "__qualname__") 307) (Value.str (@Str.ofString "Branch") 306)), (DictEntry.mk (@PyData.keyHash P (@Str.ofString "__firstlineno__")) (Value.str (@Str.ofString "__firstlineno__") 309) (Value.int (28 : Int) 308)), (DictEntry.mk (@PyData.keyHash P (@Str.ofString "__init__")) (Value.str (@Str.ofString "__init__") 319) (Value.ref 95)), (DictEntry.mk (@PyData.keyHash P (@Str.ofString "head")) (Value.str (@Str.ofString "head") 326) (Value.ref 102)), (DictEntry.mk (@PyData.keyHash P (@Str.ofString "__static_attributes__")) (Value.str (@Str.ofString "__static_attributes__") 330) (Value.ref 103))]) 6) (Array.mk []))
noncomputable def hq.o129 (P : Params) : Obj := (Obj.mk (Value.type "tuple") none (Data.seq (Array.mk []) 0) (Array.mk []))
noncomputable def hq.o130 (P : Params) : Obj := (Obj.mk Value.none none (Data.fields (Array.mk [(Value.int (30 : Int) 0), (Value.int (4 : Int) 0), (Value.ref 94), (Value.int (35 : Int) 0), (Value.int (4 : Int) 0), (Value.ref 101)])) (Array.mk []))
noncomputable def hq.o131 (P : Params) : Obj := (Obj.mk (Value.type "code") none (Data.fields (Array.mk [(Value.str (@Str.ofString "Branch") 300), (Value.str (@Str.ofString "Branch") 301), (Value.str (@Str.ofString "/claim/cut.py") 302), (Value.int (28 : Int) 0), (Value.int (0 : Int) 0), (Value.int (0 : Int) 0), (Value.int (0 : Int) 0), (Value.int (0 : Int) 0), (Value.ref 85), (Value.bool Bool.false), (Value.int (181 : Int) 0), (Value.ref 86), Value.none, Value.none, Value.none, Value.none, (Value.int (303 : Int) 0), (Value.int (28 : Int) 0), (Value.str (@Str.ofString "/claim/cut.py") 304)])) (Array.mk []))
noncomputable def hq.o132 (P : Params) : Obj := (Obj.mk (Value.type "frame") none Data.plain (Array.mk [(some (Value.ref 87)), (some (Value.ref 3)), (some (Value.ref 84)), none, (some (Value.str (@Str.ofString "wasmcore.lexer") 253)), none, (some (Value.ref 0))]))
noncomputable def hq.o133 (P : Params) : Obj := (Obj.mk (Value.type "tuple") none (Data.seq (Array.mk []) 0) (Array.mk []))
noncomputable def hq.o134 (P : Params) : Obj := (Obj.mk Value.none none (Data.fields (Array.mk [])) (Array.mk []))
noncomputable def hq.o135 (P : Params) : Obj := (Obj.mk (Value.type "tuple") none (Data.seq (Array.mk [(Value.str (@Str.ofString "self") 313), (Value.str (@Str.ofString "items") 314), (Value.str (@Str.ofString "row") 315), (Value.str (@Str.ofString "column") 316)]) 0) (Array.mk []))
noncomputable def hq.o136 (P : Params) : Obj := (Obj.mk (Value.type "tuple") none (Data.seq (Array.mk []) 0) (Array.mk []))
noncomputable def hq.o137 (P : Params) : Obj := (Obj.mk Value.none none (Data.func (FuncData.mk (@Str.ofString "__init__") (@Str.ofString "Branch.__init__") (hq.fa (hq.su 9 0)) (FuncBody.stmts (hq.fb (hq.su 9 0))) (hq.fs (hq.su 9 0)) 0 [] Value.none Value.none Value.none Value.none none Value.none Value.none 0)) (Array.mk []))
noncomputable def hq.o138 (P : Params) : Obj := (Obj.mk (Value.type "code") none (Data.fields (Array.mk [(Value.str (@Str.ofString "__init__") 310), (Value.str (@Str.ofString "Branch.__init__") 311), (Value.str (@Str.ofString "/claim/cut.py") 312), (Value.int (30 : Int) 0), (Value.int (4 : Int) 0), (Value.int (0 : Int) 0), (Value.int (0 : Int) 0), (Value.int (3 : Int) 0), (Value.ref 89), (Value.bool Bool.true), (Value.int (181 : Int) 0), (Value.ref 90), Value.none, (Value.ref 91), (Value.ref 92), (Value.ref 93), (Value.int (317 : Int) 0), (Value.int (30 : Int) 0), (Value.str (@Str.ofString "/claim/cut.py") 318)])) (Array.mk []))
noncomputable def hq.o139 (P : Params) : Obj := (Obj.mk (Value.type "function") none (Data.func (FuncData.mk (@Str.ofString "__init__") (@Str.ofString "Branch.__init__") (hq.fa (hq.su 9 0)) (FuncBody.stmts (hq.fb (hq.su 9 0))) (hq.fs (hq.su 9 0)) 3 [] Value.none Value.none Value.none (Value.str (@Str.ofString "wasmcore.lexer") 253) none (Value.ref 94) Value.none 0)) (Array.mk []))
noncomputable def hq.o140 (P : Params) : Obj := (Obj.mk (Value.type "tuple") none (Data.seq (Array.mk []) 0) (Array.mk []))
noncomputable def hq.o141 (P : Params) : Obj := (Obj.mk Value.none none (Data.fields (Array.mk [])) (Array.mk []))
noncomputable def hq.o142 (P : Params) : Obj := (Obj.mk (Value.type "tuple") none (Data.seq (Array.mk [(Value.str (@Str.ofString "self") 323)]) 0) (Array.mk []))
noncomputable def hq.o143 (P : Params) : Obj := (Obj.mk (Value.type "tuple") none (Data.seq (Array.mk []) 0) (Array.mk []))
noncomputable def hq.o144 (P : Params) : Obj := (Obj.mk Value.none none (Data.func (FuncData.mk (@Str.ofString "head") (@Str.ofString "Branch.head") (hq.fa (hq.su 9 1)) (FuncBody.stmts (hq.fb (hq.su 9 1))) (hq.fs (hq.su 9 1)) 0 [] Value.none Value.none Value.none Value.none none Value.none Value.none 0)) (Array.mk []))
noncomputable def hq.o145 (P : Params) : Obj := (Obj.mk (Value.type "code") none (Data.fields (Array.mk [(Value.str (@Str.ofString "head") 320), (Value.str (@Str.ofString "Branch.head") 321), (Value.str (@Str.ofString "/claim/cut.py") 322), (Value.int (35 : Int) 0), (Value.int (1 : Int) 0), (Value.int (0 : Int) 0), (Value.int (0 : Int) 0), (Value.int (3 : Int) 0), (Value.ref 96), (Value.bool Bool.true), (Value.int (181 : Int) 0), (Value.ref 97), Value.none, (Value.ref 98), (Value.ref 99), (Value.ref 100), (Value.int (324 : Int) 0), (Value.int (35 : Int) 0), (Value.str (@Str.ofString "/claim/cut.py") 325)])) (Array.mk []))
noncomputable def hq.o146 (P : Params) : Obj := (Obj.mk (Value.type "function") none (Data.func (FuncData.mk (@Str.ofString "head") (@Str.ofString "Branch.head") (hq.fa (hq.su 9 1)) (FuncBody.stmts (hq.fb (hq.su 9 1))) (hq.fs (hq.su 9 1)) 3 [] Value.none Value.none Value.none (Value.str (@Str.ofString "wasmcore.lexer") 253) none (Value.ref 101) Value.none 0)) (Array.mk []))
noncomputable def hq.o147 (P : Params) : Obj := (Obj.mk (Value.type "tuple") none (Data.seq (Array.mk [(Value.str (@Str.ofString "column") 327), (Value.str (@Str.ofString "items") 328), (Value.str (@Str.ofString "row") 329)]) 0) (Array.mk []))
noncomputable def hq.o148 (P : Params) : Obj := (Obj.mk (Value.type "dict") none (Data.dict (Array.mk [(DictEntry.mk (@PyData.keyHash P (@Str.ofString "__module__")) (Value.str (@Str.ofString "__module__") 305) (Value.str (@Str.ofString "wasmcore.lexer") 253)), (DictEntry.mk (@PyData.keyHash P (@Str.ofString "__firstlineno__")) (Value.str (@Str.ofString "__firstlineno__") 309) (Value.int (28 : Int) 308)), (DictEntry.mk (@PyData.keyHash P (@Str.ofString "__init__")) (Value.str (@Str.ofString "__init__") 319) (Value.ref 95)), (DictEntry.mk (@PyData.keyHash P (@Str.ofString "head")) (Value.str (@Str.ofString "head") 326) (Value.ref 102)), (DictEntry.mk (@PyData.keyHash P (@Str.ofString "__static_attributes__")) (Value.str (@Str.ofString "__static_attributes__") 330) (Value.ref 103)), (DictEntry.mk (@PyData.keyHash P (@Str.ofString "__dict__")) (Value.str (@Str.ofString "__dict__") 332) (Value.ref 106)), (DictEntry.mk (@PyData.keyHash P (@Str.ofString "__weakref__")) (Value.str (@Str.ofString "__weakref__") 334) (Value.ref 107)), (DictEntry.mk (@PyData.keyHash P (@Str.ofString "__doc__")) (Value.str (@Str.ofString "__doc__") 335) Value.none)]) 4) (Array.mk []))
noncomputable def hq.o149 (P : Params) : Obj := (Obj.mk (Value.type "type") none (Data.cls (ClassData.mk (@Str.ofString "Branch") [(Value.type "object")] [(Value.ref 105), (Value.type "object")] 104 (@Str.ofString "Branch") Bool.true [] [] Bool.false none Bool.false)) (Array.mk [none, none, (some (Value.str (@Str.ofString "Branch") 298)), (some (Value.str (@Str.ofString "Branch") 306)), (some (Value.builtin "object.__new__")), (some (Value.bool Bool.true))]))
noncomputable def hq.o150 (P : Params) : Obj := (Obj.mk (Value.type "getset_descriptor") none (Data.fields (Array.mk [(Value.str (@Str.ofString "__dict__") 331), (Value.ref 105), (Value.builtin "function.__dict__"), (Value.builtin "function.__dict__#set")])) (Array.mk []))
noncomputable def hq.o151 (P : Params) : Obj := (Obj.mk (Value.type "getset_descriptor") none (Data.fields (Array.mk [(Value.str (@Str.ofString "__weakref__") 333), (Value.ref 105), (Value.builtin "ExceptionGroup.__weakref__"), Value.none])) (Array.mk []))
noncomputable def hq.o152 (P : Params) : Obj := (Obj.mk (Value.type "super") none (Data.fields (Array.mk [(Value.ref 105), (Value.ref 105), (Value.ref 105)])) (Array.mk []))
noncomputable def hq.o153 (P : Params) : Obj := (Obj.mk (Value.type "builtin_function_or_method") none (Data.fields (Array.mk [(Value.builtin "object.__init_subclass__"), (Value.ref 105)])) (Array.mk []))
noncomputable def hq.o154 (P : Params) : Obj := (Obj.mk (Value.type "tuple") none (Data.seq (Array.mk [Value.none]) 0) (Array.mk []))
noncomputable def hq.o155 (P : Params) : Obj := (Obj.mk (Value.type "tuple") none (Data.seq (Array.mk []) 0) (Array.mk []))
noncomputable def hq.o156 (P : Params) : Obj := (Obj.mk Value.none none (Data.fields (Array.mk [])) (Array.mk []))
noncomputable def hq.o157 (P : Params) : Obj := (Obj.mk (Value.type "tuple") none (Data.seq (Array.mk [(Value.str (@Str.ofString "item") 341), (Value.str (@Str.ofString "sort") 342), (Value.str (@Str.ofString "text") 343)]) 0) (Array.mk []))
noncomputable def hq.o158 (P : Params) : Obj := (Obj.mk (Value.type "tuple") none (Data.seq (Array.mk []) 0) (Array.mk []))
noncomputable def hq.o159 (P : Params) : Obj := (Obj.mk Value.none none (Data.func (FuncData.mk (@Str.ofString "is_token") (@Str.ofString "is_token") (hq.fa (hq.st 10)) (FuncBody.stmts (hq.fb (hq.st 10))) (hq.fs (hq.st 10)) 0 [] Value.none Value.none Value.none Value.none none Value.none Value.none 0)) (Array.mk []))
noncomputable def hq.o160 (P : Params) : Obj := (Obj.mk (Value.type "code") none (Data.fields (Array.mk [(Value.str (@Str.ofString "is_token") 338), (Value.str (@Str.ofString "is_token") 339), (Value.str (@Str.ofString "/claim/cut.py") 340), (Value.int (37 : Int) 0), (Value.int (3 : Int) 0), (Value.int (0 : Int) 0), (Value.int (0 : Int) 0), (Value.int (3 : Int) 0), (Value.ref 111), (Value.bool Bool.true), (Value.int (181 : Int) 0), (Value.ref 112), Value.none, (Value.ref 113), (Value.ref 114), (Value.ref 115), (Value.int (344 : Int) 0), (Value.int (37 : Int) 0), (Value.str (@Str.ofString "/claim/cut.py") 345)])) (Array.mk []))
noncomputable def hq.o161 (P : Params) : Obj := (Obj.mk (Value.type "function") none (Data.func (FuncData.mk (@Str.ofString "is_token") (@Str.ofString "is_token") (hq.fa (hq.st 10)) (FuncBody.stmts (hq.fb (hq.st 10))) (hq.fs (hq.st 10)) 3 [] (Value.ref 110) Value.none Value.none (Value.str (@Str.ofString "wasmcore.lexer") 253) none (Value.ref 116) Value.none 0)) (Array.mk []))
noncomputable def hq.o162 (P : Params) : Obj := (Obj.mk (Value.type "tuple") none (Data.seq (Array.mk []) 0) (Array.mk []))
noncomputable def hq.o163 (P : Params) : Obj := (Obj.mk Value.none none (Data.fields (Array.mk [])) (Array.mk []))
noncomputable def hq.o164 (P : Params) : Obj := (Obj.mk (Value.type "tuple") none (Data.seq (Array.mk [(Value.str (@Str.ofString "text") 350), (Value.str (@Str.ofString "base") 351), (Value.str (@Str.ofString "digits") 352), (Value.str (@Str.ofString "found") 353), (Value.str (@Str.ofString "was_digit") 354), (Value.str (@Str.ofString "sign") 355)]) 0) (Array.mk []))
noncomputable def hq.o165 (P : Params) : Obj := (Obj.mk (Value.type "tuple") none (Data.seq (Array.mk []) 0) (Array.mk []))
noncomputable def hq.o166 (P : Params) : Obj := (Obj.mk Value.none none (Data.func (FuncData.mk (@Str.ofString "whole_of") (@Str.ofString "whole_of") (hq.fa (hq.st 11)) (FuncBody.stmts (hq.fb (hq.st 11))) (hq.fs (hq.st 11)) 0 [] Value.none Value.none Value.none Value.none none Value.none Value.none 0)) (Array.mk []))
noncomputable def hq.o167 (P : Params) : Obj := (Obj.mk (Value.type "code") none (Data.fields (Array.mk [(Value.str (@Str.ofString "whole_of") 347), (Value.str (@Str.ofString "whole_of") 348), (Value.str (@Str.ofString "/claim/cut.py") 349), (Value.int (39 : Int) 0), (Value.int (2 : Int) 0), (Value.int (0 : Int) 0), (Value.int (0 : Int) 0), (Value.int (3 : Int) 0), (Value.ref 118), (Value.bool Bool.true), (Value.int (181 : Int) 0), (Value.ref 119), Value.none, (Value.ref 120), (Value.ref 121), (Value.ref 122), (Value.int (356 : Int) 0), (Value.int (39 : Int) 0), (Value.str (@Str.ofString "/claim/cut.py") 357)])) (Array.mk []))
noncomputable def hq.o168 (P : Params) : Obj := (Obj.mk (Value.type "function") none (Data.func (FuncData.mk (@Str.ofString "whole_of") (@Str.ofString "whole_of") (hq.fa (hq.st 11)) (FuncBody.stmts (hq.fb (hq.st 11))) (hq.fs (hq.st 11)) 3 [] Value.none Value.none Value.none (Value.str (@Str.ofString "wasmcore.lexer") 253) none (Value.ref 123) Value.none 0)) (Array.mk []))
noncomputable def hq.o169 (P : Params) : Obj := (Obj.mk (Value.type "tuple") none (Data.seq (Array.mk []) 0) (Array.mk []))
noncomputable def hq.o170 (P : Params) : Obj := (Obj.mk Value.none none (Data.fields (Array.mk [])) (Array.mk []))
noncomputable def hq.o171 (P : Params) : Obj := (Obj.mk (Value.type "tuple") none (Data.seq (Array.mk [(Value.str (@Str.ofString "text") 362), (Value.str (@Str.ofString "body") 363), (Value.str (@Str.ofString "found") 364)]) 0) (Array.mk []))
noncomputable def hq.o172 (P : Params) : Obj := (Obj.mk (Value.type "tuple") none (Data.seq (Array.mk []) 0) (Array.mk []))
noncomputable def hq.o173 (P : Params) : Obj := (Obj.mk Value.none none (Data.func (FuncData.mk (@Str.ofString "number_in") (@Str.ofString "number_in") (hq.fa (hq.st 12)) (FuncBody.stmts (hq.fb (hq.st 12))) (hq.fs (hq.st 12)) 0 [] Value.none Value.none Value.none Value.none none Value.none Value.none 0)) (Array.mk []))
noncomputable def hq.o174 (P : Params) : Obj := (Obj.mk (Value.type "code") none (Data.fields (Array.mk [(Value.str (@Str.ofString "number_in") 359), (Value.str (@Str.ofString "number_in") 360), (Value.str (@Str.ofString "/claim/cut.py") 361), (Value.int (52 : Int) 0), (Value.int (1 : Int) 0), (Value.int (0 : Int) 0), (Value.int (0 : Int) 0), (Value.int (3 : Int) 0), (Value.ref 125), (Value.bool Bool.true), (Value.int (181 : Int) 0), (Value.ref 126), Value.none, (Value.ref 127), (Value.ref 128), (Value.ref 129), (Value.int (365 : Int) 0), (Value.int (52 : Int) 0), (Value.str (@Str.ofString "/claim/cut.py") 366)])) (Array.mk []))
noncomputable def hq.o175 (P : Params) : Obj := (Obj.mk (Value.type "function") none (Data.func (FuncData.mk (@Str.ofString "number_in") (@Str.ofString "number_in") (hq.fa (hq.st 12)) (FuncBody.stmts (hq.fb (hq.st 12))) (hq.fs (hq.st 12)) 3 [] Value.none Value.none Value.none (Value.str (@Str.ofString "wasmcore.lexer") 253) none (Value.ref 130) Value.none 0)) (Array.mk []))
noncomputable def hq.o176 (P : Params) : Obj := (Obj.mk (Value.type "tuple") none (Data.seq (Array.mk []) 0) (Array.mk []))
noncomputable def hq.o177 (P : Params) : Obj := (Obj.mk Value.none none (Data.fields (Array.mk [])) (Array.mk []))
noncomputable def hq.o178 (P : Params) : Obj := (Obj.mk (Value.type "tuple") none (Data.seq (Array.mk [(Value.str (@Str.ofString "text") 371), (Value.str (@Str.ofString "number") 372)]) 0) (Array.mk []))
noncomputable def hq.o179 (P : Params) : Obj := (Obj.mk (Value.type "tuple") none (Data.seq (Array.mk []) 0) (Array.mk []))
noncomputable def hq.o180 (P : Params) : Obj := (Obj.mk Value.none none (Data.func (FuncData.mk (@Str.ofString "sorted_word") (@Str.ofString "sorted_word") (hq.fa (hq.st 13)) (FuncBody.stmts (hq.fb (hq.st 13))) (hq.fs (hq.st 13)) 0 [] Value.none Value.none Value.none Value.none none Value.none Value.none 0)) (Array.mk []))
noncomputable def hq.o181 (P : Params) : Obj := (Obj.mk (Value.type "code") none (Data.fields (Array.mk [(Value.str (@Str.ofString "sorted_word") 368), (Value.str (@Str.ofString "sorted_word") 369), (Value.str (@Str.ofString "/claim/cut.py") 370), (Value.int (56 : Int) 0), (Value.int (1 : Int) 0), (Value.int (0 : Int) 0), (Value.int (0 : Int) 0), (Value.int (3 : Int) 0), (Value.ref 132), (Value.bool Bool.true), (Value.int (181 : Int) 0), (Value.ref 133), Value.none, (Value.ref 134), (Value.ref 135), (Value.ref 136), (Value.int (373 : Int) 0), (Value.int (56 : Int) 0), (Value.str (@Str.ofString "/claim/cut.py") 374)])) (Array.mk []))
noncomputable def hq.o182 (P : Params) : Obj := (Obj.mk (Value.type "function") none (Data.func (FuncData.mk (@Str.ofString "sorted_word") (@Str.ofString "sorted_word") (hq.fa (hq.st 13)) (FuncBody.stmts (hq.fb (hq.st 13))) (hq.fs (hq.st 13)) 3 [] Value.none Value.none Value.none (Value.str (@Str.ofString "wasmcore.lexer") 253) none (Value.ref 137) Value.none 0)) (Array.mk []))
noncomputable def hq.o183 (P : Params) : Obj := (Obj.mk (Value.type "dict") none (Data.dict (Array.mk [(DictEntry.mk (@PyData.keyHash P (@Str.ofString "__name__")) (Value.str (@Str.ofString "__name__") 165) (Value.str (@Str.ofString "law_nm0112_01") 393)), (DictEntry.mk (@PyData.keyHash P (@Str.ofString "__doc__")) (Value.str (@Str.ofString "__doc__") 166) Value.none), (DictEntry.mk (@PyData.keyHash P (@Str.ofString "__package__")) (Value.str (@Str.ofString "__package__") 167) Value.none), (DictEntry.mk (@PyData.keyHash P (@Str.ofString "__loader__")) (Value.str (@Str.ofString "__loader__") 168) (Value.builtin "__main__.__loader__#opaque")), (DictEntry.mk (@PyData.keyHash P (@Str.ofString "__spec__")) (Value.str (@Str.ofString "__spec__") 169) Value.none), (DictEntry.mk (@PyData.keyHash P (@Str.ofString "__annotations__")) (Value.str (@Str.ofString "__annotations__") 170) (Value.ref 6)), (DictEntry.mk (@PyData.keyHash P (@Str.ofString "__builtins__")) (Value.str (@Str.ofString "__builtins__") 171) (Value.ref 4)), (DictEntry.mk (@PyData.keyHash P (@Str.ofString "__file__")) (Value.str (@Str.ofString "__file__") 173) (Value.str (@Str.ofString "/claim/cut.py") 172)), (DictEntry.mk (@PyData.keyHash P (@Str.ofString "__cached__")) (Value.str (@Str.ofString "__cached__") 174) Value.none), (DictEntry.mk (@PyData.keyHash P (@Str.ofString "_wall")) (Value.str (@Str.ofString "_wall") 193) (Value.ref 21)), (DictEntry.mk (@PyData.keyHash P (@Str.ofString "WasmFault")) (Value.str (@Str.ofString "WasmFault") 224) (Value.ref 38)), (DictEntry.mk (@PyData.keyHash P (@Str.ofString "BadText")) (Value.str (@Str.ofString "BadText") 252) (Value.ref 58)), (DictEntry.mk (@PyData.keyHash P (@Str.ofString "DIGITS")) (Value.str (@Str.ofString "DIGITS") 256) (Value.str (@Str.ofString "0123456789") 255)), (DictEntry.mk (@PyData.keyHash P (@Str.ofString "HEX_DIGITS")) (Value.str (@Str.ofString "HEX_DIGITS") 258) (Value.str (@Str.ofString "0123456789abcdefABCDEF") 257)), (DictEntry.mk (@PyData.keyHash P (@Str.ofString "SMALL_LETTERS")) (Value.str (@Str.ofString "SMALL_LETTERS") 260) (Value.str (@Str.ofString "abcdefghijklmnopqrstuvwxyz") 259)), (DictEntry.mk (@PyData.keyHash P (@Str.ofString "Token")) (Value.str (@Str.ofString "Token") 297) (Value.ref 77)), (DictEntry.mk (@PyData.keyHash P (@Str.ofString "Branch")) (Value.str (@Str.ofString "Branch") 337) (Value.ref 105)), (DictEntry.mk (@PyData.keyHash P (@Str.ofString "is_token")) (Value.str (@Str.ofString "is_token") 346) (Value.ref 117)), (DictEntry.mk (@PyData.keyHash P (@Str.ofString "whole_of")) (Value.str (@Str.ofString "whole_of") 358) (Value.ref 124)), (DictEntry.mk (@PyData.keyHash P (@Str.ofString "number_in")) (Value.str (@Str.ofString "number_in") 367) (Value.ref 131)), (DictEntry.mk (@PyData.keyHash P (@Str.ofString "sorted_word")) (Value.str (@Str.ofString "sorted_word") 375) (Value.ref 138)), (DictEntry.mk (@PyData.keyHash P (@Str.ofString "int_of")) (Value.str (@Str.ofString "int_of") 385) (Value.ref 145)), (DictEntry.mk (@PyData.keyHash P (@Str.ofString "u32_of")) (Value.str (@Str.ofString "u32_of") 392) (Value.ref 152)), (DictEntry.mk (@PyData.keyHash P (@Str.ofString "_law_signs")) (Value.str (@Str.ofString "_law_signs") 396) (Value.str (@Str.ofString "0123456789abcdefABCDEF_x+-gZ$.!X") 395)), (DictEntry.mk (@PyData.keyHash P (@Str.ofString "_law_at")) (Value.str (@Str.ofString "_law_at") 404) (Value.ref 159)), (DictEntry.mk (@PyData.keyHash P (@Str.ofString "_law_number_drawn")) (Value.str (@Str.ofString "_law_number_drawn") 414) (Value.ref 166)), (DictEntry.mk (@PyData.keyHash P (@Str.ofString "_law_writing")) (Value.str (@Str.ofString "_law_writing") 432) (Value.ref 173)), (DictEntry.mk (@PyData.keyHash P (@Str.ofString "_law_text")) (Value.str (@Str.ofString "_law_text") 442) (Value.ref 180)), (DictEntry.mk (@PyData.keyHash P (@Str.ofString "_law_read")) (Value.str (@Str.ofString "_law_read") 448) (Value.ref 185)), (DictEntry.mk (@PyData.keyHash P (@Str.ofString "_law_sort")) (Value.str (@Str.ofString "_law_sort") 456) (Value.ref 192)), (DictEntry.mk (@PyData.keyHash P (@Str.ofString "_law_due")) (Value.str (@Str.ofString "_law_due") 470) (Value.ref 199)), (DictEntry.mk (@PyData.keyHash P (@Str.ofString "_law_told")) (Value.str (@Str.ofString "_law_told") 479) (Value.ref 206)), (DictEntry.mk (@PyData.keyHash P (@Str.ofString "law")) (Value.str (@Str.ofString "law") 485) (Value.ref 211))]) 33) (Array.mk []))
noncomputable def hq.o184 (P : Params) : Obj := (Obj.mk Value.none none (Data.fields (Array.mk [(Value.int (1 : Int) 0), (Value.int (0 : Int) 0), (Value.ref 20), (Value.int (5 : Int) 0), (Value.int (0 : Int) 0), (Value.ref 27), (Value.int (10 : Int) 0), (Value.int (0 : Int) 0), (Value.ref 47), (Value.int (20 : Int) 0), (Value.int (0 : Int) 0), (Value.ref 66), (Value.int (28 : Int) 0), (Value.int (0 : Int) 0), (Value.ref 87), (Value.int (37 : Int) 0), (Value.int (0 : Int) 0), (Value.ref 116), (Value.int (39 : Int) 0), (Value.int (0 : Int) 0), (Value.ref 123), (Value.int (52 : Int) 0), (Value.int (0 : Int) 0), (Value.ref 130), (Value.int (56 : Int) 0), (Value.int (0 : Int) 0), (Value.ref 137), (Value.int (65 : Int) 0), (Value.int (0 : Int) 0), (Value.ref 144), (Value.int (73 : Int) 0), (Value.int (0 : Int) 0), (Value.ref 151), (Value.int (81 : Int) 0), (Value.int (0 : Int) 0), (Value.ref 158), (Value.int (83 : Int) 0), (Value.int (0 : Int) 0), (Value.ref 165), (Value.int (88 : Int) 0), (Value.int (0 : Int) 0), (Value.ref 172), (Value.int (105 : Int) 0), (Value.int (0 : Int) 0), (Value.ref 179), (Value.int (112 : Int) 0), (Value.int (0 : Int) 0), (Value.ref 184), (Value.int (122 : Int) 0), (Value.int (0 : Int) 0), (Value.ref 191), (Value.int (128 : Int) 0), (Value.int (0 : Int) 0), (Value.ref 198), (Value.int (139 : Int) 0), (Value.int (0 : Int) 0), (Value.ref 205), (Value.int (144 : Int) 0), (Value.int (0 : Int) 0), (Value.ref 210)])) (Array.mk []))
noncomputable def hq.o185 (P : Params) : Obj := (Obj.mk (Value.type "tuple") none (Data.seq (Array.mk []) 0) (Array.mk []))
noncomputable def hq.o186 (P : Params) : Obj := (Obj.mk Value.none none (Data.fields (Array.mk [])) (Array.mk []))
noncomputable def hq.o187 (P : Params) : Obj := (Obj.mk (Value.type "tuple") none (Data.seq (Array.mk [(Value.str (@Str.ofString "token") 379), (Value.str (@Str.ofString "bits") 380), (Value.str (@Str.ofString "half") 381), (Value.str (@Str.ofString "most") 382)]) 0) (Array.mk []))
noncomputable def hq.o188 (P : Params) : Obj := (Obj.mk (Value.type "tuple") none (Data.seq (Array.mk []) 0) (Array.mk []))
noncomputable def hq.o189 (P : Params) : Obj := (Obj.mk Value.none none (Data.func (FuncData.mk (@Str.ofString "int_of") (@Str.ofString "int_of") (hq.fa (hq.st 14)) (FuncBody.stmts (hq.fb (hq.st 14))) (hq.fs (hq.st 14)) 0 [] Value.none Value.none Value.none Value.none none Value.none Value.none 0)) (Array.mk []))
noncomputable def hq.o190 (P : Params) : Obj := (Obj.mk (Value.type "code") none (Data.fields (Array.mk [(Value.str (@Str.ofString "int_of") 376), (Value.str (@Str.ofString "int_of") 377), (Value.str (@Str.ofString "/claim/cut.py") 378), (Value.int (65 : Int) 0), (Value.int (2 : Int) 0), (Value.int (0 : Int) 0), (Value.int (0 : Int) 0), (Value.int (3 : Int) 0), (Value.ref 139), (Value.bool Bool.true), (Value.int (181 : Int) 0), (Value.ref 140), Value.none, (Value.ref 141), (Value.ref 142), (Value.ref 143), (Value.int (383 : Int) 0), (Value.int (65 : Int) 0), (Value.str (@Str.ofString "/claim/cut.py") 384)])) (Array.mk []))
noncomputable def hq.o191 (P : Params) : Obj := (Obj.mk (Value.type "function") none (Data.func (FuncData.mk (@Str.ofString "int_of") (@Str.ofString "int_of") (hq.fa (hq.st 14)) (FuncBody.stmts (hq.fb (hq.st 14))) (hq.fs (hq.st 14)) 3 [] Value.none Value.none Value.none (Value.str (@Str.ofString "wasmcore.lexer") 253) none (Value.ref 144) Value.none 0)) (Array.mk []))
noncomputable def hq.o192 (P : Params) : Obj := (Obj.mk (Value.type "tuple") none (Data.seq (Array.mk []) 0) (Array.mk []))
noncomputable def hq.o193 (P : Params) : Obj := (Obj.mk Value.none none (Data.fields (Array.mk [])) (Array.mk []))
noncomputable def hq.o194 (P : Params) : Obj := (Obj.mk (Value.type "tuple") none (Data.seq (Array.mk [(Value.str (@Str.ofString "token") 389)]) 0) (Array.mk []))
noncomputable def hq.o195 (P : Params) : Obj := (Obj.mk (Value.type "tuple") none (Data.seq (Array.mk []) 0) (Array.mk []))
noncomputable def hq.o196 (P : Params) : Obj := (Obj.mk Value.none none (Data.func (FuncData.mk (@Str.ofString "u32_of") (@Str.ofString "u32_of") (hq.fa (hq.st 15)) (FuncBody.stmts (hq.fb (hq.st 15))) (hq.fs (hq.st 15)) 0 [] Value.none Value.none Value.none Value.none none Value.none Value.none 0)) (Array.mk []))
noncomputable def hq.o197 (P : Params) : Obj := (Obj.mk (Value.type "code") none (Data.fields (Array.mk [(Value.str (@Str.ofString "u32_of") 386), (Value.str (@Str.ofString "u32_of") 387), (Value.str (@Str.ofString "/claim/cut.py") 388), (Value.int (73 : Int) 0), (Value.int (1 : Int) 0), (Value.int (0 : Int) 0), (Value.int (0 : Int) 0), (Value.int (3 : Int) 0), (Value.ref 146), (Value.bool Bool.true), (Value.int (181 : Int) 0), (Value.ref 147), Value.none, (Value.ref 148), (Value.ref 149), (Value.ref 150), (Value.int (390 : Int) 0), (Value.int (73 : Int) 0), (Value.str (@Str.ofString "/claim/cut.py") 391)])) (Array.mk []))
noncomputable def hq.o198 (P : Params) : Obj := (Obj.mk (Value.type "function") none (Data.func (FuncData.mk (@Str.ofString "u32_of") (@Str.ofString "u32_of") (hq.fa (hq.st 15)) (FuncBody.stmts (hq.fb (hq.st 15))) (hq.fs (hq.st 15)) 3 [] Value.none Value.none Value.none (Value.str (@Str.ofString "wasmcore.lexer") 253) none (Value.ref 151) Value.none 0)) (Array.mk []))
noncomputable def hq.o199 (P : Params) : Obj := (Obj.mk (Value.type "tuple") none (Data.seq (Array.mk []) 0) (Array.mk []))
noncomputable def hq.o200 (P : Params) : Obj := (Obj.mk Value.none none (Data.fields (Array.mk [])) (Array.mk []))
noncomputable def hq.o201 (P : Params) : Obj := (Obj.mk (Value.type "tuple") none (Data.seq (Array.mk [(Value.str (@Str.ofString "script") 400), (Value.str (@Str.ofString "place") 401)]) 0) (Array.mk []))
noncomputable def hq.o202 (P : Params) : Obj := (Obj.mk (Value.type "tuple") none (Data.seq (Array.mk []) 0) (Array.mk []))
noncomputable def hq.o203 (P : Params) : Obj := (Obj.mk Value.none none (Data.func (FuncData.mk (@Str.ofString "_law_at") (@Str.ofString "_law_at") (hq.fa (hq.st 18)) (FuncBody.stmts (hq.fb (hq.st 18))) (hq.fs (hq.st 18)) 0 [] Value.none Value.none Value.none Value.none none Value.none Value.none 0)) (Array.mk []))
noncomputable def hq.o204 (P : Params) : Obj := (Obj.mk (Value.type "code") none (Data.fields (Array.mk [(Value.str (@Str.ofString "_law_at") 397), (Value.str (@Str.ofString "_law_at") 398), (Value.str (@Str.ofString "/claim/cut.py") 399), (Value.int (81 : Int) 0), (Value.int (2 : Int) 0), (Value.int (0 : Int) 0), (Value.int (0 : Int) 0), (Value.int (3 : Int) 0), (Value.ref 153), (Value.bool Bool.true), (Value.int (181 : Int) 0), (Value.ref 154), Value.none, (Value.ref 155), (Value.ref 156), (Value.ref 157), (Value.int (402 : Int) 0), (Value.int (81 : Int) 0), (Value.str (@Str.ofString "/claim/cut.py") 403)])) (Array.mk []))
noncomputable def hq.o205 (P : Params) : Obj := (Obj.mk (Value.type "function") none (Data.func (FuncData.mk (@Str.ofString "_law_at") (@Str.ofString "_law_at") (hq.fa (hq.st 18)) (FuncBody.stmts (hq.fb (hq.st 18))) (hq.fs (hq.st 18)) 3 [] Value.none Value.none Value.none (Value.str (@Str.ofString "law_nm0112_01") 393) none (Value.ref 158) Value.none 0)) (Array.mk []))
noncomputable def hq.o206 (P : Params) : Obj := (Obj.mk (Value.type "tuple") none (Data.seq (Array.mk []) 0) (Array.mk []))
noncomputable def hq.o207 (P : Params) : Obj := (Obj.mk Value.none none (Data.fields (Array.mk [])) (Array.mk []))
noncomputable def hq.o208 (P : Params) : Obj := (Obj.mk (Value.type "tuple") none (Data.seq (Array.mk [(Value.str (@Str.ofString "script") 408), (Value.str (@Str.ofString "width") 409), (Value.str (@Str.ofString "which") 410), (Value.str (@Str.ofString "offset") 411)]) 0) (Array.mk []))
noncomputable def hq.o209 (P : Params) : Obj := (Obj.mk (Value.type "tuple") none (Data.seq (Array.mk []) 0) (Array.mk []))
noncomputable def hq.o210 (P : Params) : Obj := (Obj.mk Value.none none (Data.func (FuncData.mk (@Str.ofString "_law_number_drawn") (@Str.ofString "_law_number_drawn") (hq.fa (hq.st 19)) (FuncBody.stmts (hq.fb (hq.st 19))) (hq.fs (hq.st 19)) 0 [] Value.none Value.none Value.none Value.none none Value.none Value.none 0)) (Array.mk []))
noncomputable def hq.o211 (P : Params) : Obj := (Obj.mk (Value.type "code") none (Data.fields (Array.mk [(Value.str (@Str.ofString "_law_number_drawn") 405), (Value.str (@Str.ofString "_law_number_drawn") 406), (Value.str (@Str.ofString "/claim/cut.py") 407), (Value.int (83 : Int) 0), (Value.int (2 : Int) 0), (Value.int (0 : Int) 0), (Value.int (0 : Int) 0), (Value.int (3 : Int) 0), (Value.ref 160), (Value.bool Bool.true), (Value.int (181 : Int) 0), (Value.ref 161), Value.none, (Value.ref 162), (Value.ref 163), (Value.ref 164), (Value.int (412 : Int) 0), (Value.int (83 : Int) 0), (Value.str (@Str.ofString "/claim/cut.py") 413)])) (Array.mk []))
noncomputable def hq.o212 (P : Params) : Obj := (Obj.mk (Value.type "function") none (Data.func (FuncData.mk (@Str.ofString "_law_number_drawn") (@Str.ofString "_law_number_drawn") (hq.fa (hq.st 19)) (FuncBody.stmts (hq.fb (hq.st 19))) (hq.fs (hq.st 19)) 3 [] Value.none Value.none Value.none (Value.str (@Str.ofString "law_nm0112_01") 393) none (Value.ref 165) Value.none 0)) (Array.mk []))
noncomputable def hq.o213 (P : Params) : Obj := (Obj.mk (Value.type "tuple") none (Data.seq (Array.mk []) 0) (Array.mk []))
noncomputable def hq.o214 (P : Params) : Obj := (Obj.mk Value.none none (Data.fields (Array.mk [])) (Array.mk []))
noncomputable def hq.o215 (P : Params) : Obj := (Obj.mk (Value.type "tuple") none (Data.seq (Array.mk [(Value.str (@Str.ofString "script") 418), (Value.str (@Str.ofString "width") 419), (Value.str (@Str.ofString "number") 420), (Value.str (@Str.ofString "form") 421), (Value.str (@Str.ofString "mask") 422), (Value.str (@Str.ofString "base") 423), (Value.str (@Str.ofString "digits") 424), (Value.str (@Str.ofString "found") 425), (Value.str (@Str.ofString "k") 426), (Value.str (@Str.ofString "letters") 427), (Value.str (@Str.ofString "joint") 428), (Value.str (@Str.ofString "place") 429)]) 0) (Array.mk []))
noncomputable def hq.o216 (P : Params) : Obj := (Obj.mk (Value.type "tuple") none (Data.seq (Array.mk []) 0) (Array.mk []))
noncomputable def hq.o217 (P : Params) : Obj := (Obj.mk Value.none none (Data.func (FuncData.mk (@Str.ofString "_law_writing") (@Str.ofString "_law_writing") (hq.fa (hq.st 20)) (FuncBody.stmts (hq.fb (hq.st 20))) (hq.fs (hq.st 20)) 0 [] Value.none Value.none Value.none Value.none none Value.none Value.none 0)) (Array.mk []))
noncomputable def hq.o218 (P : Params) : Obj := (Obj.mk (Value.type "code") none (Data.fields (Array.mk [(Value.str (@Str.ofString "_law_writing") 415), (Value.str (@Str.ofString "_law_writing") 416), (Value.str (@Str.ofString "/claim/cut.py") 417), (Value.int (88 : Int) 0), (Value.int (2 : Int) 0), (Value.int (0 : Int) 0), (Value.int (0 : Int) 0), (Value.int (3 : Int) 0), (Value.ref 167), (Value.bool Bool.true), (Value.int (181 : Int) 0), (Value.ref 168), Value.none, (Value.ref 169), (Value.ref 170), (Value.ref 171), (Value.int (430 : Int) 0), (Value.int (88 : Int) 0), (Value.str (@Str.ofString "/claim/cut.py") 431)])) (Array.mk []))
noncomputable def hq.o219 (P : Params) : Obj := (Obj.mk (Value.type "function") none (Data.func (FuncData.mk (@Str.ofString "_law_writing") (@Str.ofString "_law_writing") (hq.fa (hq.st 20)) (FuncBody.stmts (hq.fb (hq.st 20))) (hq.fs (hq.st 20)) 3 [] Value.none Value.none Value.none (Value.str (@Str.ofString "law_nm0112_01") 393) none (Value.ref 172) Value.none 0)) (Array.mk []))
noncomputable def hq.o220 (P : Params) : Obj := (Obj.mk (Value.type "tuple") none (Data.seq (Array.mk []) 0) (Array.mk []))
noncomputable def hq.o221 (P : Params) : Obj := (Obj.mk Value.none none (Data.fields (Array.mk [])) (Array.mk []))
noncomputable def hq.o222 (P : Params) : Obj := (Obj.mk (Value.type "tuple") none (Data.seq (Array.mk [(Value.str (@Str.ofString "script") 436), (Value.str (@Str.ofString "width") 437), (Value.str (@Str.ofString "found") 438), (Value.str (@Str.ofString "x") 439)]) 0) (Array.mk []))
noncomputable def hq.o223 (P : Params) : Obj := (Obj.mk (Value.type "tuple") none (Data.seq (Array.mk []) 0) (Array.mk []))
noncomputable def hq.o224 (P : Params) : Obj := (Obj.mk Value.none none (Data.func (FuncData.mk (@Str.ofString "_law_text") (@Str.ofString "_law_text") (hq.fa (hq.st 21)) (FuncBody.stmts (hq.fb (hq.st 21))) (hq.fs (hq.st 21)) 0 [] Value.none Value.none Value.none Value.none none Value.none Value.none 0)) (Array.mk []))
noncomputable def hq.o225 (P : Params) : Obj := (Obj.mk (Value.type "code") none (Data.fields (Array.mk [(Value.str (@Str.ofString "_law_text") 433), (Value.str (@Str.ofString "_law_text") 434), (Value.str (@Str.ofString "/claim/cut.py") 435), (Value.int (105 : Int) 0), (Value.int (2 : Int) 0), (Value.int (0 : Int) 0), (Value.int (0 : Int) 0), (Value.int (3 : Int) 0), (Value.ref 174), (Value.bool Bool.true), (Value.int (181 : Int) 0), (Value.ref 175), Value.none, (Value.ref 176), (Value.ref 177), (Value.ref 178), (Value.int (440 : Int) 0), (Value.int (105 : Int) 0), (Value.str (@Str.ofString "/claim/cut.py") 441)])) (Array.mk []))
noncomputable def hq.o226 (P : Params) : Obj := (Obj.mk (Value.type "function") none (Data.func (FuncData.mk (@Str.ofString "_law_text") (@Str.ofString "_law_text") (hq.fa (hq.st 21)) (FuncBody.stmts (hq.fb (hq.st 21))) (hq.fs (hq.st 21)) 3 [] Value.none Value.none Value.none (Value.str (@Str.ofString "law_nm0112_01") 393) none (Value.ref 179) Value.none 0)) (Array.mk []))
noncomputable def hq.o227 (P : Params) : Obj := (Obj.mk (Value.type "tuple") none (Data.seq (Array.mk []) 0) (Array.mk []))
noncomputable def hq.o228 (P : Params) : Obj := (Obj.mk Value.none none (Data.fields (Array.mk [])) (Array.mk []))
noncomputable def hq.o229 (P : Params) : Obj := (Obj.mk Value.none none (Data.func (FuncData.mk (@Str.ofString "_law_read") (@Str.ofString "_law_read") (hq.fa (hq.st 22)) (FuncBody.stmts (hq.fb (hq.st 22))) (hq.fs (hq.st 22)) 0 [] Value.none Value.none Value.none Value.none none Value.none Value.none 0)) (Array.mk []))
noncomputable def hq.o230 (P : Params) : Obj := (Obj.mk (Value.type "code") none (Data.fields (Array.mk [(Value.str (@Str.ofString "_law_read") 443), (Value.str (@Str.ofString "_law_read") 444), (Value.str (@Str.ofString "/claim/cut.py") 445), (Value.int (112 : Int) 0), (Value.int (1 : Int) 0), (Value.int (0 : Int) 0), (Value.int (0 : Int) 0), (Value.int (3 : Int) 0), (Value.ref 181), (Value.bool Bool.true), (Value.int (181 : Int) 0), (Value.ref 182), Value.none, Value.none, Value.none, (Value.ref 183), (Value.int (446 : Int) 0), (Value.int (112 : Int) 0), (Value.str (@Str.ofString "/claim/cut.py") 447)])) (Array.mk []))
noncomputable def hq.o231 (P : Params) : Obj := (Obj.mk (Value.type "function") none (Data.func (FuncData.mk (@Str.ofString "_law_read") (@Str.ofString "_law_read") (hq.fa (hq.st 22)) (FuncBody.stmts (hq.fb (hq.st 22))) (hq.fs (hq.st 22)) 3 [] Value.none Value.none Value.none (Value.str (@Str.ofString "law_nm0112_01") 393) none (Value.ref 184) Value.none 0)) (Array.mk []))
noncomputable def hq.o232 (P : Params) : Obj := (Obj.mk (Value.type "tuple") none (Data.seq (Array.mk []) 0) (Array.mk []))
noncomputable def hq.o233 (P : Params) : Obj := (Obj.mk Value.none none (Data.fields (Array.mk [])) (Array.mk []))
noncomputable def hq.o234 (P : Params) : Obj := (Obj.mk (Value.type "tuple") none (Data.seq (Array.mk [(Value.str (@Str.ofString "text") 452), (Value.str (@Str.ofString "number") 453)]) 0) (Array.mk []))
noncomputable def hq.o235 (P : Params) : Obj := (Obj.mk (Value.type "tuple") none (Data.seq (Array.mk []) 0) (Array.mk []))
noncomputable def hq.o236 (P : Params) : Obj := (Obj.mk Value.none none (Data.func (FuncData.mk (@Str.ofString "_law_sort") (@Str.ofString "_law_sort") (hq.fa (hq.st 23)) (FuncBody.stmts (hq.fb (hq.st 23))) (hq.fs (hq.st 23)) 0 [] Value.none Value.none Value.none Value.none none Value.none Value.none 0)) (Array.mk []))
noncomputable def hq.o237 (P : Params) : Obj := (Obj.mk (Value.type "code") none (Data.fields (Array.mk [(Value.str (@Str.ofString "_law_sort") 449), (Value.str (@Str.ofString "_law_sort") 450), (Value.str (@Str.ofString "/claim/cut.py") 451), (Value.int (122 : Int) 0), (Value.int (2 : Int) 0), (Value.int (0 : Int) 0), (Value.int (0 : Int) 0), (Value.int (3 : Int) 0), (Value.ref 186), (Value.bool Bool.true), (Value.int (181 : Int) 0), (Value.ref 187), Value.none, (Value.ref 188), (Value.ref 189), (Value.ref 190), (Value.int (454 : Int) 0), (Value.int (122 : Int) 0), (Value.str (@Str.ofString "/claim/cut.py") 455)])) (Array.mk []))
noncomputable def hq.o238 (P : Params) : Obj := (Obj.mk (Value.type "function") none (Data.func (FuncData.mk (@Str.ofString "_law_sort") (@Str.ofString "_law_sort") (hq.fa (hq.st 23)) (FuncBody.stmts (hq.fb (hq.st 23))) (hq.fs (hq.st 23)) 3 [] Value.none Value.none Value.none (Value.str (@Str.ofString "law_nm0112_01") 393) none (Value.ref 191) Value.none 0)) (Array.mk []))
noncomputable def hq.o239 (P : Params) : Obj := (Obj.mk (Value.type "tuple") none (Data.seq (Array.mk []) 0) (Array.mk []))
noncomputable def hq.o240 (P : Params) : Obj := (Obj.mk Value.none none (Data.fields (Array.mk [])) (Array.mk []))
noncomputable def hq.o241 (P : Params) : Obj := (Obj.mk (Value.type "tuple") none (Data.seq (Array.mk [(Value.str (@Str.ofString "text") 460), (Value.str (@Str.ofString "number") 461), (Value.str (@Str.ofString "bits") 462), (Value.str (@Str.ofString "row") 463), (Value.str (@Str.ofString "column") 464), (Value.str (@Str.ofString "is_signed") 465), (Value.str (@Str.ofString "whole") 466), (Value.str (@Str.ofString "turned") 467)]) 0) (Array.mk []))
noncomputable def hq.o242 (P : Params) : Obj := (Obj.mk (Value.type "tuple") none (Data.seq (Array.mk []) 0) (Array.mk []))
noncomputable def hq.o243 (P : Params) : Obj := (Obj.mk Value.none none (Data.func (FuncData.mk (@Str.ofString "_law_due") (@Str.ofString "_law_due") (hq.fa (hq.st 24)) (FuncBody.stmts (hq.fb (hq.st 24))) (hq.fs (hq.st 24)) 0 [] Value.none Value.none Value.none Value.none none Value.none Value.none 0)) (Array.mk []))
noncomputable def hq.o244 (P : Params) : Obj := (Obj.mk (Value.type "code") none (Data.fields (Array.mk [(Value.str (@Str.ofString "_law_due") 457), (Value.str (@Str.ofString "_law_due") 458), (Value.str (@Str.ofString "/claim/cut.py") 459), (Value.int (128 : Int) 0), (Value.int (5 : Int) 0), (Value.int (0 : Int) 0), (Value.int (0 : Int) 0), (Value.int (3 : Int) 0), (Value.ref 193), (Value.bool Bool.true), (Value.int (181 : Int) 0), (Value.ref 194), Value.none, (Value.ref 195), (Value.ref 196), (Value.ref 197), (Value.int (468 : Int) 0), (Value.int (128 : Int) 0), (Value.str (@Str.ofString "/claim/cut.py") 469)])) (Array.mk []))
noncomputable def hq.o245 (P : Params) : Obj := (Obj.mk (Value.type "function") none (Data.func (FuncData.mk (@Str.ofString "_law_due") (@Str.ofString "_law_due") (hq.fa (hq.st 24)) (FuncBody.stmts (hq.fb (hq.st 24))) (hq.fs (hq.st 24)) 3 [] Value.none Value.none Value.none (Value.str (@Str.ofString "law_nm0112_01") 393) none (Value.ref 198) Value.none 0)) (Array.mk []))
noncomputable def hq.o246 (P : Params) : Obj := (Obj.mk (Value.type "tuple") none (Data.seq (Array.mk []) 0) (Array.mk []))
noncomputable def hq.o247 (P : Params) : Obj := (Obj.mk Value.none none (Data.fields (Array.mk [])) (Array.mk []))
noncomputable def hq.o248 (P : Params) : Obj := (Obj.mk (Value.type "tuple") none (Data.seq (Array.mk [(Value.str (@Str.ofString "item") 474), (Value.str (@Str.ofString "bits") 475), (Value.str (@Str.ofString "error") 476)]) 0) (Array.mk []))
noncomputable def hq.o249 (P : Params) : Obj := (Obj.mk (Value.type "tuple") none (Data.seq (Array.mk []) 0) (Array.mk []))
noncomputable def hq.o250 (P : Params) : Obj := (Obj.mk Value.none none (Data.func (FuncData.mk (@Str.ofString "_law_told") (@Str.ofString "_law_told") (hq.fa (hq.st 25)) (FuncBody.stmts (hq.fb (hq.st 25))) (hq.fs (hq.st 25)) 0 [] Value.none Value.none Value.none Value.none none Value.none Value.none 0)) (Array.mk []))
noncomputable def hq.o251 (P : Params) : Obj := (Obj.mk (Value.type "code") none (Data.fields (Array.mk [(Value.str (@Str.ofString "_law_told") 471), (Value.str (@Str.ofString "_law_told") 472), (Value.str (@Str.ofString "/claim/cut.py") 473), (Value.int (139 : Int) 0), (Value.int (2 : Int) 0), (Value.int (0 : Int) 0), (Value.int (0 : Int) 0), (Value.int (3 : Int) 0), (Value.ref 200), (Value.bool Bool.true), (Value.int (181 : Int) 0), (Value.ref 201), Value.none, (Value.ref 202), (Value.ref 203), (Value.ref 204), (Value.int (477 : Int) 0), (Value.int (139 : Int) 0), (Value.str (@Str.ofString "/claim/cut.py") 478)])) (Array.mk []))
noncomputable def hq.o252 (P : Params) : Obj := (Obj.mk (Value.type "function") none (Data.func (FuncData.mk (@Str.ofString "_law_told") (@Str.ofString "_law_told") (hq.fa (hq.st 25)) (FuncBody.stmts (hq.fb (hq.st 25))) (hq.fs (hq.st 25)) 3 [] Value.none Value.none Value.none (Value.str (@Str.ofString "law_nm0112_01") 393) none (Value.ref 205) Value.none 0)) (Array.mk []))
noncomputable def hq.o253 (P : Params) : Obj := (Obj.mk (Value.type "tuple") none (Data.seq (Array.mk []) 0) (Array.mk []))
noncomputable def hq.o254 (P : Params) : Obj := (Obj.mk Value.none none (Data.fields (Array.mk [])) (Array.mk []))
noncomputable def hq.o255 (P : Params) : Obj := (Obj.mk Value.none none (Data.func (FuncData.mk (@Str.ofString "law") (@Str.ofString "law") (hq.fa (hq.st 26)) (FuncBody.stmts (hq.fb (hq.st 26))) (hq.fs (hq.st 26)) 0 [] Value.none Value.none Value.none Value.none none Value.none Value.none 0)) (Array.mk []))
noncomputable def hq.o256 (P : Params) : Obj := (Obj.mk (Value.type "code") none (Data.fields (Array.mk [(Value.str (@Str.ofString "law") 480), (Value.str (@Str.ofString "law") 481), (Value.str (@Str.ofString "/claim/cut.py") 482), (Value.int (144 : Int) 0), (Value.int (1 : Int) 0), (Value.int (0 : Int) 0), (Value.int (0 : Int) 0), (Value.int (3 : Int) 0), (Value.ref 207), (Value.bool Bool.true), (Value.int (181 : Int) 0), (Value.ref 208), Value.none, Value.none, Value.none, (Value.ref 209), (Value.int (483 : Int) 0), (Value.int (144 : Int) 0), (Value.str (@Str.ofString "/claim/cut.py") 484)])) (Array.mk []))
noncomputable def hq.o257 (P : Params) : Obj := (Obj.mk (Value.type "function") none (Data.func (FuncData.mk (@Str.ofString "law") (@Str.ofString "law") (hq.fa (hq.st 26)) (FuncBody.stmts (hq.fb (hq.st 26))) (hq.fs (hq.st 26)) 3 [] Value.none Value.none Value.none (Value.str (@Str.ofString "law_nm0112_01") 393) none (Value.ref 210) Value.none 0)) (Array.mk []))
noncomputable def hq.h46 (P : Params) : Heap := (Heap.mk (Array.mk [(@boot_o_0 P), (@boot_o_1 P), (@boot_o_2 P), (@boot_o_3 P), (@boot_o_4 P), (@boot_o_5 P), (@boot_o_6 P), (@boot_o_7 P), (@boot_o_8 P), (@boot_o_9 P), (@boot_o_10 P), (@hq.o43 P), (@hq.o44 P), (@hq.o45 P), (@hq.o46 P)]) (Life.mk [] [] [] 0 [] [] Bool.false (Array.mk []) [] 0 Bool.false Bool.false Bool.false (0 : Int) [(2000 : Int), (10 : Int), (10 : Int)] Bool.false 0 Bool.true [] [] 0 Bool.false))
noncomputable def hq.t47 (P : Params) : BT := (BT.node (@boot_o_0 P) (BT.node (@boot_o_1 P) (BT.node (@boot_o_3 P) (BT.node (@boot_o_7 P) BT.nil BT.nil) (BT.node (@hq.o43 P) BT.nil BT.nil)) (BT.node (@boot_o_5 P) (BT.node (@boot_o_9 P) BT.nil BT.nil) (BT.node (@hq.o45 P) BT.nil BT.nil))) (BT.node (@boot_o_2 P) (BT.node (@boot_o_4 P) (BT.node (@boot_o_8 P) BT.nil BT.nil) (BT.node (@hq.o44 P) BT.nil BT.nil)) (BT.node (@boot_o_6 P) (BT.node (@boot_o_10 P) BT.nil BT.nil) (BT.node (@hq.o46 P) BT.nil BT.nil))))
noncomputable def hq.t78 (P : Params) : BT := (BT.node (@boot_o_0 P) (BT.node (@boot_o_1 P) (BT.node (@hq.o50 P) (BT.node (@boot_o_7 P) (BT.node (@hq.o52 P) (BT.node (@hq.o68 P) BT.nil BT.nil) BT.nil) (BT.node (@hq.o60 P) (BT.node (@hq.o76 P) BT.nil BT.nil) BT.nil)) (BT.node (@hq.o43 P) (BT.node (@hq.o56 P) (BT.node (@hq.o72 P) BT.nil BT.nil) BT.nil) (BT.node (@hq.o64 P) BT.nil BT.nil))) (BT.node (@boot_o_5 P) (BT.node (@boot_o_9 P) (BT.node (@hq.o54 P) (BT.node (@hq.o70 P) BT.nil BT.nil) BT.nil) (BT.node (@hq.o62 P) (BT.node (@hq.o78 P) BT.nil BT.nil) BT.nil)) (BT.node (@hq.o45 P) (BT.node (@hq.o58 P) (BT.node (@hq.o74 P) BT.nil BT.nil) BT.nil) (BT.node (@hq.o66 P) BT.nil BT.nil)))) (BT.node (@hq.o49 P) (BT.node (@boot_o_4 P) (BT.node (@boot_o_8 P) (BT.node (@hq.o53 P) (BT.node (@hq.o69 P) BT.nil BT.nil) BT.nil) (BT.node (@hq.o61 P) (BT.node (@hq.o77 P) BT.nil BT.nil) BT.nil)) (BT.node (@hq.o51 P) (BT.node (@hq.o57 P) (BT.node (@hq.o73 P) BT.nil BT.nil) BT.nil) (BT.node (@hq.o65 P) BT.nil BT.nil))) (BT.node (@boot_o_6 P) (BT.node (@boot_o_10 P) (BT.node (@hq.o55 P) (BT.node (@hq.o71 P) BT.nil BT.nil) BT.nil) (BT.node (@hq.o63 P) BT.nil BT.nil)) (BT.node (@hq.o46 P) (BT.node (@hq.o59 P) (BT.node (@hq.o75 P) BT.nil BT.nil) BT.nil) (BT.node (@hq.o67 P) BT.nil BT.nil)))))
noncomputable def hq.t100 (P : Params) : BT := (BT.node (@boot_o_0 P) (BT.node (@boot_o_1 P) (BT.node (@hq.o79 P) (BT.node (@boot_o_7 P) (BT.node (@hq.o52 P) (BT.node (@hq.o68 P) BT.nil BT.nil) (BT.node (@hq.o87 P) BT.nil BT.nil)) (BT.node (@hq.o60 P) (BT.node (@hq.o76 P) BT.nil BT.nil) (BT.node (@hq.o95 P) BT.nil BT.nil))) (BT.node (@hq.o43 P) (BT.node (@hq.o56 P) (BT.node (@hq.o72 P) BT.nil BT.nil) (BT.node (@hq.o91 P) BT.nil BT.nil)) (BT.node (@hq.o64 P) (BT.node (@hq.o83 P) BT.nil BT.nil) (BT.node (@hq.o99 P) BT.nil BT.nil)))) (BT.node (@boot_o_5 P) (BT.node (@boot_o_9 P) (BT.node (@hq.o54 P) (BT.node (@hq.o70 P) BT.nil BT.nil) (BT.node (@hq.o89 P) BT.nil BT.nil)) (BT.node (@hq.o62 P) (BT.node (@hq.o78 P) BT.nil BT.nil) (BT.node (@hq.o97 P) BT.nil BT.nil))) (BT.node (@hq.o45 P) (BT.node (@hq.o58 P) (BT.node (@hq.o74 P) BT.nil BT.nil) (BT.node (@hq.o93 P) BT.nil BT.nil)) (BT.node (@hq.o66 P) (BT.node (@hq.o85 P) BT.nil BT.nil) BT.nil)))) (BT.node (@hq.o49 P) (BT.node (@boot_o_4 P) (BT.node (@boot_o_8 P) (BT.node (@hq.o53 P) (BT.node (@hq.o69 P) BT.nil BT.nil) (BT.node (@hq.o88 P) BT.nil BT.nil)) (BT.node (@hq.o61 P) (BT.node (@hq.o77 P) BT.nil BT.nil) (BT.node (@hq.o96 P) BT.nil BT.nil))) (BT.node (@hq.o80 P) (BT.node (@hq.o57 P) (BT.node (@hq.o73 P) BT.nil BT.nil) (BT.node (@hq.o92 P) BT.nil BT.nil)) (BT.node (@hq.o65 P) (BT.node (@hq.o84 P) BT.nil BT.nil) (BT.node (@hq.o100 P) BT.nil BT.nil)))) (BT.node (@boot_o_6 P) (BT.node (@boot_o_10 P) (BT.node (@hq.o55 P) (BT.node (@hq.o71 P) BT.nil BT.nil) (BT.node (@hq.o90 P) BT.nil BT.nil)) (BT.node (@hq.o63 P) (BT.node (@hq.o82 P) BT.nil BT.nil) (BT.node (@hq.o98 P) BT.nil BT.nil))) (BT.node (@hq.o46 P) (BT.node (@hq.o59 P) (BT.node (@hq.o81 P) BT.nil BT.nil) (BT.node (@hq.o94 P) BT.nil BT.nil)) (BT.node (@hq.o67 P) (BT.node (@hq.o86 P) BT.nil BT.nil) BT.nil)))))
noncomputable def hq.t123 (P : Params) : BT := (BT.node (@boot_o_0 P) (BT.node (@boot_o_1 P) (BT.node (@hq.o101 P) (BT.node (@boot_o_7 P) (BT.node (@hq.o52 P) (BT.node (@hq.o68 P) (BT.node (@hq.o105 P) BT.nil BT.nil) BT.nil) (BT.node (@hq.o87 P) (BT.node (@hq.o121 P) BT.nil BT.nil) BT.nil)) (BT.node (@hq.o60 P) (BT.node (@hq.o76 P) (BT.node (@hq.o113 P) BT.nil BT.nil) BT.nil) (BT.node (@hq.o95 P) BT.nil BT.nil))) (BT.node (@hq.o43 P) (BT.node (@hq.o56 P) (BT.node (@hq.o72 P) (BT.node (@hq.o109 P) BT.nil BT.nil) BT.nil) (BT.node (@hq.o91 P) BT.nil BT.nil)) (BT.node (@hq.o64 P) (BT.node (@hq.o83 P) (BT.node (@hq.o117 P) BT.nil BT.nil) BT.nil) (BT.node (@hq.o99 P) BT.nil BT.nil)))) (BT.node (@boot_o_5 P) (BT.node (@boot_o_9 P) (BT.node (@hq.o54 P) (BT.node (@hq.o70 P) (BT.node (@hq.o107 P) BT.nil BT.nil) BT.nil) (BT.node (@hq.o89 P) (BT.node (@hq.o123 P) BT.nil BT.nil) BT.nil)) (BT.node (@hq.o62 P) (BT.node (@hq.o78 P) (BT.node (@hq.o115 P) BT.nil BT.nil) BT.nil) (BT.node (@hq.o97 P) BT.nil BT.nil))) (BT.node (@hq.o45 P) (BT.node (@hq.o58 P) (BT.node (@hq.o74 P) (BT.node (@hq.o111 P) BT.nil BT.nil) BT.nil) (BT.node (@hq.o93 P) BT.nil BT.nil)) (BT.node (@hq.o66 P) (BT.node (@hq.o85 P) (BT.node (@hq.o119 P) BT.nil BT.nil) BT.nil) (BT.node (@hq.o103 P) BT.nil BT.nil))))) (BT.node (@hq.o49 P) (BT.node (@boot_o_4 P) (BT.node (@boot_o_8 P) (BT.node (@hq.o53 P) (BT.node (@hq.o69 P) (BT.node (@hq.o106 P) BT.nil BT.nil) BT.nil) (BT.node (@hq.o88 P) (BT.node (@hq.o122 P) BT.nil BT.nil) BT.nil)) (BT.node (@hq.o61 P) (BT.node (@hq.o77 P) (BT.node (@hq.o114 P) BT.nil BT.nil) BT.nil) (BT.node (@hq.o96 P) BT.nil BT.nil))) (BT.node (@hq.o102 P) (BT.node (@hq.o57 P) (BT.node (@hq.o73 P) (BT.node (@hq.o110 P) BT.nil BT.nil) BT.nil) (BT.node (@hq.o92 P) BT.nil BT.nil)) (BT.node (@hq.o65 P) (BT.node (@hq.o84 P) (BT.node (@hq.o118 P) BT.nil BT.nil) BT.nil) (BT.node (@hq.o100 P) BT.nil BT.nil)))) (BT.node (@boot_o_6 P) (BT.node (@boot_o_10 P) (BT.node (@hq.o55 P) (BT.node (@hq.o71 P) (BT.node (@hq.o108 P) BT.nil BT.nil) BT.nil) (BT.node (@hq.o90 P) BT.nil BT.nil)) (BT.node (@hq.o63 P) (BT.node (@hq.o82 P) (BT.node (@hq.o116 P) BT.nil BT.nil) BT.nil) (BT.node (@hq.o98 P) BT.nil BT.nil))) (BT.node (@hq.o46 P) (BT.node (@hq.o59 P) (BT.node (@hq.o81 P) (BT.node (@hq.o112 P) BT.nil BT.nil) BT.nil) (BT.node (@hq.o94 P) BT.nil BT.nil)) (BT.node (@hq.o67 P) (BT.node (@hq.o86 P) (BT.node (@hq.o120 P) BT.nil BT.nil) BT.nil) (BT.node (@hq.o104 P) BT.nil BT.nil))))))
noncomputable def hq.t182 (P : Params) : BT := (BT.node (@boot_o_0 P) (BT.node (@boot_o_1 P) (BT.node (@hq.o124 P) (BT.node (@boot_o_7 P) (BT.node (@hq.o52 P) (BT.node (@hq.o68 P) (BT.node (@hq.o105 P) (BT.node (@hq.o171 P) BT.nil BT.nil) BT.nil) (BT.node (@hq.o139 P) BT.nil BT.nil)) (BT.node (@hq.o87 P) (BT.node (@hq.o121 P) BT.nil BT.nil) (BT.node (@hq.o155 P) BT.nil BT.nil))) (BT.node (@hq.o60 P) (BT.node (@hq.o76 P) (BT.node (@hq.o113 P) (BT.node (@hq.o179 P) BT.nil BT.nil) BT.nil) (BT.node (@hq.o147 P) BT.nil BT.nil)) (BT.node (@hq.o95 P) (BT.node (@hq.o131 P) BT.nil BT.nil) (BT.node (@hq.o163 P) BT.nil BT.nil)))) (BT.node (@hq.o43 P) (BT.node (@hq.o56 P) (BT.node (@hq.o72 P) (BT.node (@hq.o109 P) (BT.node (@hq.o175 P) BT.nil BT.nil) BT.nil) (BT.node (@hq.o143 P) BT.nil BT.nil)) (BT.node (@hq.o91 P) (BT.node (@hq.o127 P) BT.nil BT.nil) (BT.node (@hq.o159 P) BT.nil BT.nil))) (BT.node (@hq.o64 P) (BT.node (@hq.o83 P) (BT.node (@hq.o117 P) BT.nil BT.nil) (BT.node (@hq.o151 P) BT.nil BT.nil)) (BT.node (@hq.o99 P) (BT.node (@hq.o135 P) BT.nil BT.nil) (BT.node (@hq.o167 P) BT.nil BT.nil))))) (BT.node (@boot_o_5 P) (BT.node (@boot_o_9 P) (BT.node (@hq.o54 P) (BT.node (@hq.o70 P) (BT.node (@hq.o107 P) (BT.node (@hq.o173 P) BT.nil BT.nil) BT.nil) (BT.node (@hq.o141 P) BT.nil BT.nil)) (BT.node (@hq.o89 P) (BT.node (@hq.o123 P) BT.nil BT.nil) (BT.node (@hq.o157 P) BT.nil BT.nil))) (BT.node (@hq.o62 P) (BT.node (@hq.o78 P) (BT.node (@hq.o115 P) (BT.node (@hq.o181 P) BT.nil BT.nil) BT.nil) (BT.node (@hq.o149 P) BT.nil BT.nil)) (BT.node (@hq.o97 P) (BT.node (@hq.o133 P) BT.nil BT.nil) (BT.node (@hq.o165 P) BT.nil BT.nil)))) (BT.node (@hq.o45 P) (BT.node (@hq.o58 P) (BT.node (@hq.o74 P) (BT.node (@hq.o111 P) (BT.node (@hq.o177 P) BT.nil BT.nil) BT.nil) (BT.node (@hq.o145 P) BT.nil BT.nil)) (BT.node (@hq.o93 P) (BT.node (@hq.o129 P) BT.nil BT.nil) (BT.node (@hq.o161 P) BT.nil BT.nil))) (BT.node (@hq.o66 P) (BT.node (@hq.o85 P) (BT.node (@hq.o119 P) BT.nil BT.nil) (BT.node (@hq.o153 P) BT.nil BT.nil)) (BT.node (@hq.o103 P) (BT.node (@hq.o137 P) BT.nil BT.nil) (BT.node (@hq.o169 P) BT.nil BT.nil)))))) (BT.node (@hq.o49 P) (BT.node (@boot_o_4 P) (BT.node (@boot_o_8 P) (BT.node (@hq.o53 P) (BT.node (@hq.o69 P) (BT.node (@hq.o106 P) (BT.node (@hq.o172 P) BT.nil BT.nil) BT.nil) (BT.node (@hq.o140 P) BT.nil BT.nil)) (BT.node (@hq.o88 P) (BT.node (@hq.o122 P) BT.nil BT.nil) (BT.node (@hq.o156 P) BT.nil BT.nil))) (BT.node (@hq.o61 P) (BT.node (@hq.o77 P) (BT.node (@hq.o114 P) (BT.node (@hq.o180 P) BT.nil BT.nil) BT.nil) (BT.node (@hq.o148 P) BT.nil BT.nil)) (BT.node (@hq.o96 P) (BT.node (@hq.o132 P) BT.nil BT.nil) (BT.node (@hq.o164 P) BT.nil BT.nil)))) (BT.node (@hq.o125 P) (BT.node (@hq.o57 P) (BT.node (@hq.o73 P) (BT.node (@hq.o110 P) (BT.node (@hq.o176 P) BT.nil BT.nil) BT.nil) (BT.node (@hq.o144 P) BT.nil BT.nil)) (BT.node (@hq.o92 P) (BT.node (@hq.o128 P) BT.nil BT.nil) (BT.node (@hq.o160 P) BT.nil BT.nil))) (BT.node (@hq.o65 P) (BT.node (@hq.o84 P) (BT.node (@hq.o118 P) BT.nil BT.nil) (BT.node (@hq.o152 P) BT.nil BT.nil)) (BT.node (@hq.o100 P) (BT.node (@hq.o136 P) BT.nil BT.nil) (BT.node (@hq.o168 P) BT.nil BT.nil))))) (BT.node (@boot_o_6 P) (BT.node (@boot_o_10 P) (BT.node (@hq.o55 P) (BT.node (@hq.o71 P) (BT.node (@hq.o108 P) (BT.node (@hq.o174 P) BT.nil BT.nil) BT.nil) (BT.node (@hq.o142 P) BT.nil BT.nil)) (BT.node (@hq.o90 P) (BT.node (@hq.o126 P) BT.nil BT.nil) (BT.node (@hq.o158 P) BT.nil BT.nil))) (BT.node (@hq.o63 P) (BT.node (@hq.o82 P) (BT.node (@hq.o116 P) (BT.node (@hq.o182 P) BT.nil BT.nil) BT.nil) (BT.node (@hq.o150 P) BT.nil BT.nil)) (BT.node (@hq.o98 P) (BT.node (@hq.o134 P) BT.nil BT.nil) (BT.node (@hq.o166 P) BT.nil BT.nil)))) (BT.node (@hq.o46 P) (BT.node (@hq.o59 P) (BT.node (@hq.o81 P) (BT.node (@hq.o112 P) (BT.node (@hq.o178 P) BT.nil BT.nil) BT.nil) (BT.node (@hq.o146 P) BT.nil BT.nil)) (BT.node (@hq.o94 P) (BT.node (@hq.o130 P) BT.nil BT.nil) (BT.node (@hq.o162 P) BT.nil BT.nil))) (BT.node (@hq.o67 P) (BT.node (@hq.o86 P) (BT.node (@hq.o120 P) BT.nil BT.nil) (BT.node (@hq.o154 P) BT.nil BT.nil)) (BT.node (@hq.o104 P) (BT.node (@hq.o138 P) BT.nil BT.nil) (BT.node (@hq.o170 P) BT.nil BT.nil)))))))
noncomputable def hq.t257 (P : Params) : BT := (BT.node (@boot_o_0 P) (BT.node (@boot_o_1 P) (BT.node (@hq.o183 P) (BT.node (@boot_o_7 P) (BT.node (@hq.o52 P) (BT.node (@hq.o68 P) (BT.node (@hq.o105 P) (BT.node (@hq.o171 P) BT.nil BT.nil) (BT.node (@hq.o237 P) BT.nil BT.nil)) (BT.node (@hq.o139 P) (BT.node (@hq.o205 P) BT.nil BT.nil) BT.nil)) (BT.node (@hq.o87 P) (BT.node (@hq.o121 P) (BT.node (@hq.o189 P) BT.nil BT.nil) (BT.node (@hq.o253 P) BT.nil BT.nil)) (BT.node (@hq.o155 P) (BT.node (@hq.o221 P) BT.nil BT.nil) BT.nil))) (BT.node (@hq.o60 P) (BT.node (@hq.o76 P) (BT.node (@hq.o113 P) (BT.node (@hq.o179 P) BT.nil BT.nil) (BT.node (@hq.o245 P) BT.nil BT.nil)) (BT.node (@hq.o147 P) (BT.node (@hq.o213 P) BT.nil BT.nil) BT.nil)) (BT.node (@hq.o95 P) (BT.node (@hq.o131 P) (BT.node (@hq.o197 P) BT.nil BT.nil) BT.nil) (BT.node (@hq.o163 P) (BT.node (@hq.o229 P) BT.nil BT.nil) BT.nil)))) (BT.node (@hq.o43 P) (BT.node (@hq.o56 P) (BT.node (@hq.o72 P) (BT.node (@hq.o109 P) (BT.node (@hq.o175 P) BT.nil BT.nil) (BT.node (@hq.o241 P) BT.nil BT.nil)) (BT.node (@hq.o143 P) (BT.node (@hq.o209 P) BT.nil BT.nil) BT.nil)) (BT.node (@hq.o91 P) (BT.node (@hq.o127 P) (BT.node (@hq.o193 P) BT.nil BT.nil) (BT.node (@hq.o257 P) BT.nil BT.nil)) (BT.node (@hq.o159 P) (BT.node (@hq.o225 P) BT.nil BT.nil) BT.nil))) (BT.node (@hq.o64 P) (BT.node (@hq.o83 P) (BT.node (@hq.o117 P) (BT.node (@hq.o185 P) BT.nil BT.nil) (BT.node (@hq.o249 P) BT.nil BT.nil)) (BT.node (@hq.o151 P) (BT.node (@hq.o217 P) BT.nil BT.nil) BT.nil)) (BT.node (@hq.o99 P) (BT.node (@hq.o135 P) (BT.node (@hq.o201 P) BT.nil BT.nil) BT.nil) (BT.node (@hq.o167 P) (BT.node (@hq.o233 P) BT.nil BT.nil) BT.nil))))) (BT.node (@boot_o_5 P) (BT.node (@boot_o_9 P) (BT.node (@hq.o54 P) (BT.node (@hq.o70 P) (BT.node (@hq.o107 P) (BT.node (@hq.o173 P) BT.nil BT.nil) (BT.node (@hq.o239 P) BT.nil BT.nil)) (BT.node (@hq.o141 P) (BT.node (@hq.o207 P) BT.nil BT.nil) BT.nil)) (BT.node (@hq.o89 P) (BT.node (@hq.o123 P) (BT.node (@hq.o191 P) BT.nil BT.nil) (BT.node (@hq.o255 P) BT.nil BT.nil)) (BT.node (@hq.o157 P) (BT.node (@hq.o223 P) BT.nil BT.nil) BT.nil))) (BT.node (@hq.o62 P) (BT.node (@hq.o78 P) (BT.node (@hq.o115 P) (BT.node (@hq.o181 P) BT.nil BT.nil) (BT.node (@hq.o247 P) BT.nil BT.nil)) (BT.node (@hq.o149 P) (BT.node (@hq.o215 P) BT.nil BT.nil) BT.nil)) (BT.node (@hq.o97 P) (BT.node (@hq.o133 P) (BT.node (@hq.o199 P) BT.nil BT.nil) BT.nil) (BT.node (@hq.o165 P) (BT.node (@hq.o231 P) BT.nil BT.nil) BT.nil)))) (BT.node (@hq.o45 P) (BT.node (@hq.o58 P) (BT.node (@hq.o74 P) (BT.node (@hq.o111 P) (BT.node (@hq.o177 P) BT.nil BT.nil) (BT.node (@hq.o243 P) BT.nil BT.nil)) (BT.node (@hq.o145 P) (BT.node (@hq.o211 P) BT.nil BT.nil) BT.nil)) (BT.node (@hq.o93 P) (BT.node (@hq.o129 P) (BT.node (@hq.o195 P) BT.nil BT.nil) BT.nil) (BT.node (@hq.o161 P) (BT.node (@hq.o227 P) BT.nil BT.nil) BT.nil))) (BT.node (@hq.o66 P) (BT.node (@hq.o85 P) (BT.node (@hq.o119 P) (BT.node (@hq.o187 P) BT.nil BT.nil) (BT.node (@hq.o251 P) BT.nil BT.nil)) (BT.node (@hq.o153 P) (BT.node (@hq.o219 P) BT.nil BT.nil) BT.nil)) (BT.node (@hq.o103 P) (BT.node (@hq.o137 P) (BT.node (@hq.o203 P) BT.nil BT.nil) BT.nil) (BT.node (@hq.o169 P) (BT.node (@hq.o235 P) BT.nil BT.nil) BT.nil)))))) (BT.node (@hq.o49 P) (BT.node (@boot_o_4 P) (BT.node (@boot_o_8 P) (BT.node (@hq.o53 P) (BT.node (@hq.o69 P) (BT.node (@hq.o106 P) (BT.node (@hq.o172 P) BT.nil BT.nil) (BT.node (@hq.o238 P) BT.nil BT.nil)) (BT.node (@hq.o140 P) (BT.node (@hq.o206 P) BT.nil BT.nil) BT.nil)) (BT.node (@hq.o88 P) (BT.node (@hq.o122 P) (BT.node (@hq.o190 P) BT.nil BT.nil) (BT.node (@hq.o254 P) BT.nil BT.nil)) (BT.node (@hq.o156 P) (BT.node (@hq.o222 P) BT.nil BT.nil) BT.nil))) (BT.node (@hq.o61 P) (BT.node (@hq.o77 P) (BT.node (@hq.o114 P) (BT.node (@hq.o180 P) BT.nil BT.nil) (BT.node (@hq.o246 P) BT.nil BT.nil)) (BT.node (@hq.o148 P) (BT.node (@hq.o214 P) BT.nil BT.nil) BT.nil)) (BT.node (@hq.o96 P) (BT.node (@hq.o132 P) (BT.node (@hq.o198 P) BT.nil BT.nil) BT.nil) (BT.node (@hq.o164 P) (BT.node (@hq.o230 P) BT.nil BT.nil) BT.nil)))) (BT.node (@hq.o184 P) (BT.node (@hq.o57 P) (BT.node (@hq.o73 P) (BT.node (@hq.o110 P) (BT.node (@hq.o176 P) BT.nil BT.nil) (BT.node (@hq.o242 P) BT.nil BT.nil)) (BT.node (@hq.o144 P) (BT.node (@hq.o210 P) BT.nil BT.nil) BT.nil)) (BT.node (@hq.o92 P) (BT.node (@hq.o128 P) (BT.node (@hq.o194 P) BT.nil BT.nil) BT.nil) (BT.node (@hq.o160 P) (BT.node (@hq.o226 P) BT.nil BT.nil) BT.nil))) (BT.node (@hq.o65 P) (BT.node (@hq.o84 P) (BT.node (@hq.o118 P) (BT.node (@hq.o186 P) BT.nil BT.nil) (BT.node (@hq.o250 P) BT.nil BT.nil)) (BT.node (@hq.o152 P) (BT.node (@hq.o218 P) BT.nil BT.nil) BT.nil)) (BT.node (@hq.o100 P) (BT.node (@hq.o136 P) (BT.node (@hq.o202 P) BT.nil BT.nil) BT.nil) (BT.node (@hq.o168 P) (BT.node (@hq.o234 P) BT.nil BT.nil) BT.nil))))) (BT.node (@boot_o_6 P) (BT.node (@boot_o_10 P) (BT.node (@hq.o55 P) (BT.node (@hq.o71 P) (BT.node (@hq.o108 P) (BT.node (@hq.o174 P) BT.nil BT.nil) (BT.node (@hq.o240 P) BT.nil BT.nil)) (BT.node (@hq.o142 P) (BT.node (@hq.o208 P) BT.nil BT.nil) BT.nil)) (BT.node (@hq.o90 P) (BT.node (@hq.o126 P) (BT.node (@hq.o192 P) BT.nil BT.nil) (BT.node (@hq.o256 P) BT.nil BT.nil)) (BT.node (@hq.o158 P) (BT.node (@hq.o224 P) BT.nil BT.nil) BT.nil))) (BT.node (@hq.o63 P) (BT.node (@hq.o82 P) (BT.node (@hq.o116 P) (BT.node (@hq.o182 P) BT.nil BT.nil) (BT.node (@hq.o248 P) BT.nil BT.nil)) (BT.node (@hq.o150 P) (BT.node (@hq.o216 P) BT.nil BT.nil) BT.nil)) (BT.node (@hq.o98 P) (BT.node (@hq.o134 P) (BT.node (@hq.o200 P) BT.nil BT.nil) BT.nil) (BT.node (@hq.o166 P) (BT.node (@hq.o232 P) BT.nil BT.nil) BT.nil)))) (BT.node (@hq.o46 P) (BT.node (@hq.o59 P) (BT.node (@hq.o81 P) (BT.node (@hq.o112 P) (BT.node (@hq.o178 P) BT.nil BT.nil) (BT.node (@hq.o244 P) BT.nil BT.nil)) (BT.node (@hq.o146 P) (BT.node (@hq.o212 P) BT.nil BT.nil) BT.nil)) (BT.node (@hq.o94 P) (BT.node (@hq.o130 P) (BT.node (@hq.o196 P) BT.nil BT.nil) BT.nil) (BT.node (@hq.o162 P) (BT.node (@hq.o228 P) BT.nil BT.nil) BT.nil))) (BT.node (@hq.o67 P) (BT.node (@hq.o86 P) (BT.node (@hq.o120 P) (BT.node (@hq.o188 P) BT.nil BT.nil) (BT.node (@hq.o252 P) BT.nil BT.nil)) (BT.node (@hq.o154 P) (BT.node (@hq.o220 P) BT.nil BT.nil) BT.nil)) (BT.node (@hq.o104 P) (BT.node (@hq.o138 P) (BT.node (@hq.o204 P) BT.nil BT.nil) BT.nil) (BT.node (@hq.o170 P) (BT.node (@hq.o236 P) BT.nil BT.nil) BT.nil)))))))
noncomputable def hq.h258 (P : Params) : Heap := (Heap.mk (Array.mk [(@boot_o_0 P), (@boot_o_1 P), (@hq.o49 P), (@hq.o183 P), (@boot_o_4 P), (@boot_o_5 P), (@boot_o_6 P), (@boot_o_7 P), (@boot_o_8 P), (@boot_o_9 P), (@boot_o_10 P), (@hq.o43 P), (@hq.o184 P), (@hq.o45 P), (@hq.o46 P), (@hq.o52 P), (@hq.o53 P), (@hq.o54 P), (@hq.o55 P), (@hq.o56 P), (@hq.o57 P), (@hq.o58 P), (@hq.o59 P), (@hq.o60 P), (@hq.o61 P), (@hq.o62 P), (@hq.o63 P), (@hq.o64 P), (@hq.o65 P), (@hq.o66 P), (@hq.o67 P), (@hq.o68 P), (@hq.o69 P), (@hq.o70 P), (@hq.o71 P), (@hq.o72 P), (@hq.o73 P), (@hq.o74 P), (@hq.o81 P), (@hq.o76 P), (@hq.o77 P), (@hq.o78 P), (@hq.o82 P), (@hq.o83 P), (@hq.o84 P), (@hq.o85 P), (@hq.o86 P), (@hq.o87 P), (@hq.o88 P), (@hq.o89 P), (@hq.o90 P), (@hq.o91 P), (@hq.o92 P), (@hq.o93 P), (@hq.o94 P), (@hq.o95 P), (@hq.o96 P), (@hq.o97 P), (@hq.o98 P), (@hq.o99 P), (@hq.o100 P), (@hq.o103 P), (@hq.o104 P), (@hq.o105 P), (@hq.o106 P), (@hq.o107 P), (@hq.o108 P), (@hq.o109 P), (@hq.o110 P), (@hq.o111 P), (@hq.o112 P), (@hq.o113 P), (@hq.o114 P), (@hq.o115 P), (@hq.o116 P), (@hq.o117 P), (@hq.o118 P), (@hq.o119 P), (@hq.o120 P), (@hq.o121 P), (@hq.o122 P), (@hq.o123 P), (@hq.o126 P), (@hq.o127 P), (@hq.o128 P), (@hq.o129 P), (@hq.o130 P), (@hq.o131 P), (@hq.o132 P), (@hq.o133 P), (@hq.o134 P), (@hq.o135 P), (@hq.o136 P), (@hq.o137 P), (@hq.o138 P), (@hq.o139 P), (@hq.o140 P), (@hq.o141 P), (@hq.o142 P), (@hq.o143 P), (@hq.o144 P), (@hq.o145 P), (@hq.o146 P), (@hq.o147 P), (@hq.o148 P), (@hq.o149 P), (@hq.o150 P), (@hq.o151 P), (@hq.o152 P), (@hq.o153 P), (@hq.o154 P), (@hq.o155 P), (@hq.o156 P), (@hq.o157 P), (@hq.o158 P), (@hq.o159 P), (@hq.o160 P), (@hq.o161 P), (@hq.o162 P), (@hq.o163 P), (@hq.o164 P), (@hq.o165 P), (@hq.o166 P), (@hq.o167 P), (@hq.o168 P), (@hq.o169 P), (@hq.o170 P), (@hq.o171 P), (@hq.o172 P), (@hq.o173 P), (@hq.o174 P), (@hq.o175 P), (@hq.o176 P), (@hq.o177 P), (@hq.o178 P), (@hq.o179 P), (@hq.o180 P), (@hq.o181 P), (@hq.o182 P), (@hq.o185 P), (@hq.o186 P), (@hq.o187 P), (@hq.o188 P), (@hq.o189 P), (@hq.o190 P), (@hq.o191 P), (@hq.o192 P), (@hq.o193 P), (@hq.o194 P), (@hq.o195 P), (@hq.o196 P), (@hq.o197 P), (@hq.o198 P), (@hq.o199 P), (@hq.o200 P), (@hq.o201 P), (@hq.o202 P), (@hq.o203 P), (@hq.o204 P), (@hq.o205 P), (@hq.o206 P), (@hq.o207 P), (@hq.o208 P), (@hq.o209 P), (@hq.o210 P), (@hq.o211 P), (@hq.o212 P), (@hq.o213 P), (@hq.o214 P), (@hq.o215 P), (@hq.o216 P), (@hq.o217 P), (@hq.o218 P), (@hq.o219 P), (@hq.o220 P), (@hq.o221 P), (@hq.o222 P), (@hq.o223 P), (@hq.o224 P), (@hq.o225 P), (@hq.o226 P), (@hq.o227 P), (@hq.o228 P), (@hq.o229 P), (@hq.o230 P), (@hq.o231 P), (@hq.o232 P), (@hq.o233 P), (@hq.o234 P), (@hq.o235 P), (@hq.o236 P), (@hq.o237 P), (@hq.o238 P), (@hq.o239 P), (@hq.o240 P), (@hq.o241 P), (@hq.o242 P), (@hq.o243 P), (@hq.o244 P), (@hq.o245 P), (@hq.o246 P), (@hq.o247 P), (@hq.o248 P), (@hq.o249 P), (@hq.o250 P), (@hq.o251 P), (@hq.o252 P), (@hq.o253 P), (@hq.o254 P), (@hq.o255 P), (@hq.o256 P), (@hq.o257 P)]) (Life.mk [] [] [] 0 [] [] Bool.false (Array.mk []) [] 0 Bool.false Bool.false Bool.false (0 : Int) [(2000 : Int), (10 : Int), (10 : Int)] Bool.false 0 Bool.true [] [] 0 Bool.false))
noncomputable def hq.b : List Stmt := behindTheImports Challenge.pw_nm0112_01
noncomputable def hq.env : Env := { scope := Challenge.pw_nm0112_01.main.scope, locals := mainNs, globals := mainNs, cells := [], code := .ref 13, frame := some 14 }
noncomputable def hq.c : Code := .body hq.b hq.env
noncomputable def hq.s0 (w : World) (os : OsState) : Shared := ⟨boot_heap w.params, Array.mk [], boot_drawn, boot_toks, os⟩
noncomputable def hq.sa (w : World) (os : OsState) : Shared := ⟨hq.h46 w.params, Array.mk [], {}, 187, os⟩
noncomputable def hq.sz (w : World) (os : OsState) : Shared := ⟨hq.h258 w.params, Array.mk [], {}, 486, os⟩
noncomputable def hq.t47s (w : World) (os : OsState) : SharedT := ⟨hq.t47 w.params, 15, {}, Array.mk [], {}, 187, os⟩
noncomputable def hq.t78s (w : World) (os : OsState) : SharedT := ⟨hq.t78 w.params, 42, {}, Array.mk [], {}, 225, os⟩
noncomputable def hq.t100s (w : World) (os : OsState) : SharedT := ⟨hq.t100 w.params, 61, {}, Array.mk [], {}, 261, os⟩
noncomputable def hq.t123s (w : World) (os : OsState) : SharedT := ⟨hq.t123 w.params, 82, {}, Array.mk [], {}, 298, os⟩
noncomputable def hq.t182s (w : World) (os : OsState) : SharedT := ⟨hq.t182 w.params, 139, {}, Array.mk [], {}, 376, os⟩
noncomputable def hq.t257s (w : World) (os : OsState) : SharedT := ⟨hq.t257 w.params, 212, {}, Array.mk [], {}, 486, os⟩
noncomputable def hq.l0 : List Stmt := (hq.b.drop 0).take 3
noncomputable def hq.l1 : List Stmt := (hq.b.drop 3).take 5
noncomputable def hq.l2 : List Stmt := (hq.b.drop 8).take 1
noncomputable def hq.l3 : List Stmt := (hq.b.drop 9).take 5
noncomputable def hq.l4 : List Stmt := (hq.b.drop 14).take 13
/-- the run by the library's quick functions -/
theorem hq.seg {p : Program} {w : World} {n₀ : Nat} {ann : Option Value} {b n : Nat} {s : SharedT} {t : Thread} {r : Option (Flow × SharedT × Code × Pos)} (h : Fast.tw10110043849684766642 Fast.tw14364793385576792824 p w n₀ ann b n s t = r) : segRunT treeTable p w n₀ ann b n s t = r := by
  rw [Fast.te10110043849684766642, Fast.te14364793385576792824]; exact h
theorem hq.seen {q : Program} {l m : List Str} {X : Shared → Bool} {g : Bool} {s : Shared} {r : _} (h : Fast.tw4187177175401517315 q l m X g s = r) : openSeen q l m X g s = r := by
  rw [Fast.te4187177175401517315]; exact h
theorem hq.pre (w : World) (os : OsState) : topGo treeTable Challenge.pw_nm0112_01 w 11 (some (.ref 6)) 12 (hq.s0 w os) (topStub Challenge.pw_nm0112_01) = some (hq.sa w os, ⟨denote treeTable hq.c, hq.c, ⟨0, 0, 0, 0⟩, [topFrame ⟨0, 0, 0, 0⟩]⟩) := by kernel_rfl
theorem hq.block (w : World) (os : OsState) : segRun treeTable Challenge.pw_nm0112_01 w 11 (some (.ref 6)) 1 1 (hq.sa w os) (blockOf hq.b hq.env hq.c ⟨0, 0, 0, 0⟩ [topFrame ⟨0, 0, 0, 0⟩]) = some (.next, (hq.t47s w os).abs, hq.c, ⟨0, 0, 0, 0⟩) := by kernel_rfl
theorem hq.p0 (w : World) (os : OsState) : segRunT treeTable Challenge.pw_nm0112_01 w 11 (some (.ref 6)) 1 267 (hq.t47s w os) (piecesOf hq.l0 hq.env hq.c ⟨0, 0, 0, 0⟩ [topFrame ⟨0, 0, 0, 0⟩]) = some (.next, hq.t78s w os, hq.c, ⟨5, 0, 9, 22⟩) := hq.seg (by kernel_rfl)
theorem hq.p1 (w : World) (os : OsState) : segRunT treeTable Challenge.pw_nm0112_01 w 11 (some (.ref 6)) 1 285 (hq.t78s w os) (piecesOf hq.l1 hq.env hq.c ⟨5, 0, 9, 22⟩ [topFrame ⟨0, 0, 0, 0⟩]) = some (.next, hq.t100s w os, hq.c, ⟨19, 0, 19, 13⟩) := hq.seg (by kernel_rfl)
theorem hq.p2 (w : World) (os : OsState) : segRunT treeTable Challenge.pw_nm0112_01 w 11 (some (.ref 6)) 1 231 (hq.t100s w os) (piecesOf hq.l2 hq.env hq.c ⟨19, 0, 19, 13⟩ [topFrame ⟨0, 0, 0, 0⟩]) = some (.next, hq.t123s w os, hq.c, ⟨20, 0, 27, 28⟩) := hq.seg (by kernel_rfl)
theorem hq.p3 (w : World) (os : OsState) : segRunT treeTable Challenge.pw_nm0112_01 w 11 (some (.ref 6)) 1 385 (hq.t123s w os) (piecesOf hq.l3 hq.env hq.c ⟨20, 0, 27, 28⟩ [topFrame ⟨0, 0, 0, 0⟩]) = some (.next, hq.t182s w os, hq.c, ⟨56, 0, 64, 29⟩) := hq.seg (by kernel_rfl)
theorem hq.p4 (w : World) (os : OsState) : segRunT treeTable Challenge.pw_nm0112_01 w 11 (some (.ref 6)) 1 363 (hq.t182s w os) (piecesOf hq.l4 hq.env hq.c ⟨56, 0, 64, 29⟩ [topFrame ⟨0, 0, 0, 0⟩]) = some (.next, hq.t257s w os, hq.c, ⟨144, 0, 159, 15⟩) := hq.seg (by kernel_rfl)
theorem hq.fin (w : World) (os : OsState) : topRun treeTable Challenge.pw_nm0112_01 w 11 (some (.ref 6)) 2 (hq.t257s w os).abs ⟨doneF .next, hq.c, ⟨144, 0, 159, 15⟩, [topFrame ⟨0, 0, 0, 0⟩]⟩ = some (hq.sz w os) := by kernel_rfl
theorem hq.parts : hq.b = hq.l0 ++ (hq.l1 ++ (hq.l2 ++ (hq.l3 ++ (hq.l4 ++ [])))) := by kernel_rfl
theorem hq.run (w : World) (os : OsState) : topRun treeTable Challenge.pw_nm0112_01 w 11 (some (.ref 6)) (12 + (1 + (267 + (285 + (231 + (385 + (363 + 2))))))) (hq.s0 w os) (topStub Challenge.pw_nm0112_01) = some (hq.sz w os) := by
  have h : topRun treeTable Challenge.pw_nm0112_01 w 11 (some (.ref 6)) (267 + (285 + (231 + (385 + (363 + 2))))) (hq.t47s w os).abs (restOf (hq.l0 ++ (hq.l1 ++ (hq.l2 ++ (hq.l3 ++ (hq.l4 ++ []))))) hq.env hq.c ⟨0, 0, 0, 0⟩ [topFrame ⟨0, 0, 0, 0⟩]) = some (hq.sz w os) := piece_app (segRun_of (hq.p0 w os)) (piece_app (segRun_of (hq.p1 w os)) (piece_app (segRun_of (hq.p2 w os)) (piece_app (segRun_of (hq.p3 w os)) (piece_app (segRun_of (hq.p4 w os)) (piece_nil (hq.fin w os))))))
  rw [← hq.parts] at h
  exact go_top (hq.pre w os) (piece_block (hq.block w os) h)
theorem hq.open_ : ∀ w : World, (fencedOpening treeTable Challenge.pw_nm0112_01 w 3178).map (fun s => (s.heap, s.gens, s.drawn, s.toks)) = some (boot_heap w.params, Array.mk [], boot_drawn, boot_toks) :=
  boot_open (by kernel_rfl) (by kernel_rfl) (fun _ => rfl)
theorem hq.size : ∀ w : World, ((boot_heap w.params).isNs mainGlobals && (Array.mk [] : Array GenState).size == 0, (boot_heap w.params).objs.size, (boot_heap w.params).nsMap mainGlobals "__annotations__") = (true, 11, (some (.ref 6))) := by
  intro w; kernel_rfl
theorem hq.looks1 (w : World) (os : OsState) : (staticsOk (importedModules Challenge.pw_nm0112_01.main.body) (boot_heap w.params) (hq.h258 w.params) && namesBound Challenge.pw_nm0112_01 (hq.h258 w.params) && gensDone ⟨hq.h258 w.params, Array.mk [], {}, 486, os⟩ && laidKept (boot_heap w.params) (hq.h258 w.params)) = true := by kernel_rfl
theorem hq.looks2 (w : World) (os : OsState) : openSeen hd.view_39 [Str.ofString "is_token"] (importedModules Challenge.pw_nm0112_01.main.body) (fun s => xlAt hd.view_39 [] s && recOk (RowW.records (OpenLaw.row Challenge.rw_nm0112_01).toRowW) s) true ⟨hq.h258 w.params, Array.mk [], {}, 486, os⟩ = openGood hd.view_39 [Str.ofString "is_token"] := hq.seen (by kernel_rfl)
theorem hq.left {α : Type} {Yf : Shared → α} {Ya : World → α} (hy : ∀ w os, Yf ⟨hq.h258 w.params, Array.mk [], {}, 486, os⟩ = Ya w) :
    LeftO Challenge.pw_nm0112_01 hd.view_39 [Str.ofString "is_token"] (fun s => xlAt hd.view_39 [] s && recOk (RowW.records (OpenLaw.row Challenge.rw_nm0112_01).toRowW) s) Yf Ya 3178 true :=
  LeftO.of_pieces hq.open_ hq.size hq.run (by decide) fun w => funext fun os => looks_pair (hq.looks1 w os) (looks_pair (hq.looks2 w os) (hy w os))
local macro_rules | `(tactic| o_head $H:term) => `(tactic| (
  refine holds_open (q := Mine.hd.view_39) (loose := [Str.ofString "is_token"]) (Xt := (fun s => xlAt hd.view_39 [] s && recOk (RowW.records (OpenLaw.row Challenge.rw_nm0112_01).toRowW) s)) (XP := XL Mine.hd.view_39 []) (Yf := Hook.obs $H) (Ya := Hook.val $H) (YP := Hook.says $H) (N := 3178) ?hl (Hook.of $H) (Hook.keeps $H) (fun s e => xl_of s (Bool.and_eq_true_iff.mp e).1) XL.keeps (by rfl) (by rfl) (by rfl) (fun s e => recFacts_of (Bool.and_eq_true_iff.mp e).2) (by rfl) (by first | assumption | decide +kernel) (by decide +kernel) ⟨rfl, rfl, rfl, rfl, rfl, by decide +kernel⟩ ?hw ?hc
  case hl => exact Mine.hq.left (fun w os => by kernel_rfl)))
set_option maxHeartbeats 8000000 in
open_top hd for PySem.Challenge.rw_nm0112_01
end Mine
end

/- part Pl -/
section
open PySem PySem.W PyProof.Rows
namespace Mine
/-- the digit that a sign is, in base b (10 or 16) -/
def digOf (b : Int) (c : Int) : Option Int :=
  if 48 ≤ c ∧ c ≤ 57 then some (c - 48)
  else if b = 16 ∧ 97 ≤ c ∧ c ≤ 102 then some (c - 87)
  else if b = 16 ∧ 65 ≤ c ∧ c ≤ 70 then some (c - 55)
  else none
def wStep (b : Int) (st : Option (Int × Bool)) (c : Int) : Option (Int × Bool) :=
  match st with
  | none => none
  | some (f, w) => if c = 95 then (if w then some (f, false) else none)
    else match digOf b c with
      | some d => some (f * b + d, true)
      | none => none
def wRun (b : Int) (l : List Int) : Option (Int × Bool) := l.foldl (wStep b) (some (0, false))
/-- what whole_of gives -/
def wholeV (b : Int) (l : List Int) : Option Int := match wRun b l with
  | some (f, true) => some f
  | _ => none
theorem wRun_snoc (b : Int) (l : List Int) (c : Int) : wRun b (l ++ [c]) = wStep b (wRun b l) c := by
  simp [wRun, List.foldl_append]
theorem foldl_none (b : Int) : ∀ l : List Int, l.foldl (wStep b) none = none
  | [] => rfl
  | c :: r => by rw [List.foldl_cons]; exact foldl_none b r
theorem wRun_none (b : Int) (pre post : List Int) (c : Int) (h : wStep b (wRun b pre) c = none) : wRun b (pre ++ c :: post) = none := by
  unfold wRun at *
  rw [List.foldl_append, List.foldl_cons, h]
  exact foldl_none b post
theorem digOf_bound {b c d : Int} (hb : b = 10 ∨ b = 16) (h : digOf b c = some d) : 0 ≤ d ∧ d < b := by
  unfold digOf at h
  split at h
  · cases h; omega
  · split at h
    · cases h; omega
    · split at h
      · cases h; omega
      · cases h
theorem wRun_bound {b : Int} (hb : b = 10 ∨ b = 16) : ∀ (n : Nat) (l : List Int) (f : Int) (w : Bool), l.length = n → wRun b l = some (f, w) → 0 ≤ f ∧ f < 16 ^ n := by
  intro n
  induction n with
  | zero =>
    intro l f w hl h
    obtain rfl := List.eq_nil_of_length_eq_zero hl
    simp [wRun] at h
    omega
  | succ n ih =>
    intro l f w hl h
    obtain ⟨l', c, rfl⟩ : ∃ l' c, l = l' ++ [c] := by
      refine ⟨l.dropLast, l.getLast (by intro e; rw [e] at hl; simp at hl), (List.dropLast_concat_getLast _).symm⟩
    rw [wRun_snoc] at h
    have hl' : l'.length = n := by simp at hl; exact hl
    cases hr : wRun b l' with
    | none => rw [hr] at h; simp [wStep] at h
    | some st =>
      obtain ⟨f', w'⟩ := st
      have hb' := ih l' f' w' hl' hr
      rw [hr] at h
      simp only [wStep] at h
      have hp : (16 : Int) ^ (n + 1) = 16 ^ n * 16 := Int.pow_succ 16 n
      split at h
      · split at h
        · cases h; omega
        · cases h
      · split at h
        · rename_i d hd
          have := digOf_bound hb hd
          cases h
          rcases hb with rfl | rfl <;> omega
        · cases h
end Mine
end

/- part W_at -/
section
open PySem PySem.W PyProof.Rows
set_option linter.unusedVariables false
set_option maxRecDepth 100000
namespace Mine
set_option maxHeartbeats 8000000 in
theorem c_at {w : World} {mean : ExcName → Option Value} {mg mb : Str → Option Value} {dp un : Nat} {gd : Option (List Code)} {cn : Str} {cs : Scope} {a : Addr} {ccd : Value} {cl : List (Str × Addr)} {outer : List Env} {A₀ : Around} {base h₀ : Heap} {L : Addr} {m : Str → Option Value} {news : List (Addr × Obj)} {s : Shared}
   {l : Addr} {vs : List Value} {ns : List Int} {k : Int} {tk : Tok} {Q E : Value → Shared → Prop}
   (B : Below A₀ base outer h₀) (F : Fr h₀ L s.heap m) (X : (hd.heap_39 w.params).In h₀) (N : News h₀ L s.heap news) (T : Top hd.view_39 (looseW hd.view_39 [Str.ofString "is_token"]) mean mg mb h₀) (hk : cs.kind = .function)
   (hdp : dp + 1 < recursionLimit) (hun : un + 208 < cLine) (hl : base.IsList l vs.toArray) (hi : IntsAre vs ns) (hls : ns.length ≤ 63) (hk0 : 0 ≤ k)
   (hret : ∀ (v : Int) (t : Tok) (h' : Heap) (tk' : Nat), Fr h₀ L h' m → News h₀ L h' news → Q (.int v t) { s with heap := h', toks := tk' }) :
   wpAny (model Challenge.rw_nm0112_01.row.prog w) (ktrTop dp un gd cn cs L a ccd cl outer) (call (.ref 159) [.ref l, .int k tk]) Q E s := by
  k_with_none
  w_top off
  (have hfill9 : (Challenge.rw_nm0112_01 = Challenge.rw_nm0112_01) ∧ (hd.heap_39 = hd.heap_39) := by (k_fill; exact ⟨rfl, rfl⟩))
  refine wpAny_call ?_
  k_dflt cell_enter
  k_steps
  all_goals exact hret _ _ _ _ (by k_asm) (by k_asm)

end Mine
end

/- part W_drawn -/
section
open PySem PySem.W PyProof.Rows
set_option linter.unusedVariables false
set_option maxRecDepth 100000
namespace Mine
theorem fmod80 (v : Int) : 0 ≤ v.fmod (2 ^ Int.toNat 80) ∧ v.fmod (2 ^ Int.toNat 80) < 2 ^ 81 := by
  have e : (2 : Int) ^ Int.toNat 80 = 1208925819614629174706176 := by decide +kernel
  rw [e]
  have h1 := Int.fmod_nonneg_of_pos v (show (0 : Int) < 1208925819614629174706176 by decide)
  have h2 := Int.fmod_lt_of_pos v (show (0 : Int) < 1208925819614629174706176 by decide)
  omega
theorem menu_exp (i : Nat) (wd : Int) (hw : 1 ≤ wd ∧ wd ≤ 72) : 0 ≤ [31, 32, 63, 64, wd - 1, wd].getD i 0 ∧ [31, 32, 63, 64, wd - 1, wd].getD i 0 ≤ 72 := by
  match i with
  | 0 => show (0 : Int) ≤ 31 ∧ (31 : Int) ≤ 72; omega
  | 1 => show (0 : Int) ≤ 32 ∧ (32 : Int) ≤ 72; omega
  | 2 => show (0 : Int) ≤ 63 ∧ (63 : Int) ≤ 72; omega
  | 3 => show (0 : Int) ≤ 64 ∧ (64 : Int) ≤ 72; omega
  | 4 => show 0 ≤ wd - 1 ∧ wd - 1 ≤ 72; omega
  | 5 => show 0 ≤ wd ∧ wd ≤ 72; omega
  | n + 6 => simp
theorem menu_off (i : Nat) : -1 ≤ [0, -1, (1 : Int)].getD i 0 ∧ [0, -1, (1 : Int)].getD i 0 ≤ 1 := by
  match i with
  | 0 => exact ⟨by decide, by decide⟩
  | 1 => exact ⟨by decide, by decide⟩
  | 2 => exact ⟨by decide, by decide⟩
  | n + 3 => simp
theorem menu_num (i j : Nat) (wd : Int) (hw : 1 ≤ wd ∧ wd ≤ 72) : 0 ≤ (2 : Int) ^ ([31, 32, 63, 64, wd - 1, wd].getD i 0).toNat + [0, -1, (1 : Int)].getD j 0 ∧ (2 : Int) ^ ([31, 32, 63, 64, wd - 1, wd].getD i 0).toNat + [0, -1, (1 : Int)].getD j 0 < 2 ^ 81 := by
  have h1 := menu_exp i wd hw
  have h2 := menu_off j
  generalize [31, 32, 63, 64, wd - 1, wd].getD i 0 = e at *
  generalize [0, -1, (1 : Int)].getD j 0 = d at *
  have h3 : (2 : Nat) ^ e.toNat ≤ 2 ^ 72 := Nat.pow_le_pow_right (by decide) (by omega)
  have h4 : 0 < (2 : Nat) ^ e.toNat := Nat.pow_pos (by decide)
  have h5 : ((2 : Int) ^ e.toNat) = ((2 ^ e.toNat : Nat) : Int) := by norm_cast
  rw [h5]
  generalize (2 : Nat) ^ e.toNat = p at *
  have h6 : (2 : Nat) ^ 72 = 4722366482869645213696 := by decide +kernel
  have h7 : (2 : Int) ^ 81 = 2417851639229258349412352 := by decide +kernel
  rw [h6] at h3; rw [h7]
  omega
set_option maxHeartbeats 8000000 in
theorem c_drawn {w : World} {mean : ExcName → Option Value} {mg mb : Str → Option Value} {dp un : Nat} {gd : Option (List Code)} {cn : Str} {cs : Scope} {a : Addr} {ccd : Value} {cl : List (Str × Addr)} {outer : List Env} {A₀ : Around} {base h₀ : Heap} {L : Addr} {m : Str → Option Value} {news : List (Addr × Obj)} {s : Shared}
   {l : Addr} {vs : List Value} {ns : List Int} {wd : Int} {tw : Tok} {Q E : Value → Shared → Prop}
   (B : Below A₀ base outer h₀) (F : Fr h₀ L s.heap m) (X : (hd.heap_39 w.params).In h₀) (N : News h₀ L s.heap news) (T : Top hd.view_39 (looseW hd.view_39 [Str.ofString "is_token"]) mean mg mb h₀) (hk : cs.kind = .function)
   (hdp : dp + 3 < recursionLimit) (hun : un + 224 < cLine) (hl : base.IsList l vs.toArray) (hi : IntsAre vs ns) (hls : ns.length ≤ 63) (hw : 1 ≤ wd ∧ wd ≤ 72)
   (hret : ∀ (v : Int) (t : Tok) (h' : Heap) (tk' : Nat), 0 ≤ v → v < 2 ^ 81 → Fr h₀ L h' m → News h₀ L h' news → Q (.int v t) { s with heap := h', toks := tk' }) :
   wpAny (model Challenge.rw_nm0112_01.row.prog w) (ktrTop dp un gd cn cs L a ccd cl outer) (call (.ref 166) [.ref l, .int wd tw]) Q E s := by
  k_with_none
  w_top off
  (k_with "eval Call" => (k_here; (first | (with_reducible show wpAny _ _ (eval (Expr.Call (Expr.Name (Str.ofString "_law_at") _) _ _ _) _) _ _ _)); k_dflt (refine Call_ ?_)))
  (k_with "call ref" => (k_here; (with_reducible show wpAny _ _ (call (Value.ref 159) [Value.ref _, Value.int _ _]) _ _ _); k_dflt (refine' c_at ?k1 ?k2 ?k3 ?k4 ?k5 ?kK ?kd ?ku ?xl ?xi ?xs ?x0 ?_; (case k1 => k_asm); (case k2 => k_asm); (case k3 => k_asm); (case k4 => k_asm); (case k5 => k_asm); (case kK => first | exact rfl | assumption); (case kd => ktr_room); (case ku => ktr_units); (case xl => k_asm); (case xi => first | assumption | l_ints); (case xs => first | assumption | omega); (case x0 => first | decide | omega); skip); (all_goals ((first | (intro v9 t9 h9 tk9 F9 N9)); (try dsimp only); (try k_fold)))))
  (k_with "binaryOp Pow int int" => (k_here; (with_reducible show wpAny _ _ (binaryOp _ (Value.int _ _) (Value.int (List.getD [_, _, _, _, _, _] _ _) _)) _ _ _); k_dflt (refine pow_int_small (menu_exp _ _ (by assumption)).1 (Int.le_trans (menu_exp _ _ (by assumption)).2 (by decide)) (by decide) ?_)))
  (have hfill9 : (Challenge.rw_nm0112_01 = Challenge.rw_nm0112_01) ∧ (hd.heap_39 = hd.heap_39) := by (k_fill; exact ⟨rfl, rfl⟩))
  refine wpAny_call ?_
  k_dflt cell_enter
  k_steps
  · refine hret _ _ _ _ ?_ ?_ (by k_asm) (by first | k_asm | (refine' cb_drop ?cbN ?cbS; (case cbN => k_asm); (case cbS => kcj_all)))
    · exact (fmod80 _).1
    · exact (fmod80 _).2
  · refine hret _ _ _ _ ?_ ?_ (by k_asm) (by first | k_asm | (refine' cb_drop ?cbN ?cbS; (case cbN => k_asm); (case cbS => kcj_all)))
    · exact (menu_num _ _ _ hw).1
    · exact (menu_num _ _ _ hw).2

end Mine
end

/- part W_writ -/
section
open PySem PySem.W PyProof.Rows
set_option linter.unusedVariables false
set_option maxRecDepth 100000
namespace Mine
theorem menu10 (i : Nat) (h : i < 2) : [10, (16 : Int)].getD i 0 = 10 ∨ [10, (16 : Int)].getD i 0 = 16 := by
  match i with
  | 0 => exact .inl rfl
  | 1 => exact .inr rfl
theorem menu10v (v : Int) : [10, (16 : Int)].getD (v.fmod 2).toNat 0 = 10 ∨ [10, (16 : Int)].getD (v.fmod 2).toNat 0 = 16 := by
  have h1 := Int.fmod_nonneg_of_pos v (show (0 : Int) < 2 by decide)
  have h2 := Int.fmod_lt_of_pos v (show (0 : Int) < 2 by decide)
  exact menu10 _ (by omega)
theorem menu10ne (v : Int) : [10, (16 : Int)].getD (v.fmod 2).toNat 0 ≠ 0 := by rcases menu10v v with h | h <;> rw [h] <;> decide
theorem menu10sm (v : Int) : ([10, (16 : Int)].getD (v.fmod 2).toNat 0).natAbs < 1073741824 := by rcases menu10v v with h | h <;> rw [h] <;> decide
abbrev WhP (n : Int) (ds : List Int) : Prop := 0 ≤ n ∧ n * 2 ^ ds.length < 2 ^ 81 ∧ ds.length ≤ 81 ∧ ∀ d ∈ ds, 0 ≤ d ∧ d < 16
theorem wh_dig {b n : Int} (hb : b = 10 ∨ b = 16) : 0 ≤ n.fmod b ∧ n.fmod b < 16 := by
  have h1 := Int.fmod_nonneg_of_pos n (show (0 : Int) < b by omega)
  have h2 := Int.fmod_lt_of_pos n (show (0 : Int) < b by omega)
  omega
theorem wh_div {b n : Int} (hb : b = 10 ∨ b = 16) (h0 : 0 ≤ n) : 0 ≤ n.fdiv b ∧ 2 * n.fdiv b ≤ n := by
  have e : n.fdiv b = n / b := by
    rw [Int.fdiv_eq_ediv_of_nonneg _ (by omega)]
  rw [e]
  rcases hb with rfl | rfl <;> omega
theorem wh_len {n : Int} {k : Nat} (hn : 0 < n) (h : n * 2 ^ k < 2 ^ 81) : k ≤ 80 := by
  refine Nat.le_of_not_lt fun hk => ?_
  have h1 : (2 : Nat) ^ 81 ≤ 2 ^ k := Nat.pow_le_pow_right (by decide) (by omega)
  have h2 : ((2 : Int) ^ k) = ((2 ^ k : Nat) : Int) := by norm_cast
  have h3 : ((2 : Int) ^ 81) = ((2 ^ 81 : Nat) : Int) := by norm_cast
  rw [h2, h3] at h
  have h4 : ((2 ^ k : Nat) : Int) ≤ n * ((2 ^ k : Nat) : Int) := by
    have := Int.mul_le_mul_of_nonneg_right (show (1 : Int) ≤ n by omega) (show (0 : Int) ≤ ((2 ^ k : Nat) : Int) by omega)
    omega
  omega
theorem wh_go {b n : Int} {ds : List Int} (hb : b = 10 ∨ b = 16) (h0 : 0 ≤ n) (h1 : n * 2 ^ ds.length < 2 ^ 81) (h3 : ∀ d ∈ ds, 0 ≤ d ∧ d < 16) (hl : ds.length ≤ 80) : WhP (n.fdiv b) (ds ++ [n.fmod b]) := by
  have hq := wh_div hb h0
  refine ⟨hq.1, ?_, by simp; omega, fun d hd => ?_⟩
  · rw [List.length_append, List.length_singleton, Int.pow_succ]
    have h2 : ((2 : Int) ^ ds.length) = ((2 ^ ds.length : Nat) : Int) := by norm_cast
    have h5 : (0 : Int) ≤ 2 ^ ds.length := by rw [h2]; exact Int.natCast_nonneg _
    generalize (2 : Int) ^ ds.length = p at *
    have := Int.mul_le_mul_of_nonneg_right hq.2 h5
    have e : n.fdiv b * (p * 2) = 2 * n.fdiv b * p := by
      rw [Int.mul_comm p 2, ← Int.mul_assoc, Int.mul_comm _ 2]
    rw [e]
    exact Int.lt_of_le_of_lt this h1
  · rcases List.mem_append.mp hd with hd | hd
    · exact h3 d hd
    · rw [List.mem_singleton.mp hd]; exact wh_dig hb
theorem wh_state1 {b n : Int} {ds : List Int} (hb : b = 10 ∨ b = 16) (h0 : 0 ≤ n) (h1 : n * 2 ^ ds.length < 2 ^ 81) (h3 : ∀ d ∈ ds, 0 ≤ d ∧ d < 16) (hn : 0 < n) : WhP (n.fdiv b) (ds ++ [n.fmod b]) :=
  wh_go hb h0 h1 h3 (wh_len hn h1)
theorem wh_state2 {b n : Int} {ds : List Int} (hb : b = 10 ∨ b = 16) (h0 : 0 ≤ n) (h1 : n * 2 ^ ds.length < 2 ^ 81) (h3 : ∀ d ∈ ds, 0 ≤ d ∧ d < 16) (hn : decide (ds = []) = true) : WhP (n.fdiv b) (ds ++ [n.fmod b]) :=
  wh_go hb h0 h1 h3 (by rw [of_decide_eq_true hn]; decide)
theorem wh_meas1 {b n : Int} {ds : List Int} (hb : b = 10 ∨ b = 16) (h0 : 0 ≤ n) (hn : 0 < n) : 2 * (n.fdiv b).toNat + (if ds ++ [n.fmod b] = [] then 1 else 0) < 2 * n.toNat + (if ds = [] then 1 else 0) := by
  have hq := wh_div hb h0
  rw [if_neg (by simp)]
  split <;> omega
theorem wh_meas2 {b n : Int} {ds : List Int} (hb : b = 10 ∨ b = 16) (h0 : 0 ≤ n) (hn : decide (ds = []) = true) : 2 * (n.fdiv b).toNat + (if ds ++ [n.fmod b] = [] then 1 else 0) < 2 * n.toNat + (if ds = [] then 1 else 0) := by
  have hq := wh_div hb h0
  rw [if_neg (by simp), if_pos (of_decide_eq_true hn)]
  omega
theorem my_extend {prog : Program} {w : World} {A : Around} {E : Value → Shared → Prop} {s : Shared} {h₀ : Heap} {L D b : Addr} {m : Str → Option Value} {news : List (Addr × Obj)} {news' : List Value → Nat → List (Addr × Obj)} {its its2 : Array Value} {n n2 : Nat} {Q : Value → Shared → Prop} {ns : List Int} {v : Int}
    (F : Fr h₀ L s.heap m) (N : News h₀ L s.heap news) (hb : (b, W.listOf its2 n2) ∈ news)
    (U : ∀ ws n', Upd D (W.listOf its n) (W.listOf ws.toArray n') news (news' ws n'))
    (hi : IntsAre its.toList ns) (hj : IntsAre its2.toList (List.replicate (v.fmod 4).toNat [0]).flatten)
    (hl : ns.length ≤ 81) (hne : decide (ns = []) = false) (hd : ∀ d ∈ ns, 0 ≤ d ∧ d < 16)
    (h : ∀ ws ks n' h', IntsAre ws ks → 1 ≤ ks.length → ks.length ≤ 84 → (∀ d ∈ ks, 0 ≤ d ∧ d < 16) → Fr h₀ L h' m → News h₀ L h' (news' ws n') → Q .none { s with heap := h' }) :
    wpAny (model prog w) A (call (.builtin "list.extend") [.ref D, .ref b]) Q E s := by
  have h1 := Int.fmod_nonneg_of_pos v (show (0 : Int) < 4 by decide)
  have h2 := Int.fmod_lt_of_pos v (show (0 : Int) < 4 by decide)
  have hk : (List.replicate (v.fmod 4).toNat [(0 : Int)]).flatten.length = (v.fmod 4).toNat := by simp
  have l1 := hi.length
  have l2 := hj.length
  rw [hk] at l2
  have hsz : its.size + its2.size ≤ sizeLine := by
    rw [PySem.sizeLine_eq]
    rw [Array.length_toList] at l1 l2
    omega
  obtain ⟨pre, post, e1, e2, a, c⟩ := (U (its.toList ++ its2.toList) (if (its ++ its2).size == its.size then n else n + 1)).split
  have N' := N
  rw [e1] at N'
  have z := N' (D, W.listOf its n) (List.mem_append.mpr (.inr (.head _)))
  refine call_meets PySem.F.slot_list_extend ⟨_, z.1, rfl⟩ PySem.F.entry_list_extend (PySem.F.args_list_extend_2 _ _) (PySem.AutoSeq1.list_extend_list_list_0 D its n b its2 n2 (extend_door hsz) (Nat.le_trans (Nat.le_add_right _ _) hsz)) ⟨z.1, (N _ hb).1, ?_⟩
  have e : its ++ its2 = (its.toList ++ its2.toList).toArray := by simp
  refine h (its.toList ++ its2.toList) (ns ++ (List.replicate (v.fmod 4).toNat [0]).flatten) (if (its ++ its2).size == its.size then n else n + 1) _ (hi.append hj) ?_ ?_ ?_ (F.change (Heap.SameBut.update ..) z.2.1 z.2.2) ?_
  · have := of_decide_eq_false hne
    cases ns with
    | nil => exact absurd rfl this
    | cons x r => simp
  · rw [List.length_append, hk]; omega
  · intro d hd'
    rcases List.mem_append.mp hd' with hd' | hd'
    · exact hd d hd'
    · simp at hd'
      omega
  · rw [e2]
    refine news_set N' a c (Heap.SameBut.update ..) ?_
    have q := PySem.IsL.update z.1 (fun x => x ++ its2)
    rw [e] at q
    rw [e]
    exact q
theorem menu_len3 (i j : Nat) : ([("+" : Str), "-", ""].getD i Str.empty ++ [("" : Str), "0x"].getD j Str.empty : Str).length ≤ 3 := by
  rw [Str.length_append]
  have h1 : ([("+" : Str), "-", ""].getD i Str.empty : Str).length ≤ 1 := by
    match i with
    | 0 => decide +kernel
    | 1 => decide +kernel
    | 2 => decide +kernel
    | n + 3 => show (Str.empty).length ≤ 1; decide +kernel
  have h2 : ([("" : Str), "0x"].getD j Str.empty : Str).length ≤ 2 := by
    match j with
    | 0 => decide +kernel
    | 1 => decide +kernel
    | n + 2 => show (Str.empty).length ≤ 2; decide +kernel
  omega
theorem add_menus {prog : Program} {w : World} {A : Around} {E : Value → Shared → Prop} {s : Shared} {Q : Value → Shared → Prop} {i j : Nat} {y : Str} {t u : Tok} (hy1 : 1 ≤ y.length) (hy : y.length ≤ 170)
    (h : ∀ (z : Str) t' tk, 1 ≤ z.length → z.length ≤ 173 → Q (.str z t') { s with toks := tk }) :
    wpAny (model prog w) A (binaryOp .Add (.str ([("+" : Str), "-", ""].getD i Str.empty ++ [("" : Str), "0x"].getD j Str.empty) t) (.str y u)) Q E s := by
  have hm := menu_len3 i j
  refine add_str (fun t' tk => h _ t' tk ?_ ?_) (by rw [PySem.sizeLine_eq]; omega)
  · rw [Str.length_append]; omega
  · rw [Str.length_append]; omega
theorem ltg_str (value : PySem.Expr) (x : Str) (t : Tok) (r : Value) : letTemporaryGo value (.str x t) r = pure () := by
  unfold letTemporaryGo
  split
  · rfl
  · rename_i h; cases h
  · rfl
theorem item_hex {prog : Program} {w : World} {A : Around} {E : Value → Shared → Prop} {s : Shared} {Q : Value → Shared → Prop} {value slice : PySem.Expr} {x : Str} {t u : Tok} {ks : List Int} {k : Nat} (hx : x.length = 16) (hk : k < ks.length) (hd : ∀ d ∈ ks, 0 ≤ d ∧ d < 16)
    (h : ∀ (z : Str) t' tk, z.length = 1 → Q (.str z t') { s with toks := tk })
    (hs : subscripted slice false (.str x t) (.int (ks.getD k 0) u) = operate [.str x t, .int (ks.getD k 0) u] (getItem (.str x t) (.int (ks.getD k 0) u))) :
    wpAny (model prog w) A (subscriptTail value slice (.str x t) (.int (ks.getD k 0) u)) Q E s := by
  have hm : ks.getD k 0 ∈ ks := by
    rw [List.getD_eq_getElem?_getD, List.getElem?_eq_getElem hk]; exact List.getElem_mem _
  have hb := hd _ hm
  exact item_str (fitsSsize_of (N := 9223372036854775808) (by omega) (by omega) (Int.le_refl _)) (by omega) (by omega) (fun hl => h _ _ _ (by omega)) hs (ltg_str _ _ _)
set_option maxHeartbeats 8000000 in
theorem c_writ {w : World} {mean : ExcName → Option Value} {mg mb : Str → Option Value} {dp un : Nat} {gd : Option (List Code)} {cn : Str} {cs : Scope} {a : Addr} {ccd : Value} {cl : List (Str × Addr)} {outer : List Env} {A₀ : Around} {base h₀ : Heap} {L : Addr} {m : Str → Option Value} {news : List (Addr × Obj)} {s : Shared}
   {l : Addr} {vs : List Value} {ns : List Int} {wd : Int} {tw : Tok} {Q E : Value → Shared → Prop}
   (B : Below A₀ base outer h₀) (F : Fr h₀ L s.heap m) (X : (hd.heap_39 w.params).In h₀) (N : News h₀ L s.heap news) (T : Top hd.view_39 (looseW hd.view_39 [Str.ofString "is_token"]) mean mg mb h₀) (hk : cs.kind = .function)
   (hdp : dp + 5 < recursionLimit) (hun : un + 240 < cLine) (hl : base.IsList l vs.toArray) (hi : IntsAre vs ns) (hls : ns.length ≤ 63) (hw : 1 ≤ wd ∧ wd ≤ 72)
   (hret : ∀ (y : Str) (t : Tok) (h' : Heap) (tk' : Nat), 1 ≤ y.length → y.length ≤ 400 → Fr h₀ L h' m → News h₀ L h' news → Q (.str y t) { s with heap := h', toks := tk' }) :
   wpAny (model Challenge.rw_nm0112_01.row.prog w) (ktrTop dp un gd cn cs L a ccd cl outer) (call (.ref 173) [.ref l, .int wd tw]) Q E s := by
  k_with_none
  w_top off
  (k_with "ite" => (k_here; dsimp only; walk_at "ite"))
  (k_with "storeName" => (k_here; dsimp only; walk_at "storeName"))
  (k_with "eval Call" => (k_here; (first | (with_reducible show wpAny _ _ (eval (Expr.Call (Expr.Name (Str.ofString "_law_at") _) _ _ _) _) _ _ _) | (with_reducible show wpAny _ _ (eval (Expr.Call (Expr.Name (Str.ofString "_law_number_drawn") _) _ _ _) _) _ _ _)); k_dflt (refine Call_ ?_)))
  (k_with "call ref" => (k_here; (with_reducible show wpAny _ _ (call (Value.ref 159) [Value.ref _, Value.int _ _]) _ _ _); k_dflt (refine' c_at ?k1 ?k2 ?k3 ?k4 ?k5 ?kK ?kd ?ku ?xl ?xi ?xs ?x0 ?_; (case k1 => k_asm); (case k2 => k_asm); (case k3 => k_asm); (case k4 => k_asm); (case k5 => k_asm); (case kK => first | exact rfl | assumption); (case kd => ktr_room); (case ku => ktr_units); (case xl => k_asm); (case xi => first | assumption | l_ints); (case xs => first | assumption | omega); (case x0 => first | decide | omega); skip); (all_goals ((first | (intro v9 t9 h9 tk9 F9 N9)); (try dsimp only); (try k_fold)))))
  (k_with "call ref" => (k_here; (with_reducible show wpAny _ _ (call (Value.ref 166) [Value.ref _, Value.int _ _]) _ _ _); k_dflt (refine' c_drawn ?k1 ?k2 ?k3 ?k4 ?k5 ?kK ?kd ?ku ?xl ?xi ?xs ?xw ?_; (case k1 => k_asm); (case k2 => k_asm); (case k3 => k_asm); (case k4 => k_asm); (case k5 => k_asm); (case kK => first | exact rfl | assumption); (case kd => ktr_room); (case ku => ktr_units); (case xl => k_asm); (case xi => first | assumption | l_ints); (case xs => first | assumption | omega); (case xw => first | assumption | omega); skip); (all_goals ((first | (intro v9 t9 h9 tk9 hv9 hv9' F9 N9)); (try dsimp only); (try k_fold)))))
  (k_with "call builtin:list.extend" => (k_here; (with_reducible show wpAny _ _ (call (Value.builtin _) [Value.ref _, Value.ref _]) _ _ _); k_dflt (refine' my_extend ?F ?N ?b ?U ?hi ?hj ?hl ?hne ?hd ?_; (case F => k_asm); (case N => k_asm); (case b => k_mem); (case U => (intro ws n'; k_upd)); (case hi => with_reducible assumption); (case hj => with_reducible assumption); (case hl => with_reducible assumption); (case hne => with_reducible assumption); (case hd => with_reducible assumption)); intro ws9 ks9 n9 h9 hI9 h19 h849 hd9 F9 N9; (try dsimp only at N9); (try k_sweep)))
  (k_with "binaryOp Add str str" => (k_here; (with_reducible show wpAny _ _ (binaryOp _ (Value.str (List.getD _ _ _ ++ List.getD _ _ _) _) (Value.str _ _)) _ _ _); k_dflt (refine add_menus (by first | omega | (simp only [rangeKs_length] at *; omega)) (by first | omega | (simp only [rangeKs_length] at *; omega)) ?_); intro z9 t9 k9 hz9 hz9'; (try dsimp only)))
  (k_with "call builtin:len" => (k_here; (with_reducible show wpAny _ _ (call (Value.builtin "len") [Value.str _ _]) _ _ _); k_dflt (refine P.len_str (by omega) ?_)))
  (k_with "subscriptTail" => (k_here; (with_reducible show wpAny _ _ (subscriptTail _ _ (Value.str _ _) (Value.int (List.getD _ _ _) _)) _ _ _); k_dflt (refine' item_hex ?hx ?hk ?hd ?_ ?hs; (case hx => decide +kernel); (case hd => with_reducible assumption); (case hk => omega); (case hs => with_unfolding_all rfl)); intro z9 t9 k9 hz9))
  (k_with "binaryOp Mod int int" => (k_here; (with_reducible show wpAny _ _ (binaryOp _ (Value.int _ _) (Value.int (List.getD [_, _] _ _) _)) _ _ _); k_dflt (refine PyProof.Rows.mod_int' (menu10ne _) ?_); (try dsimp only)))
  (k_with "binaryOp FloorDiv int int" => (k_here; (with_reducible show wpAny _ _ (binaryOp _ (Value.int _ _) (Value.int (List.getD [_, _] _ _) _)) _ _ _); k_dflt (refine PyProof.Rows.floordiv_int (menu10ne _) ?_ (Or.inl (PyProof.noPylong_small (menu10sm _)))); (try dsimp only)))
  (k_with "compareOp Eq ref ref" => (k_here; (with_reducible show wpAny _ _ (compareOp CmpOp.Eq (Value.ref _) (Value.ref _)) _ _ _); (with_unfolding_all refine' eq_intsK ?k1 ?k2 ?k3 ?k4 ?k5 ?_; (case k1 => is_list); (case k2 => l_intsC); (case k3 => is_list); (case k4 => l_intsC); (case k5 => ktr_units); k_whole); (try dsimp only)))
  (have hfill9 : (Challenge.rw_nm0112_01 = Challenge.rw_nm0112_01) ∧ (hd.heap_39 = hd.heap_39) := by (k_fill; exact ⟨rfl, rfl⟩))
  k_with "exec While BoolOp cons nil" => k_while (fun _ number digits => WhP number digits) (fun _ number digits => 2 * number.toNat + (if digits = [] then 1 else 0)) "number" "digits"
  k_with "state" => first | exact wh_state1 (menu10v _) (by with_reducible assumption) (by with_reducible assumption) (by with_reducible assumption) (by with_reducible assumption) | exact wh_state2 (menu10v _) (by with_reducible assumption) (by with_reducible assumption) (by with_reducible assumption) (by with_reducible assumption)
  k_with "measure" => first | exact wh_meas1 (menu10v _) (by with_reducible assumption) (by with_reducible assumption) | exact wh_meas2 (menu10v _) (by with_reducible assumption) (by with_reducible assumption)
  k_with "pyIter ref" => k_state (fun pre found => pre.length ≤ found.length ∧ found.length ≤ 2 * pre.length) "found"
  k_with "table" => skip
  refine wpAny_call ?_
  k_dflt cell_enter
  k_steps
  all_goals first
   | (refine hret _ _ _ _ ?_ ?_ (by k_asm) (by first | k_asm | (refine' cb_drop ?cbN ?cbS; (case cbN => k_asm); (case cbS => kcj_all))) <;> first | omega | (simp only [Str.length_append]; omega))

end Mine
end

/- part W_text -/
section
open PySem PySem.W PyProof.Rows
set_option linter.unusedVariables false
set_option maxRecDepth 100000
namespace Mine
theorem len_of_ne {x : Str} (h : (x != Str.ofString "") = true) : 1 ≤ x.length := by
  refine Nat.one_le_iff_ne_zero.mpr fun e => ?_
  have : x = Str.ofString "" := by
    obtain ⟨c⟩ := x
    have e' : c = #[] := Array.eq_empty_of_size_eq_zero e
    subst e'
    decide +kernel
  rw [this] at h
  exact absurd h (by decide +kernel)
set_option maxHeartbeats 8000000 in
theorem c_text {w : World} {mean : ExcName → Option Value} {mg mb : Str → Option Value} {dp un : Nat} {gd : Option (List Code)} {cn : Str} {cs : Scope} {a : Addr} {ccd : Value} {cl : List (Str × Addr)} {outer : List Env} {A₀ : Around} {base h₀ : Heap} {L : Addr} {m : Str → Option Value} {news : List (Addr × Obj)} {s : Shared}
   {l : Addr} {vs : List Value} {ns : List Int} {wd : Int} {tw : Tok} {Q E : Value → Shared → Prop}
   (B : Below A₀ base outer h₀) (F : Fr h₀ L s.heap m) (X : (hd.heap_39 w.params).In h₀) (N : News h₀ L s.heap news) (T : Top hd.view_39 (looseW hd.view_39 [Str.ofString "is_token"]) mean mg mb h₀) (hk : cs.kind = .function)
   (hdp : dp + 6 < recursionLimit) (hun : un + 248 < cLine) (hl : base.IsList l vs.toArray) (hi : IntsAre vs ns) (hls : ns.length ≤ 63) (hw : 1 ≤ wd ∧ wd ≤ 72)
   (hret : ∀ (y : Str) (t : Tok) (h' : Heap) (tk' : Nat), 1 ≤ y.length → y.length ≤ 400 → Fr h₀ L h' m → News h₀ L h' news → Q (.str y t) { s with heap := h', toks := tk' }) :
   wpAny (model Challenge.rw_nm0112_01.row.prog w) (ktrTop dp un gd cn cs L a ccd cl outer) (call (.ref 180) [.ref l, .int wd tw]) Q E s := by
  k_with_none
  w_top off
  (k_with "eval Call" => (k_here; (first | (with_reducible show wpAny _ _ (eval (Expr.Call (Expr.Name (Str.ofString "_law_at") _) _ _ _) _) _ _ _) | (with_reducible show wpAny _ _ (eval (Expr.Call (Expr.Name (Str.ofString "_law_writing") _) _ _ _) _) _ _ _)); k_dflt (refine Call_ ?_)))
  (k_with "call ref" => (k_here; (with_reducible show wpAny _ _ (call (Value.ref 159) [Value.ref _, Value.int _ _]) _ _ _); k_dflt (refine' c_at ?k1 ?k2 ?k3 ?k4 ?k5 ?kK ?kd ?ku ?xl ?xi ?xs ?x0 ?_; (case k1 => k_asm); (case k2 => k_asm); (case k3 => k_asm); (case k4 => k_asm); (case k5 => k_asm); (case kK => first | exact rfl | assumption); (case kd => ktr_room); (case ku => ktr_units); (case xl => k_asm); (case xi => first | assumption | l_ints); (case xs => first | assumption | omega); (case x0 => first | decide | omega); skip); (all_goals ((first | (intro v9 t9 h9 tk9 F9 N9)); (try dsimp only); (try k_fold)))))
  (k_with "call ref" => (k_here; (with_reducible show wpAny _ _ (call (Value.ref 173) [Value.ref _, Value.int _ _]) _ _ _); k_dflt (refine' c_writ ?k1 ?k2 ?k3 ?k4 ?k5 ?kK ?kd ?ku ?xl ?xi ?xs ?xw ?_; (case k1 => k_asm); (case k2 => k_asm); (case k3 => k_asm); (case k4 => k_asm); (case k5 => k_asm); (case kK => first | exact rfl | assumption); (case kd => ktr_room); (case ku => ktr_units); (case xl => k_asm); (case xi => first | assumption | l_ints); (case xs => first | assumption | omega); (case xw => first | assumption | omega); skip); (all_goals ((first | (intro y9 t9 h9 tk9 hv9 hv9' F9 N9)); (try dsimp only); (try k_fold)))))
  (have hfill9 : (Challenge.rw_nm0112_01 = Challenge.rw_nm0112_01) ∧ (hd.heap_39 = hd.heap_39) := by (k_fill; exact ⟨rfl, rfl⟩))
  k_with "pyIter ref" => k_state (fun pre found => found.length = pre.length) "found"
  refine wpAny_call ?_
  k_dflt cell_enter
  k_steps
  all_goals first
   | (refine hret _ _ _ _ ?_ ?_ (by k_asm) (by first | k_asm | (refine' cb_drop ?cbN ?cbS; (case cbN => k_asm); (case cbS => kcj_all))) <;> first | omega | decide +kernel | (exact len_of_ne (by with_reducible assumption)))

end Mine
end

/- part W_whole -/
section
open PySem PySem.W PyProof.Rows
set_option linter.unusedVariables false
set_option maxRecDepth 100000
namespace Mine
abbrev HEXS : Str := Str.ofString "0123456789abcdefABCDEF"
abbrev DECS : Str := Str.ofString "0123456789"
theorem us_iff (n : Nat) (b : Bool) (h : ((⟨#[n]⟩ : Str) == Str.ofString "_") = b) : decide (n = 95) = b := by
  rw [← h]
  have e : (Str.ofString "_") = ⟨#[95]⟩ := by decide +kernel
  rw [e, Bool.eq_iff_iff, decide_eq_true_iff, beq_iff_eq]
  constructor
  · rintro rfl; rfl
  · intro q; injection q with q; injection q with q; injection q
theorem occ_mem {x : Str} {n : Nat} {l : List Nat} (hx : x.cps.toList = l) {b : Bool} (h : (Builtin.Str.occurrences x ⟨#[n]⟩ 0 (Str.length x) 1).isEmpty = b) : decide (n ∈ l) = !b := by
  rw [← hx, ← StrLaws.found_one, h]
theorem hex_find : ∀ n ∈ HEXS.cps.toList, digOf 16 (n : Int) = some (Txt.find HEXS (Txt.lower ⟨#[n]⟩)) ∧ n ≠ 95 := by decide +kernel
theorem dec_find : ∀ n ∈ DECS.cps.toList, digOf 10 (n : Int) = some (Txt.find HEXS (Txt.lower ⟨#[n]⟩)) ∧ n ≠ 95 := by decide +kernel
theorem dig_no {b n : Nat} (h1 : ¬ (48 ≤ n ∧ n < 48 + 10)) (h2 : b = 16 → ¬ (97 ≤ n ∧ n < 97 + 6)) (h3 : b = 16 → ¬ (65 ≤ n ∧ n < 65 + 6)) (hb : b = 10 ∨ b = 16) : digOf (b : Int) (n : Int) = none := by
  unfold digOf
  rw [if_neg (by omega)]
  rcases hb with rfl | rfl
  · rw [if_neg (by omega), if_neg (by omega)]
  · have := h2 rfl; have := h3 rfl
    rw [if_neg (by omega), if_neg (by omega)]
theorem hex_not : ∀ n : Nat, n ∉ HEXS.cps.toList → digOf 16 (n : Int) = none := by
  intro n hn
  have e : HEXS.cps.toList = List.range' 48 10 ++ (List.range' 97 6 ++ List.range' 65 6) := by decide +kernel
  rw [e, List.mem_append, List.mem_append, List.mem_range'_1, List.mem_range'_1, List.mem_range'_1] at hn
  exact dig_no (b := 16) (fun h => hn (.inl h)) (fun _ h => hn (.inr (.inl h))) (fun _ h => hn (.inr (.inr h))) (.inr rfl)
theorem dec_not : ∀ n : Nat, n ∉ DECS.cps.toList → digOf 10 (n : Int) = none := by
  intro n hn
  have e : DECS.cps.toList = List.range' 48 10 := by decide +kernel
  rw [e, List.mem_range'_1] at hn
  exact dig_no (b := 10) hn (fun h => by cases h) (fun h => by cases h) (.inl rfl)
theorem st_us {b : Int} {n : Nat} {pre : List Int} {f : Int} {w : Bool} (hc : ((⟨#[n]⟩ : Str) == Str.ofString "_") = true) (hw : w = true) (hi : wRun b pre = some (f, w)) : wRun b (pre ++ [(n : Int)]) = some (f, false) := by
  have := of_decide_eq_true (us_iff n _ hc)
  subst this hw
  rw [wRun_snoc, hi]; rfl
theorem st_hex {b : Int} {n : Nat} {pre : List Int} {f : Int} {w : Bool} (hb : b = 16) (h : (Builtin.Str.occurrences HEXS ⟨#[n]⟩ 0 (Str.length HEXS) 1).isEmpty = false) (hi : wRun b pre = some (f, w)) :
    wRun b (pre ++ [(n : Int)]) = some (f * b + Txt.find HEXS (Txt.lower ⟨#[n]⟩), true) := by
  subst hb
  have := hex_find n (by simpa using occ_mem rfl h)
  rw [wRun_snoc, hi]
  simp only [wStep, this.1]
  rw [if_neg (by omega)]
theorem st_dec {b : Int} {n : Nat} {pre : List Int} {f : Int} {w : Bool} (hb : b = 10 ∨ b = 16) (hb' : b ≠ 16) (h : (Builtin.Str.occurrences DECS ⟨#[n]⟩ 0 (Str.length DECS) 1).isEmpty = false) (hi : wRun b pre = some (f, w)) :
    wRun b (pre ++ [(n : Int)]) = some (f * b + Txt.find HEXS (Txt.lower ⟨#[n]⟩), true) := by
  obtain rfl : b = 10 := by omega
  have := dec_find n (by simpa using occ_mem rfl h)
  rw [wRun_snoc, hi]
  simp only [wStep, this.1]
  rw [if_neg (by omega)]
theorem wholeV_none {b : Int} {l : List Int} (h : wRun b l = none) : wholeV b l = none := by simp [wholeV, h]
theorem e_us {b : Int} {x : Str} {n : Nat} {pre post : List Int} {f : Int} {w : Bool} (he : KStt.codes x = pre ++ (n : Int) :: post) (hc : ((⟨#[n]⟩ : Str) == Str.ofString "_") = true) (hw : w = false) (hi : wRun b pre = some (f, w)) :
    wholeV b (KStt.codes x) = none := by
  rw [he, wholeV_none (wRun_none _ _ _ _ ?_)]
  have := of_decide_eq_true (us_iff n _ hc)
  subst this hw
  rw [hi]; rfl
theorem e_hex {b : Int} {x : Str} {n : Nat} {pre post : List Int} {f : Int} {w : Bool} (he : KStt.codes x = pre ++ (n : Int) :: post) (hb : b = 16) (hc : ((⟨#[n]⟩ : Str) == Str.ofString "_") = false)
    (h : (Builtin.Str.occurrences HEXS ⟨#[n]⟩ 0 (Str.length HEXS) 1).isEmpty = true) (hi : wRun b pre = some (f, w)) :
    wholeV b (KStt.codes x) = none := by
  rw [he, wholeV_none (wRun_none _ _ _ _ ?_)]
  subst hb
  have h1 := of_decide_eq_false (us_iff n _ hc)
  have h2 := hex_not n (by simpa using occ_mem rfl h)
  rw [hi]
  simp only [wStep, h2]
  rw [if_neg (by omega)]
theorem e_dec {b : Int} {x : Str} {n : Nat} {pre post : List Int} {f : Int} {w : Bool} (he : KStt.codes x = pre ++ (n : Int) :: post) (hb : b = 10 ∨ b = 16) (hb' : b ≠ 16) (hc : ((⟨#[n]⟩ : Str) == Str.ofString "_") = false)
    (h : (Builtin.Str.occurrences DECS ⟨#[n]⟩ 0 (Str.length DECS) 1).isEmpty = true) (hi : wRun b pre = some (f, w)) :
    wholeV b (KStt.codes x) = none := by
  rw [he, wholeV_none (wRun_none _ _ _ _ ?_)]
  obtain rfl : b = 10 := by omega
  have h1 := of_decide_eq_false (us_iff n _ hc)
  have h2 := dec_not n (by simpa using occ_mem rfl h)
  rw [hi]
  simp only [wStep, h2]
  rw [if_neg (by omega)]
theorem no_idx {n : Nat} (h2x : (Builtin.Str.occurrences HEXS (Txt.lower ⟨#[n]⟩) 0 (Str.length HEXS) 1).isEmpty = true) (hf : Txt.find HEXS (Txt.lower ⟨#[n]⟩) = -1)
    (h : (Builtin.Str.occurrences HEXS ⟨#[n]⟩ 0 (Str.length HEXS) 1).isEmpty = false ∨ (Builtin.Str.occurrences DECS ⟨#[n]⟩ 0 (Str.length DECS) 1).isEmpty = false) : False := by
  rcases h with h | h
  · have := hex_find n (by simpa using occ_mem rfl h)
    have := digOf_bound (.inr rfl) this.1
    omega
  · have := dec_find n (by simpa using occ_mem rfl h)
    have := digOf_bound (.inl rfl) this.1
    omega
theorem v_some {b : Int} {l : List Int} {f : Int} {w : Bool} (hi : wRun b l = some (f, w)) (hw : w = true) : wholeV b l = some f := by
  subst hw; simp only [wholeV, hi]
theorem e_noneW {b : Int} {l : List Int} {f : Int} {w : Bool} (hi : wRun b l = some (f, w)) (hw : w = false) : wholeV b l = none := by
  subst hw; simp only [wholeV, hi]

set_option maxHeartbeats 8000000 in
theorem c_whole {w : World} {mean : ExcName → Option Value} {mg mb : Str → Option Value} {dp un : Nat} {gd : Option (List Code)} {cn : Str} {cs : Scope} {a : Addr} {ccd : Value} {cl : List (Str × Addr)} {outer : List Env} {A₀ : Around} {base h₀ : Heap} {L : Addr} {m : Str → Option Value} {news : List (Addr × Obj)} {s : Shared}
   {x : Str} {tx : Tok} {b : Int} {tb : Tok} {Q E : Value → Shared → Prop}
   (B : Below A₀ base outer h₀) (F : Fr h₀ L s.heap m) (X : (hd.heap_39 w.params).In h₀) (N : News h₀ L s.heap news) (T : Top hd.view_39 (looseW hd.view_39 [Str.ofString "is_token"]) mean mg mb h₀) (hk : cs.kind = .function)
   (hdp : dp + 1 < recursionLimit) (hun : un + 208 < cLine) (hb : b = 10 ∨ b = 16)
   (hN : ∀ (h' : Heap) (tk' : Nat), wholeV b (KStt.codes x) = none → Fr h₀ L h' m → News h₀ L h' news → Q .none { s with heap := h', toks := tk' })
   (hS : ∀ (n : Int) (t : Tok) (h' : Heap) (tk' : Nat), wholeV b (KStt.codes x) = some n → Fr h₀ L h' m → News h₀ L h' news → Q (.int n t) { s with heap := h', toks := tk' }) :
   wpAny (model Challenge.rw_nm0112_01.row.prog w) (ktrTop dp un gd cn cs L a ccd cl outer) (call (.ref 124) [.str x tx, .int b tb]) Q E s := by
  k_with_none
  w_top off
  (have hfill9 : (Challenge.rw_nm0112_01 = Challenge.rw_nm0112_01) ∧ (hd.heap_39 = hd.heap_39) := by (k_fill; exact ⟨rfl, rfl⟩))
  k_with "pyIter str" => k_state (fun pre found was => wRun b pre = some (found, was)) "found" "was_digit"
  k_with "state" => first | exact st_us (by with_reducible assumption) (by with_reducible assumption) (by with_reducible assumption) | exact st_hex (by with_reducible assumption) (by with_reducible assumption) (by with_reducible assumption) | exact st_dec (by with_reducible assumption) (by with_reducible assumption) (by with_reducible assumption) (by with_reducible assumption)
  refine wpAny_call ?_
  k_dflt cell_enter
  k_steps
  all_goals (first
    | (exfalso; exact no_idx (by with_reducible assumption) (by with_reducible assumption) (by first | exact Or.inl (by with_reducible assumption) | exact Or.inr (by with_reducible assumption)))
    | (refine hS _ _ _ _ ?_ (by k_asm) (by first | k_asm | (refine' cb_drop ?cbN ?cbS; (case cbN => k_asm); (case cbS => kcj_all))); exact v_some (by with_reducible assumption) (by with_reducible assumption))
    | (refine hN _ _ ?_ (by k_asm) (by first | k_asm | (refine' cb_drop ?cbN ?cbS; (case cbN => k_asm); (case cbS => kcj_all)));
       first
        | exact e_us (by with_reducible assumption) (by with_reducible assumption) (by with_reducible assumption) (by with_reducible assumption)
        | exact e_hex (by with_reducible assumption) (by with_reducible assumption) (by with_reducible assumption) (by with_reducible assumption) (by with_reducible assumption)
        | exact e_dec (by with_reducible assumption) (by with_reducible assumption) (by with_reducible assumption) (by with_reducible assumption) (by with_reducible assumption) (by with_reducible assumption)
        | exact e_noneW (by with_reducible assumption) (by with_reducible assumption)))

end Mine
end

/- part W_num -/
section
open PySem PySem.W PyProof.Rows
set_option linter.unusedVariables false
set_option maxRecDepth 100000
namespace Mine
def isPM (x : Str) : Bool := [Str.ofString "+", Str.ofString "-"].any fun p => p == Txt.slice x none (some 1)
def bodyOf (x : Str) : Str := if isPM x = true then Txt.slice x (some 1) none else x
def wholeOf (y : Str) : Option Int := if (Txt.slice y none (some 2) == Str.ofString "0x") = true then wholeV 16 (KStt.codes (Txt.slice y (some 2) none)) else wholeV 10 (KStt.codes y)
/-- what number_in gives -/
def numS (x : Str) : Option Int := match wholeOf (bodyOf x) with
  | none => none
  | some n => some (if (Txt.slice x none (some 1) == Str.ofString "-") = true then -n else n)
theorem num_none {x y : Str} (hb : bodyOf x = y) (h : wholeOf y = none) : numS x = none := by unfold numS; rw [hb, h]
theorem num_neg {x y : Str} {n : Int} (hb : bodyOf x = y) (h : wholeOf y = some n) (hm : (Txt.slice x none (some 1) == Str.ofString "-") = true) : numS x = some (-n) := by unfold numS; rw [hb, h]; show some (if _ then _ else _) = _; rw [if_pos hm]
theorem num_pos {x y : Str} {n : Int} (hb : bodyOf x = y) (h : wholeOf y = some n) (hm : (Txt.slice x none (some 1) == Str.ofString "-") = false) : numS x = some n := by unfold numS; rw [hb, h]; show some (if _ then _ else _) = _; rw [if_neg (by rw [hm]; exact Bool.false_ne_true)]
theorem body1 {x : Str} (h : ([Str.ofString "+", Str.ofString "-"].any fun p => p == Txt.slice x none (some 1)) = true) : bodyOf x = Txt.slice x (some 1) none := if_pos h
theorem body0 {x : Str} (h : ([Str.ofString "+", Str.ofString "-"].any fun p => p == Txt.slice x none (some 1)) = false) : bodyOf x = x := if_neg (by unfold isPM; rw [h]; exact Bool.false_ne_true)
theorem whole1 {y : Str} {o : Option Int} (h : (Txt.slice y none (some 2) == Str.ofString "0x") = true) (hw : wholeV 16 (KStt.codes (Txt.slice y (some 2) none)) = o) : wholeOf y = o := (if_pos h).trans hw
theorem whole0 {y : Str} {o : Option Int} (h : (Txt.slice y none (some 2) == Str.ofString "0x") = false) (hw : wholeV 10 (KStt.codes y) = o) : wholeOf y = o := (if_neg (by rw [h]; exact Bool.false_ne_true)).trans hw
set_option maxHeartbeats 8000000 in
theorem c_num {w : World} {mean : ExcName → Option Value} {mg mb : Str → Option Value} {dp un : Nat} {gd : Option (List Code)} {cn : Str} {cs : Scope} {a : Addr} {ccd : Value} {cl : List (Str × Addr)} {outer : List Env} {A₀ : Around} {base h₀ : Heap} {L : Addr} {m : Str → Option Value} {news : List (Addr × Obj)} {s : Shared}
   {x : Str} {tx : Tok} {Q E : Value → Shared → Prop}
   (B : Below A₀ base outer h₀) (F : Fr h₀ L s.heap m) (X : (hd.heap_39 w.params).In h₀) (N : News h₀ L s.heap news) (T : Top hd.view_39 (looseW hd.view_39 [Str.ofString "is_token"]) mean mg mb h₀) (hk : cs.kind = .function)
   (hdp : dp + 2 < recursionLimit) (hun : un + 216 < cLine) (hx : x.length ≤ 400)
   (hN : ∀ (h' : Heap) (tk' : Nat), numS x = none → Fr h₀ L h' m → News h₀ L h' news → Q .none { s with heap := h', toks := tk' })
   (hS : ∀ (n : Int) (t : Tok) (h' : Heap) (tk' : Nat), numS x = some n → Fr h₀ L h' m → News h₀ L h' news → Q (.int n t) { s with heap := h', toks := tk' }) :
   wpAny (model Challenge.rw_nm0112_01.row.prog w) (ktrTop dp un gd cn cs L a ccd cl outer) (call (.ref 131) [.str x tx]) Q E s := by
  k_with_none
  w_top off
  (k_with "eval Call" => (k_here; (first | (with_reducible show wpAny _ _ (eval (Expr.Call (Expr.Name (Str.ofString "whole_of") _) _ _ _) _) _ _ _)); k_dflt (refine Call_ ?_)))
  (k_with "call ref" => (k_here; (with_reducible show wpAny _ _ (call (Value.ref 124) [Value.str _ _, Value.int _ _]) _ _ _); k_dflt (refine' c_whole ?k1 ?k2 ?k3 ?k4 ?k5 ?kK ?kd ?ku ?xb ?_ ?_; (case k1 => k_asm); (case k2 => k_asm); (case k3 => k_asm); (case k4 => k_asm); (case k5 => k_asm); (case kK => first | exact rfl | assumption); (case kd => ktr_room); (case ku => ktr_units); (case xb => first | exact Or.inl rfl | exact Or.inr rfl); skip); (all_goals ((first | (intro n9 t9 h9 tk9 hR9 F9 N9) | (intro h9 tk9 hR9 F9 N9)); (try dsimp only); (try k_fold)))))
  (have hfill9 : (Challenge.rw_nm0112_01 = Challenge.rw_nm0112_01) ∧ (hd.heap_39 = hd.heap_39) := by (k_fill; exact ⟨rfl, rfl⟩))
  refine wpAny_call ?_
  k_dflt cell_enter
  k_steps
  all_goals (first
    | (refine hS _ _ _ _ ?_ (by k_asm) (by first | k_asm | (refine' cb_drop ?cbN ?cbS; (case cbN => k_asm); (case cbS => kcj_all))); first | exact num_neg (by first | exact body1 (by with_reducible assumption) | exact body0 (by with_reducible assumption)) (by first | exact whole1 (by with_reducible assumption) (by with_reducible assumption) | exact whole0 (by with_reducible assumption) (by with_reducible assumption)) (by with_reducible assumption) | exact num_pos (by first | exact body1 (by with_reducible assumption) | exact body0 (by with_reducible assumption)) (by first | exact whole1 (by with_reducible assumption) (by with_reducible assumption) | exact whole0 (by with_reducible assumption) (by with_reducible assumption)) (by with_reducible assumption))
    | (refine hN _ _ ?_ (by k_asm) (by first | k_asm | (refine' cb_drop ?cbN ?cbS; (case cbN => k_asm); (case cbS => kcj_all))); exact num_none (by first | exact body1 (by with_reducible assumption) | exact body0 (by with_reducible assumption)) (by first | exact whole1 (by with_reducible assumption) (by with_reducible assumption) | exact whole0 (by with_reducible assumption) (by with_reducible assumption))))

end Mine
end

/- part W_comp -/
section
open PySem PySem.W PyProof.Rows
set_option linter.unusedVariables false
set_option maxRecDepth 100000
namespace Mine
/-- the source of a comprehension with a test is a text -/
def StrSrc (prog : Program) (w : World) (A : Around) (h₀ : Heap) (L : Addr) (m : Str → Option Value) (env : Env) (ct elt : PySem.Expr) (x : Str) (scope : Scope) (cl : List (Str × Addr)) (Q : Value → Shared → Prop) (xv : Value) (s₁ : Shared) : Prop :=
  ∃ xt tx news, xv = .str xt tx ∧ A.handled = none ∧ Fr h₀ L s₁.heap m ∧ News h₀ L s₁.heap news ∧ xt.cps.size ≤ sizeLine ∧
    ∀ g, LCt.CompRestT prog w A h₀ L m env ct elt x scope cl { s₁ with heap := g } (fun _ => True) (SignAt xt) (LCg.FinE h₀ L m { s₁ with heap := g } Q) xt.cps.size 0 [] news
section
variable {prog : Program} {w : World} {A : Around} {E : Value → Shared → Prop} {s : Shared} {h₀ : Heap} {L : Addr} {m : Str → Option Value} {env : Env}
theorem StrSrc.intro {ct elt : PySem.Expr} {x : Str} {scope : Scope} {cl : List (Str × Addr)} {Q : Value → Shared → Prop} {xt : Str} {tx : Tok} {news : List (Addr × Obj)} {s₁ : Shared}
    (hh : A.handled = none) (F : Fr h₀ L s₁.heap m) (N : News h₀ L s₁.heap news) (hsz : xt.length ≤ 400)
    (h : ∀ g, LCt.CompRestT prog w A h₀ L m env ct elt x scope cl { s₁ with heap := g } (fun _ => True) (SignAt xt) (LCg.FinE h₀ L m { s₁ with heap := g } Q) xt.cps.size 0 [] news) :
    StrSrc prog w A h₀ L m env ct elt x scope cl Q (.str xt tx) s₁ := ⟨xt, tx, news, rfl, hh, F, N, by
      rw [PySem.sizeLine_eq]
      have : xt.cps.size = xt.length := rfl
      omega, h⟩
theorem comp_str {ct elt iter : PySem.Expr} {x : Str} {px : Pos} {scope : Scope} {cl : List (Str × Addr)} {pos : Pos} {Q : Value → Shared → Prop} (F₀ : Fr h₀ L s.heap m)
    (hclos : closureFor scope env = pure cl) (hcell : ∀ y ∈ scope.names, y.2 ≠ .cell) (hkind : scope.kind = .function)
    (hnames : ∀ y ∈ scope.names, y.2 = .local → scope.names.lookup y.1 = some .local) (hx : scope.names.lookup x = some .local)
    (h : wpAny (model prog w) A (eval iter env) (StrSrc prog w A h₀ L m env ct elt x scope cl Q) E s)
    (hs : ∀ x, foldedSetIterable iter env x = pure x) :
    wpAny (model prog w) A (eval (.ListComp elt [⟨.Name x px, iter, [ct], 0⟩] scope pos) env) Q E s := by
  rw [eval_ListComp]
  refine wpAny_comprehension_free (use := none) rfl hs hclos hkind hnames (wpAny_mono h (fun xv s₁ h₁ => ?_) fun _ _ e => e)
  obtain ⟨xt, tx, news, rfl, hh, F, N, hsz, R⟩ := h₁
  have key : ∀ (ty : String) (o : Obj), o = { cls := .type ty, data := .fields #[.str xt tx, .int 0 0] } → o.isFreed = false →
      Walks prog w A s₁.heap.objs.size [s₁.heap.objs.size] [s₁.heap.objs.size] xt.cps.size (SignAt xt) (fun i h => h.IsStrIter s₁.heap.objs.size ty xt tx i) →
      wpAny (model prog w) A (newList []) (fun acc s₃ => wpAny (model prog w) A (newFunctionEnv scope env.globals cl [] env.qual none .none (some env)) (fun cenv s₄ =>
        codeAny (model prog w) A (.compStart (.ListComp elt [⟨.Name x px, iter, [ct], 0⟩] scope pos) 0 (.ref s₁.heap.objs.size) acc { cenv with scope := relabel scope env }) (compPost (model prog w) A E none Q acc cenv.locals) s₄) E s₃) E { s₁ with heap := s₁.heap.push o } := by
    intro ty o ho hfree W
    refine LCt.block_T W hsz (fun i h st => by obtain ⟨o, e, _⟩ := st; exact ⟨o, e⟩) (fun i h h' ob nw st e1 e2 _ _ _ => ?_) hcell hkind hx
      (by subst ho; exact ⟨_, Heap.get?_push_size _ rfl, rfl, rfl⟩) (fun b hb => ?_) (F.push o) (N.grown fun _ _ e => Heap.get?_push_of_some _ e) (Nat.ne_of_lt F.ns.lt) (next_is_new F)
      (fun p hp => Nat.ne_of_lt (Heap.lt_size (N p hp).1)) trivial (R _) ?_
    · obtain ⟨o', e, r⟩ := st
      have : o' = ob := by rw [e] at e1; exact Option.some.inj e1
      subst this
      exact ⟨o', e2, r⟩
    · rw [List.mem_singleton.mp hb]
      show s₁.heap.objs.size < (s₁.heap.push _).objs.size
      rw [Heap.size_push]; exact Nat.lt_succ_self _
    · intro D C h tk m' ys news' F' N' o1 hn hC₀ hD₀ hCL hDL hCD offC fin
      refine ⟨m', hn, fun h'' hs'' => fin D h'' tk (F'.change hs'' hCL hC₀) (fun p hp => ?_) o1⟩
      refine ⟨hs''.extBut _ _ ?_ (N' p hp).1, (N' p hp).2⟩
      rcases List.mem_cons.mp hp with e | hp
      · rw [e]; exact Ne.symm hCD
      · exact offC p hp
  cases ha : xt.cps.all (· < 128) with
  | false => exact wpAny_pyIter_wide ha (key "str_iterator" _ rfl rfl (Walks.strWide hh _ xt tx))
  | true => exact wpAny_pyIter_ascii ha (key "str_ascii_iterator" _ rfl rfl (Walks.strAscii hh _ xt tx))

/-- l is what the turns make of the text's signs -/
def IsFold (G : List Int → Nat → List Int) (x : Str) (l : List Int) : Prop := l = x.cps.toList.foldl G []
theorem fold_len {G : List Int → Nat → List Int} (hg : ∀ l n, (G l n).length ≤ l.length + 1) : ∀ (cs : List Nat) (l : List Int), (cs.foldl G l).length ≤ l.length + cs.length
  | [], l => Nat.le_refl _
  | c :: r, l => by
    rw [List.foldl_cons, List.length_cons]
    have h1 := fold_len hg r (G l c)
    have h2 := hg l c
    omega
theorem rest_str {ct elt : PySem.Expr} {x : Str} {scope : Scope} {cl : List (Str × Addr)} {S : List (Addr × Obj) → Prop} {Fin : List Value → List (Addr × Obj) → Prop} {news : List (Addr × Obj)} {xt : Str} (G : List Int → Nat → List Int)
    (turn : ∀ (n : Nat) t I oI C oC D m₂ ys l h tk (E' : Value → Shared → Prop), IntsAre ys l → LCg.NsObj oC m₂ → m₂ x = some (.str ⟨#[n]⟩ t) → Fr h₀ L h m → News h₀ L h ((I, oI) :: (C, oC) :: (D, LCg.lst ys) :: news) → LCg.Off3 I C D news → ((@Ne Nat I C) ∧ (@Ne Nat I D) ∧ (@Ne Nat C D)) → KPfMark →
      wpAny (model prog w) A (isTrue ct (compEnvC scope cl C env) (eval ct (compEnvC scope cl C env))) (fun b s' => if b = true then wpAny (model prog w) A (eval elt (compEnvC scope cl C env)) (LCg.CompEnd h₀ L m { s with heap := h, toks := tk } I oI C oC D (LCg.lst ys) S (fun y news' => KCiEl news l (G l n) y news')) E' s'
        else LCg.CompEnd h₀ L m { s with heap := h, toks := tk } I oI C oC D (LCg.lst ys) S (fun _ news' => KCiNo news l (G l n) news') Value.none s') E' { s with heap := h, toks := tk })
    (fin : ∀ ys l, IsFold G xt l → l.length ≤ xt.length → IntsAre ys l → Fin ys news) (hg : ∀ l n, (G l n).length ≤ l.length + 1) : LCt.CompRestT prog w A h₀ L m env ct elt x scope cl s S (SignAt xt) Fin xt.cps.size 0 [] news := by
  have go : ∀ (j i : Nat) (ys : List Value), i + j = xt.cps.size → IntsAre ys ((xt.cps.toList.take i).foldl G []) → LCt.CompRestT prog w A h₀ L m env ct elt x scope cl s S (SignAt xt) Fin j i ys news := by
    intro j
    induction j with
    | zero =>
      intro i ys hi hy
      have e : i = xt.cps.toList.length := by rw [Array.length_toList]; omega
      rw [e, List.take_length] at hy
      refine LCt.CompRestT.zero (fin ys _ rfl ?_ hy)
      have := fold_len hg xt.cps.toList []
      rw [List.length_nil] at this
      have e2 : xt.length = xt.cps.toList.length := (Array.length_toList).symm
      omega
    | succ j ih =>
      intro i ys hi hy
      refine LCt.CompRestT.succ ?_
      intro v I oI C oC D m₂ h tk E' hv hC hx F N off ne
      obtain ⟨n, t, hn, hv'⟩ := hv
      rw [hv'] at hx
      have hs : (xt.cps.toList.take (i + 1)).foldl G [] = G ((xt.cps.toList.take i).foldl G []) n := by
        have hn' : xt.cps.toList[i]? = some n := by rw [Array.getElem?_toList]; exact hn
        rw [List.take_add_one, hn']; simp
      refine wpAny_mono (turn n t I oI C oC D m₂ ys _ h tk E' hy hC hx F N off ne True.intro) (fun b s₂ hq => ?_) fun _ _ e => e
      cases b with
      | true =>
        simp only [if_true] at hq ⊢
        refine wpAny_mono hq (fun y s₃ hr => ?_) fun _ _ e => e
        obtain ⟨h', tk', nw, e, F', N', off', hS, hnw, a, t', hy', hr'⟩ := hr
        rw [hnw] at N' off' hS
        refine ⟨h', tk', news, e, F', N', off', hS, ?_⟩
        rw [hy']
        refine ih (i + 1) _ (by omega) ?_
        rw [hs, hr']
        exact IntsAre.append hy (.cons a t' .nil)
      | false =>
        simp only [Bool.false_eq_true, if_false] at hq ⊢
        obtain ⟨h', tk', nw, e, F', N', off', hS, hnw, hr'⟩ := hq
        rw [hnw] at N' off' hS
        refine ⟨h', tk', news, e, F', N', off', hS, ih (i + 1) _ (by omega) ?_⟩
        rw [hs, hr']
        exact hy
  exact go xt.cps.size 0 [] (by omega) (by simp only [List.take_zero, List.foldl_nil]; exact .nil)
end
end Mine
end

/- part Pr -/
section
open PySem PySem.W PyProof.Rows
set_option linter.unusedVariables false
set_option maxRecDepth 100000
namespace Mine
abbrev LOWD : Str := Str.ofString "0123456789abcdef"
abbrev UPD : Str := Str.ofString "0123456789ABCDEF"
def dv (n : Nat) : Int := if Txt.find UPD ⟨#[n]⟩ > Txt.find LOWD ⟨#[n]⟩ then Txt.find UPD ⟨#[n]⟩ else Txt.find LOWD ⟨#[n]⟩
def plainG (l : List Int) (n : Nat) : List Int := if n = 95 then l else l ++ [dv n]
theorem plainG_len (l : List Int) (n : Nat) : (plainG l n).length ≤ l.length + 1 := by unfold plainG; split <;> simp
theorem find_none {x : Str} {n : Nat} (h : n ∉ x.cps.toList) : Txt.find x ⟨#[n]⟩ = -1 := by
  have := StrLaws.found_one x n
  rw [decide_eq_false h] at this
  unfold Txt.find
  cases hh : Builtin.Str.occurrences x ⟨#[n]⟩ 0 x.length 1 with
  | nil => rfl
  | cons a r => rw [hh] at this; cases this
theorem dv_in : ∀ n ∈ LOWD.cps.toList ++ UPD.cps.toList, dv n = (digOf 16 (n : Int)).getD (-1) := by decide +kernel
theorem dv_eq (n : Nat) : dv n = (digOf 16 (n : Int)).getD (-1) := by
  by_cases h : n ∈ LOWD.cps.toList ++ UPD.cps.toList
  · exact dv_in n h
  · have h1 : n ∉ LOWD.cps.toList := fun q => h (List.mem_append_left _ q)
    have h2 : n ∉ UPD.cps.toList := fun q => h (List.mem_append_right _ q)
    unfold dv
    rw [find_none h1, find_none h2]
    have e1 : LOWD.cps.toList = List.range' 48 10 ++ List.range' 97 6 := by decide +kernel
    have e2 : UPD.cps.toList = List.range' 48 10 ++ List.range' 65 6 := by decide +kernel
    rw [e1, List.mem_append, List.mem_range'_1, List.mem_range'_1] at h1
    rw [e2, List.mem_append, List.mem_range'_1, List.mem_range'_1] at h2
    rw [show digOf 16 (n : Int) = none from dig_no (b := 16) (fun q => h1 (.inl q)) (fun _ q => h1 (.inr q)) (fun _ q => h2 (.inr q)) (.inr rfl)]
    rfl
theorem digOf_dv {b : Int} (hb : b = 10 ∨ b = 16) (n : Nat) : digOf b (n : Int) = if 0 ≤ dv n ∧ dv n < b then some (dv n) else none := by
  rw [dv_eq]
  unfold digOf
  rcases hb with rfl | rfl <;> (repeat' split) <;> simp_all <;> omega
theorem snoc_ind {α : Type} {P : List α → Prop} (h0 : P []) (h1 : ∀ l a, P l → P (l ++ [a])) : ∀ l, P l := by
  intro l
  have go : ∀ (n : Nat) (l : List α), l.length = n → P l := by
    intro n
    induction n with
    | zero => intro l hl; rw [List.eq_nil_of_length_eq_zero hl]; exact h0
    | succ n ih =>
      intro l hl
      have hne : l ≠ [] := by intro e; rw [e] at hl; cases hl
      rw [← List.dropLast_concat_getLast hne]
      exact h1 _ _ (ih _ (by rw [List.length_dropLast]; omega))
  exact go _ l rfl
def pl (cs : List Nat) : List Int := cs.foldl plainG []
theorem pl_snoc (cs : List Nat) (c : Nat) : pl (cs ++ [c]) = plainG (pl cs) c := by simp [pl, List.foldl_append]
def val (b : Int) (l : List Int) : Int := l.foldl (fun a d => a * b + d) 0
theorem val_snoc (b : Int) (l : List Int) (d : Int) : val b (l ++ [d]) = val b l * b + d := by simp [val, List.foldl_append]
def endD (cs : List Nat) : Bool := match cs.getLast? with | some c => !(c == 95) | none => false
theorem endD_snoc (cs : List Nat) (c : Nat) : endD (cs ++ [c]) = !(c == 95) := by simp [endD]
def NoUU (cs : List Nat) : Prop := ∀ i, cs[i]? = some 95 → cs[i+1]? ≠ some 95
structure Okd (b : Int) (cs : List Nat) : Prop where
  dig : ∀ a ∈ pl cs, 0 ≤ a ∧ a < b
  st : cs[0]? ≠ some 95
  uu : NoUU cs
theorem okd_snoc (b : Int) (cs : List Nat) (c : Nat) : Okd b (cs ++ [c]) ↔ Okd b cs ∧ (c = 95 → endD cs = true) ∧ (c ≠ 95 → 0 ≤ dv c ∧ dv c < b) := by
  constructor
  · rintro ⟨h1, h2, h3⟩
    rw [pl_snoc] at h1
    refine ⟨⟨fun a ha => h1 a ?_, fun q => h2 ?_, fun i q r => h3 i ?_ ?_⟩, fun hc => ?_, fun hc => h1 _ ?_⟩
    · unfold plainG; split
      · exact ha
      · exact List.mem_append_left _ ha
    · have hl : 0 < cs.length := by
        rcases Nat.lt_or_ge 0 cs.length with h | h
        · exact h
        · rw [List.getElem?_eq_none h] at q; cases q
      rw [List.getElem?_append_left hl]; exact q
    · have hl : i < cs.length := by
        rcases Nat.lt_or_ge i cs.length with h | h
        · exact h
        · rw [List.getElem?_eq_none h] at q; cases q
      rw [List.getElem?_append_left hl]; exact q
    · have hl : i + 1 < cs.length := by
        rcases Nat.lt_or_ge (i + 1) cs.length with h | h
        · exact h
        · rw [List.getElem?_eq_none h] at r; cases r
      rw [List.getElem?_append_left hl]; exact r
    · subst hc
      rcases List.eq_nil_or_concat cs with rfl | ⟨cs', d, rfl⟩
      · exact absurd rfl h2
      · rw [List.concat_eq_append] at *
        rw [endD_snoc]
        cases hd : d == 95 with
        | false => rfl
        | true =>
          exfalso
          have hd' := beq_iff_eq.mp hd
          subst hd'
          refine h3 cs'.length ?_ ?_
          · simp
          · simp
    · unfold plainG; rw [if_neg hc]; simp
  · rintro ⟨⟨h1, h2, h3⟩, h4, h5⟩
    refine ⟨fun a ha => ?_, fun q => ?_, fun i q r => ?_⟩
    · rw [pl_snoc] at ha
      unfold plainG at ha
      split at ha
      · exact h1 a ha
      · rename_i hc
        rcases List.mem_append.mp ha with ha | ha
        · exact h1 a ha
        · rw [List.mem_singleton.mp ha]; exact h5 hc
    · rcases Nat.lt_or_ge 0 cs.length with h | h
      · rw [List.getElem?_append_left h] at q; exact h2 q
      · have : cs = [] := List.eq_nil_of_length_eq_zero (by omega)
        subst this
        have hc : c = 95 := by simpa using q
        have := h4 hc
        cases this
    · rcases Nat.lt_or_ge (i + 1) cs.length with h | h
      · rw [List.getElem?_append_left h] at r
        rw [List.getElem?_append_left (by omega)] at q
        exact h3 i q r
      · rw [List.getElem?_append_right h] at r
        have hi : i + 1 = cs.length := by
          rcases Nat.lt_or_ge cs.length (i + 1) with h' | h'
          · rw [List.getElem?_eq_none (by simp; omega)] at r; cases r
          · omega
        have hc : c = 95 := by
          rw [hi] at r; simpa using r
        have hE := h4 hc
        rw [List.getElem?_append_left (by omega)] at q
        unfold endD at hE
        rw [List.getLast?_eq_getElem?] at hE
        have hi' : cs.length - 1 = i := by omega
        rw [hi', q] at hE
        cases hE
theorem run_eq {b : Int} (hb : b = 10 ∨ b = 16) : ∀ cs : List Nat, (Okd b cs → wRun b (cs.map fun (c : Nat) => (c : Int)) = some (val b (pl cs), endD cs)) ∧ (¬ Okd b cs → wRun b (cs.map fun (c : Nat) => (c : Int)) = none) := by
  refine snoc_ind ?_ ?_
  · refine ⟨fun _ => rfl, fun h => absurd ⟨fun a ha => (nomatch ha), fun q => (nomatch q), fun i q => (nomatch q)⟩ h⟩
  · rintro cs c ⟨ih1, ih2⟩
    rw [List.map_append, List.map_singleton, wRun_snoc]
    by_cases hO : Okd b cs
    · rw [ih1 hO]
      simp only [wStep]
      by_cases hc : c = 95
      · subst hc
        rw [if_pos (by decide)]
        have e1 : pl (cs ++ [95]) = pl cs := by rw [pl_snoc]; rfl
        have e2 : endD (cs ++ [95]) = false := by rw [endD_snoc]; rfl
        cases hE : endD cs with
        | true =>
          refine ⟨fun _ => by rw [e1, e2]; rfl, fun h => absurd ?_ h⟩
          rw [okd_snoc]
          exact ⟨hO, fun _ => hE, fun h => absurd rfl h⟩
        | false =>
          refine ⟨fun h => ?_, fun _ => rfl⟩
          rw [okd_snoc] at h
          rw [h.2.1 rfl] at hE; cases hE
      · rw [if_neg (by omega), digOf_dv hb]
        have e1 : pl (cs ++ [c]) = pl cs ++ [dv c] := by rw [pl_snoc]; unfold plainG; rw [if_neg hc]
        have e2 : endD (cs ++ [c]) = true := by rw [endD_snoc]; simp [hc]
        by_cases hd : 0 ≤ dv c ∧ dv c < b
        · rw [if_pos hd]
          refine ⟨fun _ => by rw [e1, e2, val_snoc], fun h => absurd ?_ h⟩
          rw [okd_snoc]
          exact ⟨hO, fun q => absurd q hc, fun _ => hd⟩
        · rw [if_neg hd]
          refine ⟨fun h => ?_, fun _ => rfl⟩
          rw [okd_snoc] at h
          exact absurd (h.2.2 hc) hd
    · rw [ih2 hO]
      refine ⟨fun h => ?_, fun _ => rfl⟩
      rw [okd_snoc] at h
      exact absurd h.1 hO
theorem whole_ok {b : Int} (hb : b = 10 ∨ b = 16) {cs : List Nat} (h : Okd b cs) (he : endD cs = true) : wholeV b (cs.map fun (c : Nat) => (c : Int)) = some (val b (pl cs)) := by
  unfold wholeV; rw [(run_eq hb cs).1 h, he]
theorem whole_bad {b : Int} (hb : b = 10 ∨ b = 16) {cs : List Nat} (h : ¬ (Okd b cs ∧ endD cs = true)) : wholeV b (cs.map fun (c : Nat) => (c : Int)) = none := by
  unfold wholeV
  by_cases hO : Okd b cs
  · rw [(run_eq hb cs).1 hO]
    cases he : endD cs with
    | true => exact absurd ⟨hO, he⟩ h
    | false => rfl
  · rw [(run_eq hb cs).2 hO]
theorem range_sum (b : Int) : ∀ l : List Int, ((List.range l.length).map fun i => l.getD i 0 * b ^ (l.length - 1 - i)).sum = val b l := by
  refine snoc_ind rfl ?_
  intro l d ih
  rw [val_snoc, ← ih, List.length_append, List.length_singleton, List.range_succ, List.map_append, List.map_singleton, List.sum_append, List.sum_singleton]
  congr 1
  · have e : ∀ (r : List Nat), (∀ i ∈ r, i < l.length) → (r.map fun i => (l ++ [d]).getD i 0 * b ^ (l.length + 1 - 1 - i)).sum = (r.map fun i => l.getD i 0 * b ^ (l.length - 1 - i)).sum * b := by
      intro r
      induction r with
      | nil => intro _; simp
      | cons i r ihr =>
        intro h
        have hi := h i (List.mem_cons_self ..)
        rw [List.map_cons, List.map_cons, List.sum_cons, List.sum_cons, ihr fun j hj => h j (List.mem_cons_of_mem _ hj), Int.add_mul]
        congr 1
        have e1 : (l ++ [d]).getD i 0 = l.getD i 0 := by
          rw [List.getD_eq_getElem?_getD, List.getD_eq_getElem?_getD, List.getElem?_append_left hi]
        have e2 : l.length + 1 - 1 - i = (l.length - 1 - i) + 1 := by omega
        rw [e1, e2, Int.pow_succ, Int.mul_assoc]
    exact e _ fun i hi => List.mem_range.mp hi
  · have e1 : (l ++ [d]).getD l.length 0 = d := by rw [List.getD_eq_getElem?_getD]; simp
    have e2 : l.length + 1 - 1 - l.length = 0 := by omega
    rw [e1, e2, Int.pow_zero, Int.mul_one]
theorem sum_val (b : Int) (l : List Int) : (List.map (fun k' : Int => l.getD k'.toNat 0 * b ^ ((l.length : Int) - 1 - k').toNat) (rangeKs 0 ((l.length : Int) - 0).toNat)).sum = val b l := by
  rw [← range_sum]
  have e : ((l.length : Int) - 0).toNat = l.length := by omega
  rw [e]
  unfold rangeKs
  rw [List.map_map]
  congr 1
  refine List.map_congr_left fun i _ => ?_
  show l.getD (0 + (i : Int)).toNat 0 * b ^ ((l.length : Int) - 1 - (0 + (i : Int))).toNat = _
  have e1 : (0 + (i : Int)).toNat = i := by omega
  have e2 : ((l.length : Int) - 1 - (0 + (i : Int))).toNat = l.length - 1 - i := by omega
  rw [e1, e2]
theorem item_us {y : Str} {i : Int} {c : Bool} (h : (Txt.item y i == Str.ofString "_") = c) : decide (Txt.charAt y i = some 95) = c := by
  have := us_iff _ _ h
  rw [← this]
  rw [Bool.eq_iff_iff, decide_eq_true_iff, decide_eq_true_iff]
  cases Txt.charAt y i with
  | none => simp
  | some k => simp
theorem char0 (y : Str) : Txt.charAt y 0 = y.cps.toList[0]? := by
  unfold Txt.charAt
  rcases Nat.lt_or_ge 0 y.length with h | h
  · rw [StrLaws.seqIndex_nonneg (by omega) (by omega)]; simp
  · have e : y.cps.toList.length = 0 := by rw [Array.length_toList]; exact Nat.le_zero.mp h
    rw [List.getElem?_eq_none (by omega)]
    have : seqIndex? 0 y.length = none := by unfold seqIndex?; simp; omega
    rw [this]; rfl
theorem charL (y : Str) : Txt.charAt y ((y.length : Int) - 1) = y.cps.toList.getLast? := by
  rw [List.getLast?_eq_getElem?]
  have e : y.cps.toList.length = y.length := Array.length_toList
  rw [e]
  unfold Txt.charAt
  rcases Nat.lt_or_ge 0 y.length with h | h
  · rw [StrLaws.seqIndex_nonneg (by omega) (by omega)]
    have : ((y.length : Int) - 1).toNat = y.length - 1 := by omega
    rw [this]; simp
  · have e0 : y.length = 0 := Nat.le_zero.mp h
    rw [List.getElem?_eq_none (by omega)]
    have : seqIndex? ((y.length : Int) - 1) y.length = none := by rw [e0]; rfl
    rw [this]; rfl
theorem uu_iff {y : Str} {c : Bool} (h : (Builtin.Str.occurrences y (Str.ofString "__") 0 (Str.length y) 1).isEmpty = c) : c = true ↔ NoUU y.cps.toList := by
  have hu : (Str.ofString "__").cps.toList = [95, 95] := by decide +kernel
  have hl : (Str.ofString "__").length = 2 := by decide +kernel
  have e : y.cps.toList.length = y.length := Array.length_toList
  have key := StrLaws.found_iff y (Str.ofString "__")
  rw [h] at key
  have at_iff : ∀ i, (i + (Str.ofString "__").length ≤ y.length ∧ Builtin.Str.subAt y (Str.ofString "__") i = true) ↔ (y.cps.toList[i]? = some 95 ∧ y.cps.toList[i+1]? = some 95) := by
    intro i
    rw [hl, StrLaws.subAt_eq, hu, hl, beq_iff_eq, ← e]
    generalize y.cps.toList = cs
    constructor
    · rintro ⟨h1, h2⟩
      have e1 : cs[i]? = ((cs.drop i).take 2)[0]? := by simp
      have e2 : cs[i+1]? = ((cs.drop i).take 2)[1]? := by simp
      rw [e1, e2, h2]
      exact ⟨rfl, rfl⟩
    · rintro ⟨h1, h2⟩
      have hi : i + 1 < cs.length := by
        rcases Nat.lt_or_ge (i + 1) cs.length with h | h
        · exact h
        · rw [List.getElem?_eq_none h] at h2; cases h2
      refine ⟨by omega, ?_⟩
      rw [List.getElem?_eq_getElem (by omega)] at h1
      rw [List.getElem?_eq_getElem hi] at h2
      rw [List.drop_eq_getElem_cons (by omega), List.drop_eq_getElem_cons hi]
      simp only [List.take_succ_cons, List.take_zero]
      rw [Option.some.inj h1, Option.some.inj h2]
  constructor
  · rintro rfl
    intro i h1 h2
    have := key.mpr ⟨i, (at_iff i).mpr ⟨h1, h2⟩⟩
    cases this
  · intro hN
    cases c with
    | true => rfl
    | false =>
      obtain ⟨i, hi⟩ := key.mp rfl
      have := (at_iff i).mp hi
      exact absurd this.2 (hN i this.1)
section
variable {b M : Int} {y : Str} {l : List Int}
theorem endD_pl {cs : List Nat} (h : endD cs = true) : pl cs ≠ [] := by
  rcases List.eq_nil_or_concat cs with rfl | ⟨cs', d, rfl⟩
  · cases h
  · rw [List.concat_eq_append] at *
    rw [endD_snoc] at h
    rw [pl_snoc]
    unfold plainG
    rw [if_neg (by intro q; rw [q] at h; cases h)]
    simp
theorem r_empty (hb : b = 10 ∨ b = 16) (hf : IsFold plainG y l) (h : decide (l = []) = true) : wholeV b (KStt.codes y) = none :=
  whole_bad hb fun q => endD_pl q.2 ((show l = pl y.cps.toList from hf) ▸ of_decide_eq_true h)
theorem r_neg (hb : b = 10 ∨ b = 16) (hf : IsFold plainG y l) (h : M < 0) (hm : M ∈ l) : wholeV b (KStt.codes y) = none :=
  whole_bad hb fun q => absurd (q.1.dig M ((show l = pl y.cps.toList from hf) ▸ hm)).1 (by omega)
theorem r_big (hb : b = 10 ∨ b = 16) (hf : IsFold plainG y l) (h : b ≤ M) (hm : M ∈ l) : wholeV b (KStt.codes y) = none :=
  whole_bad hb fun q => absurd (q.1.dig M ((show l = pl y.cps.toList from hf) ▸ hm)).2 (by omega)
theorem r_st (hb : b = 10 ∨ b = 16) (h : (Txt.item y 0 == Str.ofString "_") = true) : wholeV b (KStt.codes y) = none :=
  whole_bad hb fun q => q.1.st (char0 y ▸ of_decide_eq_true (item_us h))
theorem r_en (hb : b = 10 ∨ b = 16) (h : (Txt.item y ((y.length : Int) - 1) == Str.ofString "_") = true) : wholeV b (KStt.codes y) = none :=
  whole_bad hb fun q => by
    have h1 := of_decide_eq_true (item_us h)
    rw [charL] at h1
    have h2 := q.2
    unfold endD at h2
    rw [h1] at h2
    cases h2
theorem r_uu (hb : b = 10 ∨ b = 16) (h : (Builtin.Str.occurrences y (Str.ofString "__") 0 (Str.length y) 1).isEmpty = false) : wholeV b (KStt.codes y) = none :=
  whole_bad hb fun q => by have := (uu_iff h).mpr q.1.uu; cases this
theorem r_some {M' : Int} (hb : b = 10 ∨ b = 16) (hf : IsFold plainG y l) (h0 : decide (l = []) = false) (h1 : ¬ M < 0) (h1' : ∀ a, a ∈ l → M ≤ a) (h2 : ¬ b ≤ M') (h2' : ∀ a, a ∈ l → a ≤ M')
    (h3 : (Txt.item y 0 == Str.ofString "_") = false) (h4 : (Txt.item y ((y.length : Int) - 1) == Str.ofString "_") = false) (h5 : (Builtin.Str.occurrences y (Str.ofString "__") 0 (Str.length y) 1).isEmpty = true) :
    wholeV b (KStt.codes y) = some (List.map (fun k' : Int => l.getD k'.toNat 0 * b ^ ((l.length : Int) - 1 - k').toNat) (rangeKs 0 ((l.length : Int) - 0).toNat)).sum := by
  rw [sum_val]
  have e : l = pl y.cps.toList := hf
  rw [e]
  rw [e] at h0 h1' h2'
  refine whole_ok hb ⟨fun a ha => ?_, ?_, (uu_iff h5).mp rfl⟩ ?_
  · have := h1' a ha
    have := h2' a ha
    omega
  · rw [← char0]; exact of_decide_eq_false (item_us h3)
  · have h6 := of_decide_eq_false (item_us h4)
    rw [charL] at h6
    unfold endD
    cases hg : y.cps.toList.getLast? with
    | none =>
      exfalso
      rw [List.getLast?_eq_none_iff] at hg
      rw [hg] at h0
      exact absurd rfl (of_decide_eq_false h0)
    | some c =>
      rw [hg] at h6
      simp
      intro hc
      exact h6 (by rw [hc])
end
/-- y stands for the text v -/
def DigIs (v y : Str) : Prop := y = v
theorem slice1 {x : Str} (h : 1 ≤ x.length) : Txt.slice x none (some 1) = Txt.item x 0 := by
  have e : x.cps.toList.length = x.length := Array.length_toList
  have h1 : Txt.slice x none (some 1) = ⟨((x.cps.toList.drop 0).take ((1 : Int) - 0).toNat).toArray⟩ := StrLaws.sliceText_to (x := x) (j := 1) ⟨by omega, by omega⟩
  rw [h1]
  unfold Txt.item
  rw [char0]
  cases hc : x.cps.toList with
  | nil => rw [hc] at e; simp at e; omega
  | cons c r => rfl
theorem body1' {x z : Str} (hx : 1 ≤ x.length) (h : ([Str.ofString "+", Str.ofString "-"].any fun p => p == Txt.item x 0) = true) (hD : DigIs (Txt.slice x (some 1) none) z) : bodyOf x = z := by
  have e : z = Txt.slice x (some 1) none := hD
  rw [← slice1 hx] at h; rw [e]; exact body1 h
theorem body0' {x : Str} (hx : 1 ≤ x.length) (h : ([Str.ofString "+", Str.ofString "-"].any fun p => p == Txt.item x 0) = false) : bodyOf x = x := by
  rw [← slice1 hx] at h; exact body0 h
theorem whole1' {y z : Str} {o : Option Int} (h : (Txt.slice y none (some 2) == Str.ofString "0x") = true) (hD : DigIs (Txt.slice y (some 2) none) z) (hw : wholeV 16 (KStt.codes z) = o) : wholeOf y = o := by
  have e : z = Txt.slice y (some 2) none := hD
  rw [e] at hw; exact whole1 h hw
theorem num_neg' {x y : Str} {n : Int} (hx : 1 ≤ x.length) (hm : (Txt.item x 0 == Str.ofString "-") = true) (hb : bodyOf x = y) (h : wholeOf y = some n) : numS x = some (-n) := num_neg hb h (by rw [slice1 hx]; exact hm)
theorem num_pos' {x y : Str} {n : Int} (hx : 1 ≤ x.length) (hm : (Txt.item x 0 == Str.ofString "-") = false) (hb : bodyOf x = y) (h : wholeOf y = some n) : numS x = some n := num_pos hb h (by rw [slice1 hx]; exact hm)
end Mine
end

/- part W_read -/
section
open PySem PySem.W PyProof.Rows
set_option linter.unusedVariables false
set_option maxRecDepth 100000
namespace Mine
def NLt (news : List (Addr × Obj)) (d : Addr) : Prop := ∀ p ∈ news, p.1 < d
theorem ne_of_NLt {news : List (Addr × Obj)} {d d' : Addr} (h : NLt news d') (hd : @LE.le Nat _ d' d) : ∀ p ∈ news, p.1 ≠ d := fun p hp e => by
  have := h p hp
  rw [e] at this
  exact absurd this (Nat.not_lt.mpr hd)
local macro_rules | `(tactic| k_all) => `(tactic| exact ne_of_NLt (by with_reducible assumption) (by omega))
local macro_rules | `(tactic| size_fits) => `(tactic| first | ((rw [PySem.sizeLine_eq]); (try simp only [List.length_cons, List.length_nil, List.size_toArray]); omega) | fail "mine: no size")
theorem lst_isList {h₀ : Heap} {L l : Addr} {s : Shared} {news : List (Addr × Obj)} {vs : List Value} (N : News h₀ L s.heap news) (hm : (l, LCg.lst vs) ∈ news) : s.heap.IsList l vs.toArray := ⟨_, (N _ hm).1, rfl, _, rfl⟩
theorem pos_of_dec {l : List Int} (h : decide (l = []) = false) : 0 < l.length := by
  cases l with
  | nil => exact absurd rfl (of_decide_eq_false h)
  | cons x r => simp
theorem ltgS (value : PySem.Expr) (x : Str) (t : Tok) (r : Value) : letTemporaryGo value (.str x t) r = pure () := by
  unfold letTemporaryGo
  split
  · rfl
  · rename_i h; cases h
  · rfl
theorem pw_ge {n : Nat} {k : Int} (h : k < 0 + (((n : Int) - 0).toNat : Int)) : 0 ≤ (n : Int) - 1 - k := by omega
theorem pw_le {n r : Nat} {k : Int} (h0 : 0 ≤ k) (h1 : n ≤ r) (h2 : r ≤ 400) : (n : Int) - 1 - k ≤ 1000000 := by omega
theorem ix_lt {n : Nat} {k : Int} (h : k < 0 + (((n : Int) - 0).toNat : Int)) : k < (n : Int) := by omega
theorem ix_le {n r : Nat} (h1 : n ≤ r) (h2 : r ≤ 400) : n ≤ 400 := by omega
theorem my_item {prog : Program} {w : World} {A : Around} {E : Value → Shared → Prop} {s : Shared} {value slice : PySem.Expr} {l : Addr} {vs : List Value} {ns : List Int} {k : Int} {u : Tok} {Q : Value → Shared → Prop}
    (hl : s.heap.IsList l vs.toArray) (hi : IntsAre vs ns) (h0 : 0 ≤ k) (hk : k < ns.length) (h4 : ns.length ≤ 400) (h : ∀ t, Q (.int (ns.getD k.toNat 0) t) s)
    (hs : subscripted slice false (.ref l) (.int k u) = operate [.ref l, .int k u] (getItem (.ref l) (.int k u))) :
    wpAny (model prog w) A (subscriptTail value slice (.ref l) (.int k u)) Q E s := by
  have hlt : k.toNat < ns.length := by omega
  have e : ns[k.toNat]? = some (ns.getD k.toNat 0) := by rw [List.getD_eq_getElem?_getD, List.getElem?_eq_getElem hlt]; rfl
  obtain ⟨t, ht⟩ := hi.get k.toNat _ e
  exact tail_any hl.typeIs slot_list_getitem.lookup (wpAny_getItem_list hl h0 (by omega) (by simpa using ht) (h t)) hs
theorem dig_bd {ns : List Int} {M M' b : Int} (h1 : ∀ a, a ∈ ns → M ≤ a) (h2 : ∀ a, a ∈ ns → a ≤ M') (h3 : ¬ M < 0) (h4 : ¬ b ≤ M') (hb : b ≤ 16) (i : Nat) : 0 ≤ ns.getD i 0 ∧ ns.getD i 0 < 16 := by
  rw [List.getD_eq_getElem?_getD]
  rcases Nat.lt_or_ge i ns.length with h | h
  · rw [List.getElem?_eq_getElem h]
    have a := h1 _ (List.getElem_mem h)
    have c := h2 _ (List.getElem_mem h)
    show 0 ≤ ns[i] ∧ ns[i] < 16
    omega
  · rw [List.getElem?_eq_none h]
    show (0 : Int) ≤ 0 ∧ (0 : Int) < 16
    decide
theorem dig_mul {ns : List Int} {M M' b : Int} (h1 : ∀ a, a ∈ ns → M ≤ a) (h2 : ∀ a, a ∈ ns → a ≤ M') (h3 : ¬ M < 0) (h4 : ¬ b ≤ M') (hb : b ≤ 16) (i : Nat) (c : Int) : IntMulOk (ns.getD i 0) c := by
  have := dig_bd h1 h2 h3 h4 hb i
  exact PySem.IntMulOk.of_left (PySem.intBits_le_64 (by omega) (by omega))
theorem gen_text {M : Model} {A : Around} {E : Value → Shared → Prop} {s : Shared} {env : Env} {n : Str} {v : Str} {t : Tok} {Q : Unit → Shared → Prop} (hv : v.length ≤ 400)
    (h : ∀ y : Str, y.length ≤ 400 → DigIs v y → wpAny M A (storeName env n (.str y t)) Q E s) : wpAny M A (storeName env n (.str v t)) Q E s := h v hv rfl
theorem end_el {h₀ : Heap} {L I C D : Addr} {m : Str → Option Value} {s₁ : Shared} {oI oC oD : Obj} {news all : List (Addr × Obj)} {l g : List Int} {a : Int} {t : Tok} {h' : Heap} {tk : Nat} (F : Fr h₀ L h' m) (N : News h₀ L h' all)
    (off : LCg.Off3 I C D news) (sub : ∀ p ∈ (I, oI) :: (C, oC) :: (D, oD) :: news, p ∈ all) (hg : g = l ++ [a]) :
    LCg.CompEnd h₀ L m s₁ I oI C oC D oD (fun _ => True) (fun y news' => KCiEl news l g y news') (.int a t) { s₁ with heap := h', toks := tk } := LCg.CompEnd.intro F N news sub off trivial ⟨rfl, a, t, rfl, hg⟩
theorem end_no {h₀ : Heap} {L I C D : Addr} {m : Str → Option Value} {s₁ : Shared} {oI oC oD : Obj} {news all : List (Addr × Obj)} {l g : List Int} {y : Value} {h' : Heap} {tk : Nat} (F : Fr h₀ L h' m) (N : News h₀ L h' all)
    (off : LCg.Off3 I C D news) (sub : ∀ p ∈ (I, oI) :: (C, oC) :: (D, oD) :: news, p ∈ all) (hg : g = l) :
    LCg.CompEnd h₀ L m s₁ I oI C oC D oD (fun _ => True) (fun _ news' => KCiNo news l g news') y { s₁ with heap := h', toks := tk } := LCg.CompEnd.intro F N news sub off trivial ⟨rfl, hg⟩
theorem ne_us {n : Nat} {b : Bool} (h : ((⟨#[n]⟩ : Str) != Str.ofString "_") = b) : decide (n = 95) = !b := by
  have : ((⟨#[n]⟩ : Str) == Str.ofString "_") = !b := by rw [← h]; simp [bne]
  exact us_iff n _ this
theorem g_el {l : List Int} {n : Nat} {a : Int} (h : ((⟨#[n]⟩ : Str) != Str.ofString "_") = true) (ha : dv n = a) : plainG l n = l ++ [a] := by
  unfold plainG; rw [if_neg (of_decide_eq_false (ne_us h)), ha]
theorem g_no {l : List Int} {n : Nat} (h : ((⟨#[n]⟩ : Str) != Str.ofString "_") = false) : plainG l n = l := by
  unfold plainG; rw [if_pos (of_decide_eq_true (ne_us h))]
local macro_rules | `(tactic| walk_at "CompEnd") => `(tactic| (k_here; k_dflt (first
  | (refine' end_el ?F ?N ?off ?sub ?g; (case off => with_reducible assumption); (case F => k_asm); (case N => k_asm); (case sub => exact fun _ hp => hp); (case g => exact g_el (by with_reducible assumption) rfl))
  | (refine' end_no ?F ?N ?off ?sub ?g; (case off => with_reducible assumption); (case F => k_asm); (case N => k_asm); (case sub => exact fun _ hp => hp); (case g => exact g_no (by with_reducible assumption))))))
set_option maxHeartbeats 8000000 in
theorem c_read {w : World} {mean : ExcName → Option Value} {mg mb : Str → Option Value} {dp un : Nat} {gd : Option (List Code)} {cn : Str} {cs : Scope} {a : Addr} {ccd : Value} {cl : List (Str × Addr)} {outer : List Env} {A₀ : Around} {base h₀ : Heap} {L : Addr} {m : Str → Option Value} {news : List (Addr × Obj)} {s : Shared}
   {x : Str} {tx : Tok} {Q E : Value → Shared → Prop}
   (B : Below A₀ base outer h₀) (F : Fr h₀ L s.heap m) (X : (hd.heap_39 w.params).In h₀) (N : News h₀ L s.heap news) (T : Top hd.view_39 (looseW hd.view_39 [Str.ofString "is_token"]) mean mg mb h₀) (hk : cs.kind = .function)
   (hdp : dp + 2 < recursionLimit) (hun : un + 216 < cLine) (hx : x.length ≤ 400) (hx1 : 1 ≤ x.length)
   (hN : ∀ (h' : Heap) (tk' : Nat), numS x = none → Fr h₀ L h' m → News h₀ L h' news → Q .none { s with heap := h', toks := tk' })
   (hS : ∀ (n : Int) (t : Tok) (h' : Heap) (tk' : Nat), numS x = some n → Fr h₀ L h' m → News h₀ L h' news → Q (.int n t) { s with heap := h', toks := tk' }) :
   wpAny (model Challenge.rw_nm0112_01.row.prog w) (ktrTop dp un gd cn cs L a ccd cl outer) (call (.ref 185) [.str x tx]) Q E s := by
  k_with_none
  w_top off
  (k_with "eval ListComp" => (k_here; (with_reducible show wpAny _ _ (eval (Expr.ListComp _ [Comprehension.mk (Expr.Name (Str.ofString "sign") _) _ _ _] _ _) _) _ _ _); k_dflt (refine comp_str (F₀ := by k_asm) (by with_unfolding_all rfl) (by decide) (by rfl) (by decide) (by rfl) ?_ (by intro _; rfl))))
  (k_with "StrSrc" => (k_here; k_dflt (refine StrSrc.intro (by rfl) (by k_asm) (by k_asm) (by omega) (fun g9 => rest_str plainG (fun n9 t9 I9 oI9 C9 oC9 D9 m9 ys9 l9 h9 tk9 E9 hI9 hC9 hx9 F9 N9 off9 ne9 mk9 => ?_) (fun ys9 l9 hf9 hll9 hI9 => ?_) plainG_len)); (all_goals (try ((have off8 := off9); (simp only [LCg.Off3, and_true] at off9)))); (all_goals (try k_fold))))
  (k_with "compareOp Eq ref ref" => (k_here; (with_reducible show wpAny _ _ (compareOp CmpOp.Eq (Value.ref _) (Value.ref _)) _ _ _); (with_unfolding_all refine' eq_intsK ?k1 ?k2 ?k3 ?k4 ?k5 ?_; (case k1 => is_list); (case k2 => l_intsC); (case k3 => is_list); (case k4 => l_intsC); (case k5 => ktr_units); k_whole); (try dsimp only)))
  (k_with "call builtin:min" => (k_here; (with_reducible show wpAny _ _ (call (Value.builtin _) [Value.ref _]) _ _ _); k_dflt (refine' kso_min ?k1 ?k2 ?k3 ?k4 ?k5 ?k6 ?_; (case k1 => k_asm); (case k2 => k_asm); (case k3 => exact lst_isList (by k_asm) (by k_mem)); (case k4 => with_reducible assumption); (case k5 => exact pos_of_dec (by with_reducible assumption)); (case k6 => rfl)); intro h' M' t' k' F' N' a' b'; (have hpos9 := pos_of_dec (by with_reducible assumption)); (try dsimp only)))
  (k_with "call builtin:max" => (k_here; (with_reducible show wpAny _ _ (call (Value.builtin _) [Value.ref _]) _ _ _); k_dflt (refine' kso_max ?k1 ?k2 ?k3 ?k4 ?k5 ?k6 ?_; (case k1 => k_asm); (case k2 => k_asm); (case k3 => exact lst_isList (by k_asm) (by k_mem)); (case k4 => with_reducible assumption); (case k5 => exact pos_of_dec (by with_reducible assumption)); (case k6 => rfl)); intro h' M' t' k' F' N' a' b'; (try dsimp only)))
  (k_with "call builtin:len" => (k_here; (with_reducible show wpAny _ _ (call (Value.builtin "len") [Value.str _ _]) _ _ _); k_dflt (refine P.len_str (by omega) ?_); (try dsimp only)))
  (k_with "subscriptTail Name Constant str int" => (k_here; (with_reducible show wpAny _ _ (subscriptTail _ _ (Value.str _ _) (Value.int _ _)) _ _ _); k_dflt (refine' PyProof.Rows.item_str (fitsSsize_of (N := 9223372036854775808) (by omega) (by omega) (Int.le_refl _)) (by omega) (by omega) ?_ ?hs (ltgS _ _ _); (case hs => with_unfolding_all rfl)); intro _; (try dsimp only)))
  (k_with "subscriptTail Name BinOp str int" => (k_here; (with_reducible show wpAny _ _ (subscriptTail _ _ (Value.str _ _) (Value.int _ _)) _ _ _); k_dflt (refine' PyProof.Rows.item_str (fitsSsize_of (N := 9223372036854775808) (by omega) (by omega) (Int.le_refl _)) (by omega) (by omega) ?_ ?hs (ltgS _ _ _); (case hs => with_unfolding_all rfl)); intro _; (try dsimp only)))
  (k_with "subscriptTail Name Name ref int" => (k_here; (with_reducible show wpAny _ _ (subscriptTail _ _ (Value.ref _) (Value.int _ _)) _ _ _); k_dflt (refine' my_item ?hl ?hi ?h0 ?hk ?h4 ?_ ?hs; (case hl => exact lst_isList (by k_asm) (by k_mem)); (case hi => with_reducible assumption); (case h0 => with_reducible assumption); (case hk => exact ix_lt (by with_reducible assumption)); (case h4 => exact ix_le (by with_reducible assumption) (by with_reducible assumption)); (case hs => with_unfolding_all rfl)); intro _; (try dsimp only)))
  (k_with "binaryOp Pow int int" => (k_here; (with_reducible show wpAny _ _ (binaryOp _ (Value.int _ _) (Value.int _ _)) _ _ _); k_dflt (refine' pow_int_small ?pa ?pb ?pc ?_; (case pa => exact pw_ge (by with_reducible assumption)); (case pb => exact pw_le (by with_reducible assumption) (by with_reducible assumption) (by with_reducible assumption)); (case pc => decide)); (try dsimp only)))
  (k_with "binaryOp Mult int int" => (k_here; (with_reducible show wpAny _ _ (binaryOp _ (Value.int (List.getD _ _ _) _) (Value.int _ _)) _ _ _); k_dflt (refine PyProof.Rows.mul_int ?_ (dig_mul (by with_reducible assumption) (by with_reducible assumption) (by with_reducible assumption) (by with_reducible assumption) (by decide) _ _)); (try dsimp only)))
  (k_with "storeName" => (k_here; (with_reducible show wpAny _ _ (storeName _ _ (Value.str (Txt.slice _ _ _) _)) _ _ _); refine gen_text (by omega) ?_; intro y9 hy9 hD9; (repeat (with_reducible rename (Str.length (Txt.slice _ _ _) ≤ _) => hz9; clear hz9))))
  (have hfill9 : (Challenge.rw_nm0112_01 = Challenge.rw_nm0112_01) ∧ (hd.heap_39 = hd.heap_39) := by (k_fill; exact ⟨rfl, rfl⟩))
  refine wpAny_call ?_
  k_dflt (refine' code_defC ?k1 ?k2 ?k3 ?k4 ?k5 ?kA ?kF ?kK ?k6 ?k7 ?k8 ?k9 ?kB ?kD ?_ ?c2 ?c3 ?c4; (case kA => exact rfl); (case kF => exact rfl); (case kK => assumption); (case k1 => k_asm); (case k2 => k_asm); (case k3 => k_asm); (case k4 => k_asm); (case k5 => k_asm); (case k6 => k_is); (case k7 => k_is); (case k8 => ktr_room); (case k9 => exact BindsTo.of_eq rfl); (case kB => exact rfl); (case kD => decide +kernel); (case c2 => exact rfl); (case c3 => exact rfl); (case c4 => exact rfl); k_whole; intro g' L' h' tk' cells' FG' F' N' Y' B' X' T' l1; (try k_lt l1); k_cells Y'; (try simp only [List.cons_append, List.nil_append] at N'); (try dsimp only); (try k_lift B'); (try k_fold))
  have hNL : NLt news L' := l1
  clear l1
  k_steps
  all_goals (first
    | ((with_reducible show Q Value.none _); refine hN _ _ ?_ (by with_reducible assumption) (by refine' cb_drop (by with_reducible assumption) ?_; first | exact fun _ h => h | (intro p9 hp9; repeat (first | exact hp9 | refine List.mem_cons_of_mem _ ?_ | refine List.mem_append_right _ ?_))); exact num_none (by first | exact body1' (by with_reducible assumption) (by with_reducible assumption) (by with_reducible assumption) | exact body0' (by with_reducible assumption) (by with_reducible assumption)) (by first | exact whole1' (by with_reducible assumption) (by with_reducible assumption) (by first | exact r_empty (by first | exact Or.inl rfl | exact Or.inr rfl) (by with_reducible assumption) (by with_reducible assumption) | exact r_neg (by first | exact Or.inl rfl | exact Or.inr rfl) (by with_reducible assumption) (by with_reducible assumption) (by with_reducible assumption) | exact r_big (by first | exact Or.inl rfl | exact Or.inr rfl) (by with_reducible assumption) (by with_reducible assumption) (by with_reducible assumption) | exact r_st (by first | exact Or.inl rfl | exact Or.inr rfl) (by with_reducible assumption) | exact r_en (by first | exact Or.inl rfl | exact Or.inr rfl) (by with_reducible assumption) | exact r_uu (by first | exact Or.inl rfl | exact Or.inr rfl) (by with_reducible assumption)) | exact whole0 (by with_reducible assumption) (by first | exact r_empty (by first | exact Or.inl rfl | exact Or.inr rfl) (by with_reducible assumption) (by with_reducible assumption) | exact r_neg (by first | exact Or.inl rfl | exact Or.inr rfl) (by with_reducible assumption) (by with_reducible assumption) (by with_reducible assumption) | exact r_big (by first | exact Or.inl rfl | exact Or.inr rfl) (by with_reducible assumption) (by with_reducible assumption) (by with_reducible assumption) | exact r_st (by first | exact Or.inl rfl | exact Or.inr rfl) (by with_reducible assumption) | exact r_en (by first | exact Or.inl rfl | exact Or.inr rfl) (by with_reducible assumption) | exact r_uu (by first | exact Or.inl rfl | exact Or.inr rfl) (by with_reducible assumption))))
    | ((with_reducible show Q (Value.int (Int.neg _) _) _); refine hS _ _ _ _ ?_ (by with_reducible assumption) (by refine' cb_drop (by with_reducible assumption) ?_; first | exact fun _ h => h | (intro p9 hp9; repeat (first | exact hp9 | refine List.mem_cons_of_mem _ ?_ | refine List.mem_append_right _ ?_))); exact num_neg' (by with_reducible assumption) (by with_reducible assumption) (by first | exact body1' (by with_reducible assumption) (by with_reducible assumption) (by with_reducible assumption) | exact body0' (by with_reducible assumption) (by with_reducible assumption)) (by first | exact whole1' (by with_reducible assumption) (by with_reducible assumption) (r_some (by first | exact Or.inl rfl | exact Or.inr rfl) (by with_reducible assumption) (by with_reducible assumption) (by with_reducible assumption) (by with_reducible assumption) (by with_reducible assumption) (by with_reducible assumption) (by with_reducible assumption) (by with_reducible assumption) (by with_reducible assumption)) | exact whole0 (by with_reducible assumption) (r_some (by first | exact Or.inl rfl | exact Or.inr rfl) (by with_reducible assumption) (by with_reducible assumption) (by with_reducible assumption) (by with_reducible assumption) (by with_reducible assumption) (by with_reducible assumption) (by with_reducible assumption) (by with_reducible assumption) (by with_reducible assumption))))
    | ((with_reducible show Q (Value.int _ _) _); refine hS _ _ _ _ ?_ (by with_reducible assumption) (by refine' cb_drop (by with_reducible assumption) ?_; first | exact fun _ h => h | (intro p9 hp9; repeat (first | exact hp9 | refine List.mem_cons_of_mem _ ?_ | refine List.mem_append_right _ ?_))); first | exact num_pos' (by with_reducible assumption) (by with_reducible assumption) (by first | exact body1' (by with_reducible assumption) (by with_reducible assumption) (by with_reducible assumption) | exact body0' (by with_reducible assumption) (by with_reducible assumption)) (by first | exact whole1' (by with_reducible assumption) (by with_reducible assumption) (r_some (by first | exact Or.inl rfl | exact Or.inr rfl) (by with_reducible assumption) (by with_reducible assumption) (by with_reducible assumption) (by with_reducible assumption) (by with_reducible assumption) (by with_reducible assumption) (by with_reducible assumption) (by with_reducible assumption) (by with_reducible assumption)) | exact whole0 (by with_reducible assumption) (r_some (by first | exact Or.inl rfl | exact Or.inr rfl) (by with_reducible assumption) (by with_reducible assumption) (by with_reducible assumption) (by with_reducible assumption) (by with_reducible assumption) (by with_reducible assumption) (by with_reducible assumption) (by with_reducible assumption) (by with_reducible assumption))) | exact num_neg' (by with_reducible assumption) (by with_reducible assumption) (by first | exact body1' (by with_reducible assumption) (by with_reducible assumption) (by with_reducible assumption) | exact body0' (by with_reducible assumption) (by with_reducible assumption)) (by first | exact whole1' (by with_reducible assumption) (by with_reducible assumption) (r_some (by first | exact Or.inl rfl | exact Or.inr rfl) (by with_reducible assumption) (by with_reducible assumption) (by with_reducible assumption) (by with_reducible assumption) (by with_reducible assumption) (by with_reducible assumption) (by with_reducible assumption) (by with_reducible assumption) (by with_reducible assumption)) | exact whole0 (by with_reducible assumption) (r_some (by first | exact Or.inl rfl | exact Or.inr rfl) (by with_reducible assumption) (by with_reducible assumption) (by with_reducible assumption) (by with_reducible assumption) (by with_reducible assumption) (by with_reducible assumption) (by with_reducible assumption) (by with_reducible assumption) (by with_reducible assumption)))))

end Mine
end

/- part W_sorted -/
section
open PySem PySem.W PyProof.Rows
set_option linter.unusedVariables false
set_option maxRecDepth 100000
namespace Mine
abbrev hd0 (x : Str) : Nat := (Txt.charAt x 0).getD 0
def sortS (x : Str) : Str := if hd0 x = 36 ∧ 1 < x.length then Str.ofString "id" else if 97 ≤ hd0 x ∧ hd0 x ≤ 122 then Str.ofString "word" else Str.ofString "reserved"
abbrev ABC : Str := Str.ofString "abcdefghijklmnopqrstuvwxyz"
theorem one_eq (n k : Nat) (l : Str) (hl : l = ⟨#[k]⟩) (b : Bool) (h : ((⟨#[n]⟩ : Str) == l) = b) : decide (n = k) = b := by
  rw [← h, hl, Bool.eq_iff_iff, decide_eq_true_iff, beq_iff_eq]
  constructor
  · rintro rfl; rfl
  · intro q; injection q with q; injection q with q; injection q
theorem dollar {x : Str} {b : Bool} (h : (Txt.item x 0 == Str.ofString "$") = b) : decide (hd0 x = 36) = b := one_eq _ _ _ (by decide +kernel) _ h
abbrev NoId (x : Str) : Prop := (Txt.item x 0 == Str.ofString "$") = false ∨ ¬ 1 < (x.length : Int)
theorem noId {x : Str} (h : NoId x) : ¬ (hd0 x = 36 ∧ 1 < x.length) := by
  rintro ⟨a, b⟩
  rcases h with h | h
  · have := of_decide_eq_false (dollar h); exact this a
  · omega
abbrev IsLow (x : Str) : Prop := (Builtin.Str.occurrences ABC (Txt.item x 0) 0 (Str.length ABC) 1).isEmpty = false ∨ (¬ (Txt.item x 0).cps.toList < (Str.cps (Str.ofString "a")).toList ∧ ¬ (Str.cps (Str.ofString "z")).toList < (Txt.item x 0).cps.toList)
abbrev IsHigh (x : Str) : Prop := (Builtin.Str.occurrences ABC (Txt.item x 0) 0 (Str.length ABC) 1).isEmpty = true ∨ (Txt.item x 0).cps.toList < (Str.cps (Str.ofString "a")).toList ∨ (Str.cps (Str.ofString "z")).toList < (Txt.item x 0).cps.toList
theorem lt_one (a b : Nat) : [a] < [b] ↔ a < b := by
  constructor
  · intro h
    cases h with
    | rel h => exact h
    | cons h => cases h
  · exact fun h => List.Lex.rel h
theorem abc_mem (n : Nat) : n ∈ ABC.cps.toList ↔ 97 ≤ n ∧ n ≤ 122 := by
  have e : ABC.cps.toList = List.range' 97 26 := by decide +kernel
  rw [e, List.mem_range'_1]
  exact ⟨fun h => ⟨h.1, Nat.le_of_lt_succ h.2⟩, fun h => ⟨h.1, Nat.lt_succ_of_le h.2⟩⟩
theorem isLow {x : Str} (h : IsLow x) : 97 ≤ hd0 x ∧ hd0 x ≤ 122 := by
  rcases h with h | ⟨h1, h2⟩
  · exact (abc_mem _).mp (of_decide_eq_true (occ_mem rfl h))
  · have e1 : (Str.cps (Str.ofString "a")).toList = [97] := by decide +kernel
    have e2 : (Str.cps (Str.ofString "z")).toList = [122] := by decide +kernel
    rw [e1] at h1; rw [e2] at h2
    have h1' : ¬ ([hd0 x] < [97]) := h1
    have h2' : ¬ ([122] < [hd0 x]) := h2
    rw [lt_one] at h1' h2'
    omega
theorem isHigh {x : Str} (h : IsHigh x) : ¬ (97 ≤ hd0 x ∧ hd0 x ≤ 122) := by
  have e1 : (Str.cps (Str.ofString "a")).toList = [97] := by decide +kernel
  have e2 : (Str.cps (Str.ofString "z")).toList = [122] := by decide +kernel
  rcases h with h | h | h
  · exact fun q => of_decide_eq_false (occ_mem rfl h) ((abc_mem _).mpr q)
  · rw [e1] at h
    have h' : [hd0 x] < [97] := h
    rw [lt_one] at h'
    omega
  · rw [e2] at h
    have h' : [122] < [hd0 x] := h
    rw [lt_one] at h'
    omega
theorem sort_id {x : Str} (h1 : (Txt.item x 0 == Str.ofString "$") = true) (h2 : 1 < (x.length : Int)) : Str.ofString "id" = sortS x := (if_pos ⟨of_decide_eq_true (dollar h1), by omega⟩).symm
theorem sort_w {x : Str} (h1 : NoId x) (h2 : IsLow x) : Str.ofString "word" = sortS x := ((if_neg (noId h1)).trans (if_pos (isLow h2))).symm
theorem sort_r {x : Str} (h1 : NoId x) (h2 : IsHigh x) : Str.ofString "reserved" = sortS x := ((if_neg (noId h1)).trans (if_neg (isHigh h2))).symm
set_option maxHeartbeats 8000000 in
theorem c_sorted {w : World} {mean : ExcName → Option Value} {mg mb : Str → Option Value} {dp un : Nat} {gd : Option (List Code)} {cn : Str} {cs : Scope} {a : Addr} {ccd : Value} {cl : List (Str × Addr)} {outer : List Env} {A₀ : Around} {base h₀ : Heap} {L : Addr} {m : Str → Option Value} {news : List (Addr × Obj)} {s : Shared}
   {x : Str} {tx : Tok} {Q E : Value → Shared → Prop}
   (B : Below A₀ base outer h₀) (F : Fr h₀ L s.heap m) (X : (hd.heap_39 w.params).In h₀) (N : News h₀ L s.heap news) (T : Top hd.view_39 (looseW hd.view_39 [Str.ofString "is_token"]) mean mg mb h₀) (hk : cs.kind = .function)
   (hdp : dp + 3 < recursionLimit) (hun : un + 224 < cLine) (hx : x.length ≤ 400) (hx1 : 1 ≤ x.length)
   (hN : ∀ (z : Str) (t1 t2 : Tok) (D : Addr) (h' : Heap) (tk' : Nat), z = sortS x → numS x = none → Fr h₀ L h' m → News h₀ L h' ((D, { cls := .type "tuple", data := .seq #[.str z t1, .str x t2] }) :: news) → (∀ p ∈ news, p.1 < D) → Q (.ref D) { s with heap := h', toks := tk' })
   (hS : ∀ (n : Int) (t1 t2 : Tok) (D : Addr) (h' : Heap) (tk' : Nat), numS x = some n → Fr h₀ L h' m → News h₀ L h' ((D, { cls := .type "tuple", data := .seq #[.str (Str.ofString "int") t1, .int n t2] }) :: news) → (∀ p ∈ news, p.1 < D) → Q (.ref D) { s with heap := h', toks := tk' }) :
   wpAny (model Challenge.rw_nm0112_01.row.prog w) (ktrTop dp un gd cn cs L a ccd cl outer) (call (.ref 138) [.str x tx]) Q E s := by
  k_with_none
  w_top off
  (k_with "eval Call" => (k_here; (first | (with_reducible show wpAny _ _ (eval (Expr.Call (Expr.Name (Str.ofString "number_in") _) _ _ _) _) _ _ _)); k_dflt (refine Call_ ?_)))
  (k_with "call ref" => (k_here; (with_reducible show wpAny _ _ (call (Value.ref 131) [Value.str _ _]) _ _ _); k_dflt (refine' c_num ?k1 ?k2 ?k3 ?k4 ?k5 ?kK ?kd ?ku ?xx ?_ ?_; (case k1 => k_asm); (case k2 => k_asm); (case k3 => k_asm); (case k4 => k_asm); (case k5 => k_asm); (case kK => first | exact rfl | assumption); (case kd => ktr_room); (case ku => ktr_units); (case xx => first | assumption | omega); skip); (all_goals ((first | (intro n9 t9 h9 tk9 hR9 F9 N9) | (intro h9 tk9 hR9 F9 N9)); (try dsimp only); (try k_fold)))))
  (have hfill9 : (Challenge.rw_nm0112_01 = Challenge.rw_nm0112_01) ∧ (hd.heap_39 = hd.heap_39) := by (k_fill; exact ⟨rfl, rfl⟩))
  refine wpAny_call ?_
  k_dflt cell_enter
  k_steps
  all_goals (first
    | (refine hS _ _ _ _ _ _ (by with_reducible assumption) (by k_asm) (by first | k_asm | (refine' cb_drop ?cbN ?cbS; (case cbN => k_asm); (case cbS => kcj_all))) ?_; (first | assumption | exact allLt_of (by assumption) | (intro p hp; exact (by assumption : ∀ q ∈ _, q.1 < _) p (by simp [hp]))))
    | (refine hN _ _ _ _ _ _ (by first | exact sort_id (by with_reducible assumption) (by with_reducible assumption) | exact sort_w (by first | exact Or.inl (by with_reducible assumption) | exact Or.inr (by with_reducible assumption)) (by first | exact Or.inl (by with_reducible assumption) | exact Or.inr ⟨(by with_reducible assumption), (by with_reducible assumption)⟩) | exact sort_r (by first | exact Or.inl (by with_reducible assumption) | exact Or.inr (by with_reducible assumption)) (by first | exact Or.inl (by with_reducible assumption) | exact Or.inr (Or.inl (by with_reducible assumption)) | exact Or.inr (Or.inr (by with_reducible assumption)))) (by with_reducible assumption) (by k_asm) (by first | k_asm | (refine' cb_drop ?cbN ?cbS; (case cbN => k_asm); (case cbS => kcj_all))) ?_; (first | assumption | exact allLt_of (by assumption) | (intro p hp; exact (by assumption : ∀ q ∈ _, q.1 < _) p (by simp [hp])))))

end Mine
end

/- part W_lsort -/
section
open PySem PySem.W PyProof.Rows
set_option linter.unusedVariables false
set_option maxRecDepth 100000
namespace Mine
set_option maxHeartbeats 8000000 in
theorem c_lsortN {w : World} {mean : ExcName → Option Value} {mg mb : Str → Option Value} {dp un : Nat} {gd : Option (List Code)} {cn : Str} {cs : Scope} {a : Addr} {ccd : Value} {cl : List (Str × Addr)} {outer : List Env} {A₀ : Around} {base h₀ : Heap} {L : Addr} {m : Str → Option Value} {news : List (Addr × Obj)} {s : Shared}
   {x : Str} {tx : Tok} {Q E : Value → Shared → Prop}
   (B : Below A₀ base outer h₀) (F : Fr h₀ L s.heap m) (X : (hd.heap_39 w.params).In h₀) (N : News h₀ L s.heap news) (T : Top hd.view_39 (looseW hd.view_39 [Str.ofString "is_token"]) mean mg mb h₀) (hk : cs.kind = .function)
   (hdp : dp + 2 < recursionLimit) (hun : un + 216 < cLine) (hx : x.length ≤ 400) (hx1 : 1 ≤ x.length)
   (hN : ∀ (z : Str) (t1 t2 : Tok) (D : Addr) (h' : Heap) (tk' : Nat), z = sortS x → Fr h₀ L h' m → News h₀ L h' ((D, { cls := .type "tuple", data := .seq #[.str z t1, .str x t2] }) :: news) → (∀ p ∈ news, p.1 < D) → Q (.ref D) { s with heap := h', toks := tk' }) :
   wpAny (model Challenge.rw_nm0112_01.row.prog w) (ktrTop dp un gd cn cs L a ccd cl outer) (call (.ref 192) [.str x tx, .none]) Q E s := by
  k_with_none
  w_top off
  (have hfill9 : (Challenge.rw_nm0112_01 = Challenge.rw_nm0112_01) ∧ (hd.heap_39 = hd.heap_39) := by (k_fill; exact ⟨rfl, rfl⟩))
  refine wpAny_call ?_
  k_dflt cell_enter
  k_steps
  all_goals (first
    | (refine hN _ _ _ _ _ _ (by first | exact sort_id (by with_reducible assumption) (by with_reducible assumption) | exact sort_w (by first | exact Or.inl (by with_reducible assumption) | exact Or.inr (by with_reducible assumption)) (by first | exact Or.inl (by with_reducible assumption) | exact Or.inr ⟨(by with_reducible assumption), (by with_reducible assumption)⟩) | exact sort_r (by first | exact Or.inl (by with_reducible assumption) | exact Or.inr (by with_reducible assumption)) (by first | exact Or.inl (by with_reducible assumption) | exact Or.inr (Or.inl (by with_reducible assumption)) | exact Or.inr (Or.inr (by with_reducible assumption)))) (by k_asm) (by first | k_asm | (refine' cb_drop ?cbN ?cbS; (case cbN => k_asm); (case cbS => kcj_all))) ?_; (first | assumption | exact allLt_of (by assumption) | (intro p hp; exact (by assumption : ∀ q ∈ _, q.1 < _) p (by simp [hp])))))

set_option maxHeartbeats 8000000 in
theorem c_lsortS {w : World} {mean : ExcName → Option Value} {mg mb : Str → Option Value} {dp un : Nat} {gd : Option (List Code)} {cn : Str} {cs : Scope} {a : Addr} {ccd : Value} {cl : List (Str × Addr)} {outer : List Env} {A₀ : Around} {base h₀ : Heap} {L : Addr} {m : Str → Option Value} {news : List (Addr × Obj)} {s : Shared}
   {x : Str} {tx : Tok} {n : Int} {tn : Tok} {Q E : Value → Shared → Prop}
   (B : Below A₀ base outer h₀) (F : Fr h₀ L s.heap m) (X : (hd.heap_39 w.params).In h₀) (N : News h₀ L s.heap news) (T : Top hd.view_39 (looseW hd.view_39 [Str.ofString "is_token"]) mean mg mb h₀) (hk : cs.kind = .function)
   (hdp : dp + 2 < recursionLimit) (hun : un + 216 < cLine) (hx : x.length ≤ 400) (hx1 : 1 ≤ x.length)
   (hS : ∀ (t1 t2 : Tok) (D : Addr) (h' : Heap) (tk' : Nat), Fr h₀ L h' m → News h₀ L h' ((D, { cls := .type "tuple", data := .seq #[.str (Str.ofString "int") t1, .int n t2] }) :: news) → (∀ p ∈ news, p.1 < D) → Q (.ref D) { s with heap := h', toks := tk' }) :
   wpAny (model Challenge.rw_nm0112_01.row.prog w) (ktrTop dp un gd cn cs L a ccd cl outer) (call (.ref 192) [.str x tx, .int n tn]) Q E s := by
  k_with_none
  w_top off
  (have hfill9 : (Challenge.rw_nm0112_01 = Challenge.rw_nm0112_01) ∧ (hd.heap_39 = hd.heap_39) := by (k_fill; exact ⟨rfl, rfl⟩))
  refine wpAny_call ?_
  k_dflt cell_enter
  k_steps
  all_goals (first
    | (refine hS _ _ _ _ _ (by k_asm) (by first | k_asm | (refine' cb_drop ?cbN ?cbS; (case cbN => k_asm); (case cbS => kcj_all))) ?_; (first | assumption | exact allLt_of (by assumption) | (intro p hp; exact (by assumption : ∀ q ∈ _, q.1 < _) p (by simp [hp])))))

end Mine
end

/- part W_due -/
section
open PySem PySem.W PyProof.Rows
set_option linter.unusedVariables false
set_option maxRecDepth 100000
namespace Mine
abbrev sgB (x : Str) : Bool := [Str.ofString "+", Str.ofString "-"].any fun p => p == Txt.item x 0
abbrev UNX : Str := Str.ofString "unexpected token"
abbrev OUT32 : Str := Str.ofString "i32 constant out of range"
abbrev OUTC : Str := Str.ofString "constant out of range"
/-- what the law asks of a token of that number -/
def dueF (sg : Bool) (num : Option Int) (bits : Int) : Except Str Int := match num with
  | none => .error UNX
  | some n =>
    if bits = 0 then (if sg = true then .error UNX else if n < 4294967296 then .ok n else .error OUT32)
    else if 2 * n < -2 ^ bits.toNat ∨ 2 ^ bits.toNat ≤ n ∨ (sg = true ∧ 2 ^ bits.toNat ≤ 2 * n) then .error OUTC
    else .ok (if 2 * n.fmod (2 ^ bits.toNat) < 2 ^ bits.toNat then n.fmod (2 ^ bits.toNat) else n.fmod (2 ^ bits.toNat) - 2 ^ bits.toNat)
section
variable {sg : Bool} {n bi : Int}
theorem due1 (h0 : bi = 0) (hs : sg = true) : dueF sg (some n) bi = .error UNX := by unfold dueF; simp only [if_pos h0, if_pos hs]
theorem due2 (h0 : bi = 0) (hs : sg = false) (hn : n < 4294967296) : dueF sg (some n) bi = .ok n := by subst hs; unfold dueF; simp only [if_pos h0, if_pos hn]; rfl
theorem due3 (h0 : bi = 0) (hs : sg = false) (hn : ¬ n < 4294967296) : dueF sg (some n) bi = .error OUT32 := by subst hs; unfold dueF; simp only [if_pos h0, if_neg hn]; rfl
theorem due4 (h0 : bi ≠ 0) (h : 2 * n < -2 ^ bi.toNat) : dueF sg (some n) bi = .error OUTC := by unfold dueF; simp only [if_neg h0]; exact if_pos (.inl h)
theorem due5 (h0 : bi ≠ 0) (h : 2 ^ bi.toNat ≤ n) : dueF sg (some n) bi = .error OUTC := by unfold dueF; simp only [if_neg h0]; exact if_pos (.inr (.inl h))
theorem due6 (h0 : bi ≠ 0) (hs : sg = true) (h : 2 ^ bi.toNat ≤ 2 * n) : dueF sg (some n) bi = .error OUTC := by unfold dueF; simp only [if_neg h0]; exact if_pos (.inr (.inr ⟨hs, h⟩))
theorem due7 (h0 : bi ≠ 0) (h1 : ¬ 2 * n < -2 ^ bi.toNat) (h2 : ¬ 2 ^ bi.toNat ≤ n) (h3 : sg = false ∨ ¬ 2 ^ bi.toNat ≤ 2 * n) :
    dueF sg (some n) bi = .ok (if 2 * n.fmod (2 ^ bi.toNat) < 2 ^ bi.toNat then n.fmod (2 ^ bi.toNat) else n.fmod (2 ^ bi.toNat) - 2 ^ bi.toNat) := by
  unfold dueF; simp only [if_neg h0]
  refine if_neg ?_
  rintro (h | h | ⟨h, h'⟩)
  · exact h1 h
  · exact h2 h
  · rcases h3 with h3 | h3
    · rw [h] at h3; cases h3
    · exact h3 h'
theorem due7a (h0 : bi ≠ 0) (h1 : ¬ 2 * n < -2 ^ bi.toNat) (h2 : ¬ 2 ^ bi.toNat ≤ n) (h3 : sg = false ∨ ¬ 2 ^ bi.toNat ≤ 2 * n) (h4 : 2 * n.fmod (2 ^ bi.toNat) < 2 ^ bi.toNat) :
    dueF sg (some n) bi = .ok (n.fmod (2 ^ bi.toNat)) := by rw [due7 h0 h1 h2 h3, if_pos h4]
theorem due7b (h0 : bi ≠ 0) (h1 : ¬ 2 * n < -2 ^ bi.toNat) (h2 : ¬ 2 ^ bi.toNat ≤ n) (h3 : sg = false ∨ ¬ 2 ^ bi.toNat ≤ 2 * n) (h4 : ¬ 2 * n.fmod (2 ^ bi.toNat) < 2 ^ bi.toNat) :
    dueF sg (some n) bi = .ok (n.fmod (2 ^ bi.toNat) - 2 ^ bi.toNat) := by rw [due7 h0 h1 h2 h3, if_neg h4]
end
set_option maxHeartbeats 8000000 in
theorem c_dueS {w : World} {mean : ExcName → Option Value} {mg mb : Str → Option Value} {dp un : Nat} {gd : Option (List Code)} {cn : Str} {cs : Scope} {a : Addr} {ccd : Value} {cl : List (Str × Addr)} {outer : List Env} {A₀ : Around} {base h₀ : Heap} {L : Addr} {m : Str → Option Value} {news : List (Addr × Obj)} {s : Shared}
   {x : Str} {tx : Tok} {n : Int} {tn : Tok} {bi : Int} {tb : Tok} {ro : Int} {tr : Tok} {co : Int} {tc : Tok} {Q E : Value → Shared → Prop}
   (B : Below A₀ base outer h₀) (F : Fr h₀ L s.heap m) (X : (hd.heap_39 w.params).In h₀) (N : News h₀ L s.heap news) (T : Top hd.view_39 (looseW hd.view_39 [Str.ofString "is_token"]) mean mg mb h₀) (hk : cs.kind = .function)
   (hdp : dp + 2 < recursionLimit) (hun : un + 216 < cLine) (hx : x.length ≤ 400) (hx1 : 1 ≤ x.length) (hb : 0 ≤ bi ∧ bi ≤ 72)
   (hT : ∀ (v : Int) (t1 t2 : Tok) (D : Addr) (h' : Heap) (tk' : Nat), dueF (sgB x) (some n) bi = .ok v → Fr h₀ L h' m → News h₀ L h' ((D, { cls := .type "tuple", data := .seq #[.str (Str.ofString "told") t1, .int v t2] }) :: news) → (∀ p ∈ news, p.1 < D) → Q (.ref D) { s with heap := h', toks := tk' })
   (hB : ∀ (y : Str) (t1 t2 t3 : Tok) (D : Addr) (h' : Heap) (tk' : Nat), dueF (sgB x) (some n) bi = .error y → Fr h₀ L h' m → News h₀ L h' ((D, { cls := .type "tuple", data := .seq #[.str y t1, .int ro t2, .int co t3] }) :: news) → (∀ p ∈ news, p.1 < D) → Q (.ref D) { s with heap := h', toks := tk' }) :
   wpAny (model Challenge.rw_nm0112_01.row.prog w) (ktrTop dp un gd cn cs L a ccd cl outer) (call (.ref 199) [.str x tx, .int n tn, .int bi tb, .int ro tr, .int co tc]) Q E s := by
  k_with_none
  w_top off
  (have hfill9 : (Challenge.rw_nm0112_01 = Challenge.rw_nm0112_01) ∧ (hd.heap_39 = hd.heap_39) := by (k_fill; exact ⟨rfl, rfl⟩))
  refine wpAny_call ?_
  k_dflt cell_enter
  k_steps
  all_goals (first
    | (exfalso; exact (by assumption : bi ≠ 0) (by assumption))
    | (refine hT _ _ _ _ _ _ ?_ (by k_asm) (by first | k_asm | (refine' cb_drop ?cbN ?cbS; (case cbN => k_asm); (case cbS => kcj_all))) ?_; (first | exact due2 (by with_reducible assumption) (by with_reducible assumption) (by with_reducible assumption) | exact due7a (by with_reducible assumption) (by with_reducible assumption) (by with_reducible assumption) (by first | exact Or.inl (by with_reducible assumption) | exact Or.inr (by with_reducible assumption)) (by with_reducible assumption) | exact due7b (by with_reducible assumption) (by with_reducible assumption) (by with_reducible assumption) (by first | exact Or.inl (by with_reducible assumption) | exact Or.inr (by with_reducible assumption)) (by with_reducible assumption)); (first | with_reducible assumption | exact ktn_ltOf (by with_reducible assumption) | exact ktn_ltOf (And.right (by with_reducible assumption)) | exact ktn_ltOf (And.right (And.right (by with_reducible assumption))) | exact ktn_ltOf (And.right (And.right (And.right (by with_reducible assumption))))))
    | (refine hB _ _ _ _ _ _ _ ?_ (by k_asm) (by first | k_asm | (refine' cb_drop ?cbN ?cbS; (case cbN => k_asm); (case cbS => kcj_all))) ?_; (first | exact due1 (by with_reducible assumption) (by with_reducible assumption) | exact due3 (by with_reducible assumption) (by with_reducible assumption) (by with_reducible assumption) | exact due4 (by with_reducible assumption) (by with_reducible assumption) | exact due5 (by with_reducible assumption) (by with_reducible assumption) | exact due6 (by with_reducible assumption) (by with_reducible assumption) (by with_reducible assumption) | rfl); (first | with_reducible assumption | exact ktn_ltOf (by with_reducible assumption) | exact ktn_ltOf (And.right (by with_reducible assumption)) | exact ktn_ltOf (And.right (And.right (by with_reducible assumption))) | exact ktn_ltOf (And.right (And.right (And.right (by with_reducible assumption)))))))

set_option maxHeartbeats 8000000 in
theorem c_dueN {w : World} {mean : ExcName → Option Value} {mg mb : Str → Option Value} {dp un : Nat} {gd : Option (List Code)} {cn : Str} {cs : Scope} {a : Addr} {ccd : Value} {cl : List (Str × Addr)} {outer : List Env} {A₀ : Around} {base h₀ : Heap} {L : Addr} {m : Str → Option Value} {news : List (Addr × Obj)} {s : Shared}
   {x : Str} {tx : Tok} {bi : Int} {tb : Tok} {ro : Int} {tr : Tok} {co : Int} {tc : Tok} {Q E : Value → Shared → Prop}
   (B : Below A₀ base outer h₀) (F : Fr h₀ L s.heap m) (X : (hd.heap_39 w.params).In h₀) (N : News h₀ L s.heap news) (T : Top hd.view_39 (looseW hd.view_39 [Str.ofString "is_token"]) mean mg mb h₀) (hk : cs.kind = .function)
   (hdp : dp + 2 < recursionLimit) (hun : un + 216 < cLine) (hx : x.length ≤ 400) (hx1 : 1 ≤ x.length) (hb : 0 ≤ bi ∧ bi ≤ 72)
   (hB : ∀ (y : Str) (t1 t2 t3 : Tok) (D : Addr) (h' : Heap) (tk' : Nat), dueF (sgB x) none bi = .error y → Fr h₀ L h' m → News h₀ L h' ((D, { cls := .type "tuple", data := .seq #[.str y t1, .int ro t2, .int co t3] }) :: news) → (∀ p ∈ news, p.1 < D) → Q (.ref D) { s with heap := h', toks := tk' }) :
   wpAny (model Challenge.rw_nm0112_01.row.prog w) (ktrTop dp un gd cn cs L a ccd cl outer) (call (.ref 199) [.str x tx, .none, .int bi tb, .int ro tr, .int co tc]) Q E s := by
  k_with_none
  w_top off
  (have hfill9 : (Challenge.rw_nm0112_01 = Challenge.rw_nm0112_01) ∧ (hd.heap_39 = hd.heap_39) := by (k_fill; exact ⟨rfl, rfl⟩))
  refine wpAny_call ?_
  k_dflt cell_enter
  k_steps
  all_goals (first
    | (refine hB _ _ _ _ _ _ _ ?_ (by k_asm) (by first | k_asm | (refine' cb_drop ?cbN ?cbS; (case cbN => k_asm); (case cbS => kcj_all))) ?_; rfl; (first | with_reducible assumption | exact ktn_ltOf (by with_reducible assumption) | exact ktn_ltOf (And.right (by with_reducible assumption)) | exact ktn_ltOf (And.right (And.right (by with_reducible assumption))) | exact ktn_ltOf (And.right (And.right (And.right (by with_reducible assumption)))))))

end Mine
end

/- part W_exc -/
section
open PySem PySem.W PyProof.Rows PySem.Calls Builtin Builtin.ObjectAttr
set_option linter.unusedVariables false
set_option maxRecDepth 100000
namespace Mine
/-- an exception of the text's: its dict, its tuple of arguments -/
abbrev xObj (C : Addr) (dx : Option Addr) (t : Addr) : Obj := { cls := .ref C, dict := dx, data := .fields #[.ref t, .none, .none, .none, .bool false, .none] }
abbrev tupOf (vs : List Value) : Obj := { cls := .type "tuple", data := .seq vs.toArray }
/-- what is known of an exception class: C below P below Exception -/
structure XCls (K : Frag) (C P : Addr) : Prop where
  cls : ∃ cd, clsIn K C = some cd ∧ cd.mro = [.ref C, .ref P, .type "Exception", .type "BaseException", .type "object"] ∧ cd.hasDict = true ∧ cd.abstract = false ∧ cd.hasDel = false
  sa : findIn K (.ref C) "__setattr__" = some (some (.builtin "object.__setattr__"))
theorem of_allLt {d : Addr} : ∀ {l : List (Addr × Obj)}, AllLt d l → ∀ p ∈ l, p.1 < d
  | [], _ => fun p hp => nomatch hp
  | q :: r, h => fun p hp => by
    rcases List.mem_cons.mp hp with rfl | hp
    · exact h.1
    · exact of_allLt h.2 p hp
section
variable {prog : Program} {w : World} {A : Around} {E : Value → Shared → Prop} {s : Shared} {K : Frag} {x C P L : Addr} {h₀ : Heap} {m : Str → Option Value} {news : List (Addr × Obj)} {R : Result → Shared → Prop} {name : Str} {v : Value}
theorem x_open {ox : Obj} {od : Option Obj} {tk : Tok} {v : Value} (X : K.In s.heap) (I : InstAt s.heap x ox C od) (Y : XCls K C P) (ht : takerIn K C name = some none)
    (h : ∀ b, wpAny (model prog w) A.in1 (storeInOwnDict (.ref x) (.ref C) (.str name tk) name v b)
      (fun fin s' => match fin with | .done f => R (.ok f) s' | .again c' => c'.quiet = true ∧ codeAny (model prog w) A c' R s') (fun e s' => R (.error e) s') s) :
    codeAny (model prog w) A (.call (.builtin "object.__setattr__") ⟨[.ref x, .str name tk, v], []⟩) R s := by
  have SF := PySem.F.store_object
  obtain ⟨cd, hc, hmro, -⟩ := Y.cls
  have hm : Looks (model prog w) s.heap (mroOf (.ref C)) cd.mro := (looks_clsIn X hc).andThen .now
  have sub : Looks (model prog w) s.heap (isInstance (.ref x) (.type "object")) true := I.type.andThen (looks_mroIn X (by unfold mroIn; rw [hc, Option.bind_some, hmro]; rfl))
  refine codeAny_call_builtin SF.slot.plain SF.entry (@check_slot (model prog w) _ _ s "object.__setattr__" "object" "__setattr__" (.ref x) [.str name tk, v] [] _ SF.kind SF.split sub (SF.args (.ref x) (.str name tk) v) ?_)
  obtain ⟨attr, ha, hr⟩ := Option.bind_eq_some_iff.mp ht
  have L3 : Looks (model prog w) s.heap (storeTaker? attr) none := by
    cases attr with
    | none => exact .now
    | some a =>
      obtain ⟨b, hb, e⟩ := Option.map_eq_some_iff.mp hr
      cases b with
      | true => cases e
      | false => exact (looks_takesIn X hb).andThen .now
  rw [osa_eq, refuse_eq]
  refine wpAny_bind (wpAny_bind (I.type.here (wpAny_bind (hm.here ?_))))
  rw [hmro, refuseLoop_ref, refuseLoop_ref, PySem.F.store_Exception.passes]
  refine wpAny_pure (wpAny_bind (I.type.here (wpAny_bind ((looks_findIn X ha).here (wpAny_bind (L3.here ?_))))))
  exact h _

theorem x_store {Q : Fin → Shared → Prop} {dx : Addr} {tk : Tok} {pre post : List (Addr × Obj)} {es : List DictEntry} {n : Nat} (F : Fr h₀ L s.heap m) (N : News h₀ L s.heap (pre ++ (dx, dictOf es n) :: post))
    (hl : (getL name es).isSome = true) (h1 : ∀ p ∈ pre, p.1 ≠ dx) (h2 : ∀ p ∈ post, p.1 ≠ dx) (hz : es.length ≤ 100)
    (h : ∀ h', Fr h₀ L h' m → News h₀ L h' (pre ++ (dx, dictOf (putL name (PyData.keyHash w.params name) (.str name s.toks) v es) (putN name es n)) :: post) → Q (.done (.ret .none)) { s with heap := h', toks := s.toks + 1 }) :
    wpAny (model prog w) A (storeInDict dx (.str name tk) name v) Q E s := by
  obtain ⟨U1, U2⟩ := news_upd (f := Obj.putName name (PyData.keyHash w.params name) (.str name s.toks) v) F N h1 h2 (putName_dict name _ _ v es n) rfl
  have D := (N (dx, dictOf es n) (by simp)).1
  have D' := (U2 (dx, _) (List.mem_append_right _ (.head _))).1
  have hz' : (putL name (PyData.keyHash w.params name) (.str name s.toks) v es).length ≤ 1000 := by
    have : ∀ (k : Value) (es : List DictEntry), (putL name (PyData.keyHash w.params name) k v es).length ≤ es.length + 1 := by
      intro k es
      induction es with
      | nil => exact Nat.le_refl _
      | cons e r ih =>
        unfold putL
        split
        · simp
        · simp only [List.length_cons]; omega
    have := this (.str name s.toks) es
    omega
  unfold storeInDict
  refine wpAny_bind (wpAny_pure (wpAny_bind ?_))
  unfold nsSet
  refine wpAny_bind (wpAny_bind (wpAny_askSetting (wpAny_pure (wpAny_bind (wpAny_mkText (wpAny_bind (wpAny_loadPart D ?_)))))))
  dsimp only
  have c : (!es.toArray.any (·.key.isStr name) && es.toArray.any (·.refKey)) = false := by
    rw [← Array.any_toList, ← Array.any_toList]
    have hl' := hl
    unfold getL at hl'
    dsimp only
    split at hl'
    · rename_i en he
      rw [List.any_eq_true.mpr ⟨en, List.mem_of_find?_eq_some he, List.find?_some he⟩]; rfl
    · split at hl'
      · cases hl'
      · rename_i z; rw [Bool.not_eq_true] at z; rw [z, Bool.and_false]
  rw [aRefKeyMayBeTheName_at, c]
  refine wpAny_updatePart D ?_
  refine wpAny_bind (wpAny_lookBehind D' (pastItsLine_dict (by rw [List.size_toArray, sizeLine_eq]; omega)) ?_)
  exact wpAny_pure (h _ U1 U2)
theorem x_set0 {t : Addr} {Q : Unit → Shared → Prop} (F : Fr h₀ L s.heap m) (X₀ : K.In h₀) (N : News h₀ L s.heap ((x, xObj C none t) :: news)) (hx : ∀ p ∈ news, p.1 ≠ x) (Y : XCls K C P) (ht : takerIn K C name = some none)
    (h : ∀ D h', Fr h₀ L h' m → News h₀ L h' ((x, xObj C (some D) t) :: (D, dictOf [⟨PyData.keyHash w.params name, .str name (s.toks + 1), v⟩] 1) :: news) → (∀ p ∈ news, p.1 < D) → @LT.lt Nat _ x D → Q () { s with heap := h', toks := s.toks + 2 }) :
    wpAny (model prog w) A (setAttr (.ref x) name v) Q E s := by
  have hX := (N _ (.head _)).1
  have I : InstAt s.heap x (xObj C none t) C none := ⟨hX, rfl, rfl, trivial⟩
  have X := X₀.keeps F.keep
  refine set_plain X I Y.sa (x_open (s := { s with toks := s.toks + 1 }) X I Y ht fun b => ?_)
  obtain ⟨cd, hc, -, hd, -, -⟩ := Y.cls
  obtain ⟨hh, g, d, tk, os⟩ := s
  unfold storeInOwnDict
  refine wpAny_bind (wpAny_pure (wpAny_bind (wpAny_bind (wpAny_loadPart hX (wpAny_bind (looks_clsIn X hc _ _ _ _ (fun _ _ e => e) ?_))))))
  rw [hd]
  refine wpAny_bind (wpAny_alloc ?_)
  have hD := F.push emptyDict
  have ND := N.push F emptyDict
  dsimp only at hD ND
  have hlt : @LT.lt Nat _ x hh.objs.size := Heap.lt_size hX
  have hne : ∀ p ∈ [((hh.objs.size, emptyDict) : Addr × Obj)], p.1 ≠ x := by
    intro p hp
    rw [List.mem_singleton.mp hp]
    exact Nat.ne_of_gt hlt
  obtain ⟨U1, U2⟩ := news_upd (f := fun o => { o with dict := some hh.objs.size }) (pre := [(hh.objs.size, emptyDict)]) (post := news) (o := xObj C none t) (o' := xObj C (some hh.objs.size) t) hD ND hne hx rfl rfl
  refine wpAny_bind (wpAny_update (ND _ (.tail _ (.head _))).1 ?_)
  refine wpAny_pure (a := some hh.objs.size) ?_
  have lt9 : ∀ p ∈ news, p.1 < hh.objs.size := fun p hp => Heap.lt_size (N p (.tail _ hp)).1
  refine x_store (s := ⟨_, g, d, tk + 1, os⟩) (pre := []) (post := (x, xObj C (some hh.objs.size) t) :: news) (es := []) (n := 0) U1 U2 rfl (fun p hp => nomatch hp) ?_ (by decide) fun h' F' N' => ?_
  · intro p hp
    rcases List.mem_cons.mp hp with rfl | hp
    · exact Nat.ne_of_lt hlt
    · exact Nat.ne_of_lt (lt9 p hp)
  · refine h hh.objs.size h' F' (fun p hp => N' p ?_) lt9 hlt
    rcases List.mem_cons.mp hp with rfl | hp
    · exact .tail _ (.head _)
    · rcases List.mem_cons.mp hp with rfl | hp
      · exact .head _
      · exact .tail _ (.tail _ hp)
theorem x_set1 {t D : Addr} {es es' : List DictEntry} {n n' : Nat} {Q : Unit → Shared → Prop} (F : Fr h₀ L s.heap m) (X₀ : K.In h₀) (N : News h₀ L s.heap ((x, xObj C (some D) t) :: (D, dictOf es n) :: news)) (hx : AllLt D news) (hxD : @LT.lt Nat _ x D) (Y : XCls K C P) (ht : takerIn K C name = some none)
    (hl : (getL name es).isSome = true) (e : (putL name (PyData.keyHash w.params name) (.str name (s.toks + 1)) v es, putN name es n) = (es', n')) (hz : es.length ≤ 100)
    (h : ∀ h', Fr h₀ L h' m → News h₀ L h' ((x, xObj C (some D) t) :: (D, dictOf es' n') :: news) → Q () { s with heap := h', toks := s.toks + 2 }) :
    wpAny (model prog w) A (setAttr (.ref x) name v) Q E s := by
  obtain ⟨rfl, rfl⟩ := Prod.mk.inj e
  have hX := (N _ (.head _)).1
  have I : InstAt s.heap x (xObj C (some D) t) C (some (dictOf es n)) := ⟨hX, rfl, rfl, (N _ (.tail _ (.head _))).1⟩
  have X := X₀.keeps F.keep
  refine set_plain X I Y.sa (x_open (s := { s with toks := s.toks + 1 }) X I Y ht fun b => ?_)
  obtain ⟨cd, hc, -, hd, -, -⟩ := Y.cls
  obtain ⟨hh, g, d, tk, os⟩ := s
  unfold storeInOwnDict
  refine wpAny_bind (wpAny_pure (wpAny_bind (wpAny_bind (wpAny_loadPart hX (wpAny_bind (looks_clsIn X hc _ _ _ _ (fun _ _ e => e) ?_))))))
  rw [hd]
  refine wpAny_pure (a := some D) ?_
  refine x_store (s := ⟨hh, g, d, tk + 1, os⟩) (pre := [(x, xObj C (some D) t)]) (post := news) F N hl ?_ (fun p hp => Nat.ne_of_lt (of_allLt hx p hp)) hz fun h' F' N' => h h' F' N'
  intro p hp
  rw [List.mem_singleton.mp hp]
  exact Nat.ne_of_lt hxD
end

section
variable {prog : Program} {w : World} {A : Around} {E : Value → Shared → Prop} {s : Shared} {K : Frag} {L : Addr} {h₀ : Heap} {m : Str → Option Value} {news : List (Addr × Obj)}
variable {nm q : Str} {C Nn : Addr} {bs bm : List Value} {sn : List Str} {sub : List Value} {ab : Bool} {col : Option Bool} {dd : Option Addr} {k0 k1 k2 k3 k5 : Option Value}
/-- what the makings ask of the bases -/
structure BasesOk (bm : List Value) : Prop where
  exc : bm.contains (.type "Exception") = true
  attr : bm.contains (.type "AttributeError") = false
  name : bm.contains (.type "NameError") = false
theorem x_checked {h : Heap} {g : Array GenState} {d : Drawn} {t : Nat} {os : OsState} {rest : List Value} {Q : Unit → Shared → Prop} (Y : BasesOk bm)
    (hC : h.get? C = some (excClassObj nm q C Nn bs bm true sn sub ab col dd k0 k1 k2 k3 k5 "Exception.__new__")) (hq : Q () ⟨h, g, d, t, os⟩) :
    wpAny (model prog w) A (checkBuiltinCall "Exception.__new__" ⟨.ref C :: rest, []⟩) Q E ⟨h, g, d, t, os⟩ := by
  have F := PySem.F.excBase_Exception
  have own : (Value.ref C :: bm).contains (.type "Exception") = true := by rw [List.contains_cons, Y.exc, Bool.or_true]
  have star := F.noStar
  simp only [checkBuiltinCall, F.newKind, F.newSplit, F.newRow]
  repeat (first | refine wpAny_loadPart_at hC ?_ | (refine wpAny_isSubtype_exc hC ?_; rw [own]) | refine wpAny_staticBase_exc hC ?_ | refine wpAny_madeBy_exc hC ?_ | simp only [bne_self_eq_false, Bool.false_eq_true, if_false] | wp_step)
  exact hq
theorem x_new {h : Heap} {g : Array GenState} {d : Drawn} {t : Nat} {os : OsState} {rest : List Value} {R : Result → Shared → Prop} (Y : BasesOk bm)
    (hC : h.get? C = some (excClassObj nm q C Nn bs bm true sn sub ab col dd k0 k1 k2 k3 k5 "Exception.__new__")) (hz : rest.length ≤ 100)
    (hq : R (.ok (.ret (.ref (h.objs.size + 1)))) ⟨(h.push (tupOf rest)).push (xObj C none h.objs.size), g, d, t, os⟩) :
    codeAny (model prog w) A (.builtin "Exception.__new__" ⟨.ref C :: rest, []⟩) R ⟨h, g, d, t, os⟩ := by
  have F := PySem.F.excBase_Exception
  have ends := F.ends
  have c1 : (Value.ref C :: bm).contains (.type "Exception") = true := by rw [List.contains_cons, Y.exc, Bool.or_true]
  have c2 : (Value.ref C :: bm).contains (.type "AttributeError") = false := by rw [List.contains_cons, Y.attr]; rfl
  have c3 : (Value.ref C :: bm).contains (.type "NameError") = false := by rw [List.contains_cons, Y.name]; rfl
  have hrest : rest.length ≤ sizeLine := by rw [sizeLine_eq]; omega
  refine codeAny_builtinAt F.entry ?_
  unfold Builtin.«BaseException.__new__»
  refine PySem.wpAt_bind ?_
  show PySem.wpAt _ _ _ (stack >>= _) _ _ _
  refine PySem.wpAt_bind (PySem.wpAt_stack fun p below => PySem.wpAt_of_wpAny ?_)
  wp_walk
  refine PySem.wpAt_of_wpAny ?_
  rw [F.owner]
  repeat (first | with_reducible refine wpAny_madeHere_exc F.canon hC ?_ | with_reducible refine wpAny_loadPart_at hC ?_ | (with_reducible refine wpAny_isSubtype_exc hC ?_; first | rw [c1] | rw [c2] | rw [c3]) | wp_step)
  show R _ _
  rw [Heap.size_push]
  exact hq
theorem call_exc {pos : List Value} {fI : Addr} {Q : Value → Shared → Prop} (F : Fr h₀ L s.heap m) (X₀ : K.In h₀) (N : News h₀ L s.heap news)
    (hC : K.lookup C = some (excClassObj nm q C Nn bs bm true sn sub ab col dd k0 k1 k2 k3 k5 "Exception.__new__")) (Y : BasesOk bm)
    (hi : findIn K (.ref C) "__init__" = some (some (.ref fI))) (hf : isFn K (.ref fI) = true) (hz : pos.length ≤ 100)
    (h : ∀ x t h', Fr h₀ L h' m → News h₀ L h' ((x, xObj C none t) :: (t, tupOf pos) :: news) → (∀ p ∈ news, p.1 < t) → @LT.lt Nat _ t x →
      codeAny (model prog w) (A.under (.builtin "type.__call__" ⟨.ref C :: pos, []⟩)) (.call (.ref fI) ⟨.ref x :: pos, []⟩) (InitBack x fun r s' => match r with | .ok (.ret v) => Q v s' | .ok _ => False | .error e => E e s') { s with heap := h' }) :
    wpAny (model prog w) A (call (.ref C) pos []) Q E s := by
  have X := X₀.keeps F.keep
  have hC' := X _ _ hC
  have e1 := PySem.F.excBase_Exception
  have f1 := tc_lookup
  have f2 := tc_bind (.ref C)
  obtain ⟨hh, g, d, tk, os⟩ := s
  have hT : (⟨hh, g, d, tk, os⟩ : Shared).TypeIs (.ref C) "type" := ⟨_, hC', rfl⟩
  refine wpAny_call (codeAny_of_tree ?_)
  show wpAny _ _ (callAny (.ref C) _) _ _ _
  repeat (any_goals (first | assumption | with_reducible refine wpAny_loadPart_at hC' ?_ | wp_step))
  refine ⟨rfl, ?_⟩
  refine codeAny_call_builtin_at (Code.quiet_builtin _ (by decide +kernel)) entry_typeCall (wpAny_check_type_call_sub hC' ?_)
  repeat (first | with_reducible refine wpAny_loadPart_at hC' ?_ | with_reducible refine wpAny_madeBy_exc hC' ?_ | wp_step)
  refine codeAny_call_builtin_code (Code.quiet_builtin _ e1.quiet) (x_checked Y hC' ?_)
  refine x_new Y hC' hz ?_
  show wpAny _ _ _ _ _ ⟨(hh.push (tupOf pos)).push { cls := .ref C, data := .fields #[.ref hh.objs.size, .none, .none, .none, .bool false, .none] }, g, d, tk, os⟩
  have k : ∀ b o, hh.get? b = some o → ((hh.push (tupOf pos)).push (xObj C none hh.objs.size)).get? b = some o := fun b o e => Heap.get?_push_of_some _ (Heap.get?_push_of_some _ e)
  have hC₁ := k _ _ hC'
  have hx : ((hh.push (tupOf pos)).push (xObj C none hh.objs.size)).get? (hh.objs.size + 1) = some { cls := .ref C, data := .fields #[.ref hh.objs.size, .none, .none, .none, .bool false, .none] } := by heap_get
  have hcC : (Value.ref C :: bm).contains (.ref C) = true := by simp
  unfold isInstance
  repeat (first | with_reducible refine wpAny_loadPart_at hx ?_ | (with_reducible refine wpAny_isSubtype_exc hC₁ ?_; rw [hcC]) | wp_step)
  show wpAny _ _ (typeLookup (.ref C) _) _ _ _
  have X₁ : K.In ((hh.push (tupOf pos)).push (xObj C none hh.objs.size)) := Frag.In.keeps X k
  refine looks_findIn X₁ hi _ _ _ _ (fun _ _ e => e) ?_
  refine wpAny_holding (wpAny_bind (bind_fn X₁ _ (beq_iff_eq.mp hf) _ _ _ _ (fun _ _ e => e) ?_))
  have N' := (N.push F (tupOf pos)).push (F.push _) (xObj C none hh.objs.size)
  rw [Heap.size_push] at N'
  refine wpAny_bind (wpAny_call (codeAny_mono (h _ hh.objs.size _ ((F.push _).push _) N' (fun p hp => Heap.lt_size (N p hp).1) (Nat.lt_succ_self _)) fun r s' z => ?_))
  rcases r with e | (v | _ | _ | _) <;> first | exact z | exact z.elim | skip
  obtain ⟨rfl, z⟩ := z
  wp_walk
  exact z
end

end Mine
end

/- part W_exc2 -/
section
open PySem PySem.W PyProof.Rows PySem.Calls Builtin Builtin.ObjectAttr
set_option linter.unusedVariables false
set_option maxRecDepth 100000
namespace Mine

section
variable {prog : Program} {w : World} {A : Around} {E : Value → Shared → Prop} {s : Shared} {K : Frag} {L : Addr} {h₀ : Heap} {m : Str → Option Value} {news : List (Addr × Obj)}
variable {nm q : Str} {C P Nn : Addr} {bs bm : List Value} {sn : List Str} {sub : List Value} {ab : Bool} {col : Option Bool} {dd : Option Addr} {k0 k1 k2 k3 k5 : Option Value}
/-- Exception.__init__(self, ..) of an exception of the text's: a new tuple of arguments -/
theorem x_init {x t : Addr} {rest : List Value} {Q : Value → Shared → Prop} (F : Fr h₀ L s.heap m) (X₀ : K.In h₀) (N : News h₀ L s.heap ((x, xObj C none t) :: news)) (hx : ∀ p ∈ news, p.1 ≠ x) (Y : XCls K C P) (hC : K.lookup C = some (excClassObj nm q C Nn bs bm true sn sub ab col dd k0 k1 k2 k3 k5 "Exception.__new__")) (hz : rest.length ≤ 100)
    (h : ∀ D h', Fr h₀ L h' m → News h₀ L h' ((x, xObj C none D) :: (D, tupOf rest) :: news) → (∀ p ∈ news, p.1 < D) → @LT.lt Nat _ x D → Q .none { s with heap := h' }) :
    wpAny (model prog w) A (call (.builtin "Exception.__init__") (.ref x :: rest)) Q E s := by
  have X := X₀.keeps F.keep
  have hC' := X _ _ hC
  have e1 := PySem.F.excBase_Exception
  have hX := (N _ (.head _)).1
  obtain ⟨cd, hc, hmro, -⟩ := Y.cls
  have hrest : rest.length ≤ sizeLine := by rw [sizeLine_eq]; omega
  have I : InstAt s.heap x (xObj C none t) C none := ⟨hX, rfl, rfl, trivial⟩
  have isE : Looks (model prog w) s.heap (isInstance (.ref x) (.type "Exception")) true := I.type.andThen (looks_mroIn X (by unfold mroIn; rw [hc, Option.bind_some, hmro]; rfl))
  have star := e1.noStar
  obtain ⟨hh, g, d, tk, os⟩ := s
  refine wpAny_call (codeAny_call_builtin e1.init.plain e1.initEntry ?_)
  simp only [checkBuiltinCall, e1.initKind, e1.initSplit, e1.initRow]
  refine wpAny_bind (isE _ _ _ _ (fun _ _ e => e) ?_)
  simp only [Bool.not_true, Bool.false_eq_true, if_false]
  have hX' : hh.get? x = some { cls := .ref C, data := .fields #[.ref t, .none, .none, .none, .bool false, .none] } := hX
  have hC'' : hh.get? C = some (excClassObj nm q C Nn bs bm true sn sub ab col dd k0 k1 k2 k3 k5 "Exception.__new__") := hC'
  repeat (first | with_reducible refine wpAny_loadPart_at hX' ?_ | with_reducible refine wpAny_loadPart_at hC'' ?_ | wp_step)
  refine wpAny_onRaise ?_
  rw [show ∀ (a b : String) (n : Nat), Bind.check ⟨.positional, "*", "Exception", .self, [⟨"args", .varPos, false⟩]⟩ a b n (List.map (fun x => x.fst) ({ pos := Value.ref x :: rest } : Args).kw) = pure () from
    fun a b n => check_star_args _ _ _ _ _ _]
  refine wpAny_pure ?_
  unfold Builtin.«BaseException.__init__»
  dsimp only
  rw [if_neg (by simp)]
  unfold newTuple Builtin.BaseException.bexcPut
  have he₁ := Heap.get?_push_of_some (h := hh) (tupOf rest) hX'
  have F₁ := F.push (tupOf rest)
  have N₁ := N.push F (tupOf rest)
  have hlt : @LT.lt Nat _ x hh.objs.size := Heap.lt_size hX'
  have hne : ∀ p ∈ [((hh.objs.size, tupOf rest) : Addr × Obj)], p.1 ≠ x := by
    intro p hp
    rw [List.mem_singleton.mp hp]
    exact Nat.ne_of_gt hlt
  obtain ⟨U1, U2⟩ := news_upd (f := Obj.mapFields (·.setIfInBounds 0 (.ref hh.objs.size))) (pre := [(hh.objs.size, tupOf rest)]) (post := news) (o := xObj C none t) (o' := xObj C none hh.objs.size) F₁ N₁ hne hx rfl rfl
  refine wpAny_bind (wpAny_newObj_type (wpAny_bind (wpAny_bind (wpAny_field he₁ rfl rfl (wpAny_bind (wpAny_setField he₁ rfl (by show 0 < 6; decide) ?_))))) (by show rest.toArray.size ≤ sizeLine; rw [List.size_toArray]; exact hrest))
  refine wpAny_letGo (wpAny_pure ?_)
  refine h hh.objs.size _ U1 (fun p hp => U2 p ?_) (fun p hp => Heap.lt_size (N p (.tail _ hp)).1) hlt
  rcases List.mem_cons.mp hp with rfl | hp
  · exact .tail _ (.head _)
  · rcases List.mem_cons.mp hp with rfl | hp
    · exact .head _
    · exact .tail _ (.tail _ hp)
end
end Mine
end

/- part W_fly -/
section
open PySem PySem.W PyProof.Rows PySem.Calls PySem.Spec
set_option linter.unusedVariables false
set_option maxRecDepth 100000
namespace Mine
/-- the exception x on its way: its class, its dict, its newest traceback entry with the flight mark fl -/
structure Fly (base : Heap) (l : List Env) (x C D : Addr) (fl : Value) (h : Heap) : Prop where
  stays : base.StaysIn h
  fresh : base.get? x = none
  frames : h.FunFrames base l
  there : ∃ (vs : Array Value) (T : Addr) (oT : Obj) (ts : Array Value), h.get? x = some { cls := .ref C, dict := some D, data := .fields vs } ∧ vs[1]? = some (.ref T) ∧ base.get? T = none ∧ T ≠ x ∧ h.get? T = some oT ∧ oT.data = .fields ts ∧ ts[3]? = some fl
theorem Fly.obj {base h : Heap} {l : List Env} {x C D : Addr} {fl : Value} (Y : Fly base l x C D fl h) : ∃ vs, h.get? x = some { cls := .ref C, dict := some D, data := .fields vs } := by
  obtain ⟨vs, _, _, _, e, _⟩ := Y.there
  exact ⟨vs, e⟩
section
variable {M : Model} {A : Around} {E : Value → Shared → Prop} {s : Shared} {base : Heap} {l outer : List Env} {x C D L : Addr} {env : Env}
/-- setFlight x none -/
theorem fly_land {fl : Value} {Q : Unit → Shared → Prop} (Y : Fly base l x C D fl s.heap)
    (hq : ∀ h', Fly base l x C D .none h' → s.heap.UpToSlots h' → Q () { s with heap := h' }) : wpAny M A (setFlight (.ref x) none) Q E s := by
  obtain ⟨st, fr, ff, vs, T, oT, ts, hx, h1, hn, hne, hT, hd, h3⟩ := Y
  have h3' : 3 < ts.size := (Array.getElem?_eq_some_iff.mp h3).1
  have other : ∀ b, b ≠ T → (s.heap.update T (Obj.mapFields (·.setIfInBounds 3 Value.none))).get? b = s.heap.get? b := fun b hb => Heap.get?_update_other _ _ (Ne.symm hb)
  have nT : ∀ b o, s.heap.get? b = some o → (∀ vs, o.data ≠ .fields vs) → b ≠ T := fun b o hb hf q => by
    rw [q, hT] at hb; cases hb; exact hf ts hd
  unfold setFlight
  refine wpAny_bind (wpAny_field hx rfl h1 ?_)
  rw [if_pos (show (Value.ref T != Value.none) = true from by simp)]
  refine wpAny_setField hT hd h3' (hq _ ⟨fun b o e => (other b fun q => by rw [q, hn] at e; cases e).trans (st b o e), fr, ff.of_keeps fun b o hb hf => ⟨o, (other b (nT b o hb hf)).trans hb, rfl⟩,
    vs, T, _, _, (other x (Ne.symm hne)).trans hx, h1, hn, hne, Heap.get?_update_self _ hT (Obj.isFreed_of_fields (Obj.data_mapFields hd _)), Obj.data_mapFields hd _, by simp [h3']⟩ ?_)
  exact fun b o hb hf => ⟨o.slots, (other b (nT b o hb hf)).trans hb⟩
/-- a new entry on x -/
theorem fly_entry {vs : Array Value} {head : Value} {hadNext : Bool} {Q : Unit → Shared → Prop} (hfr : A.frames = some (env :: outer)) (ff : s.heap.FunFrames base (env :: outer)) (hf : env.frame = some L)
    (hx : s.heap.get? x = some { cls := .ref C, dict := some D, data := .fields vs }) (st : base.StaysIn s.heap) (fr : base.get? x = none) (hs : 1 < vs.size)
    (hq : ∀ h', Fly base (env :: outer) x C D (rawInt L) h' → s.heap.UpToSlots h' → Q () { s with heap := h' }) :
    wpAny M A (do let a ← frameOf env; let pl ← entryPlaceOf L hadNext; let b ← EntryCells.newEntry head a .none (rawInt L) .none pl; setField (.ref x) 1 b) Q E s := by
  have nx : x ∉ (env :: outer).filterMap (·.frame) := fun hm => by
    obtain ⟨_, o, ho, hnf⟩ := ff.mem hm
    rw [hx] at ho; cases ho; exact hnf vs rfl
  refine wpAny_bind (wpAny_frameOf_fun hfr ff hf fun h₁ k₁ => wpAny_bind (wpAny_entryPlaceOf fun pl hpl => ?_))
  unfold EntryCells.newEntry newFields
  refine wpAny_bind (wpAny_newObj_type ?_ (hpl.sizeOk5 _ _ _ _ _))
  have x₁ : h₁.get? x = some { cls := .ref C, dict := some D, data := .fields vs } := (k₁.2.1 x nx).trans hx
  have st₁ : base.StaysIn h₁ := fun b o e => (k₁.2.1 b fun hm => by rw [(ff.mem hm).1] at e; cases e).trans (st b o e)
  have neT : h₁.objs.size ≠ x := Nat.ne_of_gt (Heap.lt_size x₁)
  generalize hent : ({ cls := .type "traceback", dict := none, data := .fields ([head, .ref L, .none, rawInt L, .none] ++ (if pl.isEmpty then List.replicate 6 Value.none else pl)).toArray } : Obj) = ent
  have x₂ := Heap.get?_push_of_some (h := h₁) ent x₁
  refine wpAny_setField x₂ rfl hs (hq _ ?_ ?_)
  · have keep : ∀ b o, b ≠ x → h₁.get? b = some o → ((h₁.push ent).update x (Obj.mapFields (·.setIfInBounds 1 (Value.ref h₁.objs.size)))).get? b = some o := fun b o hb e => by
      rw [Heap.get?_update_other _ _ (Ne.symm hb)]; exact Heap.get?_push_of_some _ e
    refine ⟨fun b o e => keep b o (fun q => by rw [q, fr] at e; cases e) (st₁ b o e), fr, ff.of_keeps fun b o hb hnf => ?_, ?_⟩
    · obtain ⟨sl, e⟩ := k₁.2.2 b o hb
      exact ⟨_, keep b _ (fun q => by rw [q, hx] at hb; cases hb; exact hnf vs rfl) e, rfl⟩
    · refine ⟨_, h₁.objs.size, ent, _, Heap.get?_update_self _ x₂ rfl, by simp [hs], st₁.fresh, neT, ?_, by rw [← hent], ?_⟩
      · rw [Heap.get?_update_other _ _ (Ne.symm neT), ← hent]
        exact Heap.get?_push_size h₁ rfl
      · first | (simp; done) | (rcases hpl with rfl | ⟨_, _, _, _, _, _, _, rfl⟩ <;> simp)
  · intro b o hb hnf
    obtain ⟨sl, e⟩ := k₁.2.2 b o hb
    refine ⟨sl, ?_⟩
    have hbx : b ≠ x := fun q => by rw [q, hx] at hb; cases hb; exact hnf vs rfl
    exact (Heap.get?_update_other _ _ (Ne.symm hbx)).trans (Heap.get?_push_of_some _ e)
/-- the frame that x leaves first -/
theorem fly_first {vs : Array Value} {Q : Unit → Shared → Prop} (hfr : A.frames = some (env :: outer)) (ff : s.heap.FunFrames base (env :: outer)) (hf : env.frame = some L)
    (hx : s.heap.get? x = some { cls := .ref C, dict := some D, data := .fields vs }) (st : base.StaysIn s.heap) (fr : base.get? x = none) (h1 : vs[1]? = some .none)
    (hq : ∀ h', Fly base outer x C D .none h' → s.heap.UpToSlots h' → Q () { s with heap := h' }) : wpAny M A (leaving env (.ref x)) Q E s := by
  unfold leaving noteFrame
  simp only [hf]
  refine wpAny_bind (wpAny_bind (wpAny_field hx rfl h1 ?_))
  rw [if_neg (by decide)]
  refine fly_entry hfr ff hf hx st fr (Array.getElem?_eq_some_iff.mp h1).1 fun h₁ Y₁ u₁ => fly_land Y₁ fun h₂ Y₂ u₂ => ?_
  obtain ⟨a, b, ⟨_, _, c⟩, d⟩ := Y₂
  exact hq _ ⟨a, b, c, d⟩ (u₁.trans u₂)
/-- x comes into a frame with a try -/
theorem fly_note {Q : Unit → Shared → Prop} (hfr : A.frames = some (env :: outer)) (hf : env.frame = some L) (Y : Fly base (env :: outer) x C D .none s.heap)
    (hq : ∀ h', Fly base (env :: outer) x C D (rawInt L) h' → s.heap.UpToSlots h' → Q () { s with heap := h' }) : wpAny M A (noteFrame (.ref x) env) Q E s := by
  obtain ⟨st, fr, ff, vs, T, oT, ts, hx, h1, hn, hne, hT, hd, h3⟩ := Y
  have other : ∀ b, b ≠ T → (s.heap.update T (Obj.mapFields (·.setIfInBounds 3 Value.none))).get? b = s.heap.get? b := fun b hb => Heap.get?_update_other _ _ (Ne.symm hb)
  have nT : ∀ b o, s.heap.get? b = some o → (∀ vs, o.data ≠ .fields vs) → b ≠ T := fun b o hb hf q => by
    rw [q, hT] at hb; cases hb; exact hf ts hd
  unfold noteFrame
  simp only [hf]
  refine wpAny_bind (wpAny_field hx rfl h1 ?_)
  rw [if_pos (show (Value.ref T != Value.none) = true from by simp)]
  refine wpAny_bind (wpAny_field hT hd h3 ?_)
  rw [if_neg (show ¬ ((Value.none == rawInt L) = true) from by simp [rawInt])]
  refine wpAny_bind (wpAny_setField hT hd (Array.getElem?_eq_some_iff.mp h3).1 ?_)
  refine fly_entry hfr (ff.of_keeps fun b o hb hf => ⟨o, (other b (nT b o hb hf)).trans hb, rfl⟩) hf ((other x (Ne.symm hne)).trans hx) (fun b o e => (other b fun q => by rw [q, hn] at e; cases e).trans (st b o e)) fr
    (Array.getElem?_eq_some_iff.mp h1).1 fun h₁ Y₁ u₁ => hq h₁ Y₁ fun b o hb hf => ?_
  exact u₁ b o ((other b (nT b o hb hf)).trans hb) hf
end
end Mine
end

/- part W_fly2 -/
section
open PySem PySem.W PyProof.Rows PySem.Calls PySem.Spec
set_option linter.unusedVariables false
set_option maxRecDepth 100000
namespace Mine
section
variable {prog : Program} {w : World} {A A₀ : Around} {E : Value → Shared → Prop} {s s' : Shared} {base g G h₀ : Heap} {outer : List Env} {x C D L a : Addr} {env : Env} {m : Str → Option Value} {name : Str} {scope : Scope} {cd : Value} {news : List (Addr × Obj)}
variable {nm q : Str} {Nn : Addr} {bs bm : List Value} {sn : List Str} {sub : List Value} {ab : Bool} {col : Option Bool} {dd : Option Addr} {k0 k1 k2 k3 k5 : Option Value} {newId : String}
/-- what a raise statement wants of its value -/
def RaiseX (E : Value → Shared → Prop) (v : Value) (s₁ : Shared) : Prop := ∃ (e C D t : Addr) (nm q : Str) (Nn : Addr) (bs bm : List Value) (sn : List Str) (sub : List Value) (ab : Bool) (col : Option Bool) (dd : Option Addr) (k0 k1 k2 k3 k5 : Option Value) (newId : String),
  v = .ref e ∧ s₁.heap.get? C = some (excClassObj nm q C Nn bs bm true sn sub ab col dd k0 k1 k2 k3 k5 newId) ∧ bm.contains (.type "BaseException") = true ∧ s₁.heap.get? e = some { cls := .ref C, dict := some D, data := .fields #[.ref t, .none, .none, .none, .bool false, .none] } ∧ E (.ref e) s₁
theorem raise_x {ex : PySem.Expr} {pos : Pos} {Q : Flow → Shared → Prop} (hh : A.handled = none) (h : wpAny (model prog w) A (eval ex env) (RaiseX E) E s) : wpAny (model prog w) A (exec (.Raise (some ex) none pos) env) Q E s := by
  have key : ∀ (t : Sem Value) (s : Shared), wpAny (model prog w) A t (RaiseX E) E s → wpAny (model prog w) A (raiseStmt env (some t) none) Q E s := by
    intro t s h
    unfold raiseStmt
    refine wpAny_bind (wpAny_mono h (fun v s₁ h₁ => ?_) fun _ _ x => x)
    obtain ⟨e, C, D, t, nm, q, Nn, bs, bm, sn, sub, ab, col, dd, k0, k1, k2, k3, k5, newId, rfl, hC, hb, he, hE⟩ := h₁
    have own : (Value.ref C :: bm).contains (.type "BaseException") = true := by rw [List.contains_cons, hb, Bool.or_true]
    obtain ⟨hp, g, d, tk, os⟩ := s₁
    repeat (first | with_reducible refine wpAny_loadPart_at he ?_ | with_reducible refine wpAny_loadPart_at hC ?_ | (with_reducible refine wpAny_isSubtype_exc hC ?_; rw [own]) | wp_step)
    exact wpAny_raiseNew_none hh hE
  rw [arm_exec_Raise]
  have h' := wpAny_bind (f := fun v => do standAt pos; pure v) (wpAny_mono h (fun v s₃ h₃ => wpAny_bind (wpAny_standAt (wpAny_pure h₃))) fun _ _ x => x)
  first
    | exact wpAny_bind (wpAny_standAt (key _ _ h'))
    | (simp only [evalOpt, Option.map]; exact wpAny_bind (wpAny_standAt (key _ _ h')))
/-- x has left a frame: B is what stays -/
def RaisedX (base G : Heap) (l : List Env) (x C D : Addr) (news : List (Addr × Obj)) (h : Heap) : Prop :=
  ∃ B, base.StaysIn B ∧ (∀ b o, G.get? b = some o → b ∉ l.filterMap (·.frame) → B.get? b = some o) ∧ (∀ q ∈ news, B.get? q.1 = some q.2 ∧ G.get? q.1 = none) ∧ Fly B l x C D .none h ∧ G.get? x = none
theorem leave_x {t : Addr} {Q : Unit → Shared → Prop} (K : Below A base outer g) (F : Fr g L s'.heap m) (N : News g L s'.heap ((x, xObj C (some D) t) :: news)) (hx : ∀ p ∈ news, p.1 ≠ x)
    (hQ : ∀ h', RaisedX base g outer x C D news h' → g.UpToSlots h' → Q () { s' with heap := h' }) (hk : scope.kind = .function := by rfl) :
    wpAny (model prog w) (A.deeper (envOf name scope L a cd)) (leaving (envOf name scope L a cd) (.ref x)) Q E s' := by
  have K' := K.push (name := name) (a := a) (cd := cd) F hk
  have X := N _ (.head _)
  have hin : ∀ env ∈ (envOf name scope L a cd :: outer), ∀ b, env.frame = some b → b ∈ x :: (envOf name scope L a cd :: outer).filterMap (·.frame) := fun env he b hb => .tail _ (List.mem_filterMap.mpr ⟨env, he, hb⟩)
  have st : base.StaysIn (hideAll s'.heap (x :: (envOf name scope L a cd :: outer).filterMap (·.frame))) := fun b o e => hideAll_get _ (K'.stays b o e) fun hm => by
    rcases List.mem_cons.mp hm with rfl | hm
    · rw [fresh_of_stays K.stays X.2.2] at e; cases e
    · rw [(K'.frames.mem hm).1] at e; cases e
  refine fly_first (base := hideAll s'.heap (x :: (envOf name scope L a cd :: outer).filterMap (·.frame))) K'.stack (funFrames_hide K'.frames hin) rfl X.1 (fun b o e => of_hideAll _ e) (hideAll_none _ (.head _)) rfl fun h' Y u => ?_
  refine hQ h' ⟨_, st, fun b o e nm => hideAll_get _ (F.keep b o e) fun hm => ?_, fun p hp => ⟨hideAll_get _ (N p (.tail _ hp)).1 fun hm => ?_, (N p (.tail _ hp)).2.2⟩, Y, X.2.2⟩ ((Heap.UpToSlots.of_keeps F.keep).trans u)
  · rcases List.mem_cons.mp hm with rfl | hm
    · rw [X.2.2] at e; cases e
    · rcases kts_mem hm with z | z
      · rw [z, kts_self F] at e; cases e
      · exact nm z
  · rcases List.mem_cons.mp hm with z | hm
    · exact hx p hp z
    · rcases kts_mem hm with z | z
      · exact (N p (.tail _ hp)).2.1 z
      · obtain ⟨env', he, hf⟩ := List.mem_filterMap.mp z
        obtain ⟨o, ho, _⟩ := (K.frames.mem (List.mem_filterMap.mpr ⟨env', he, hf⟩)).2
        rw [(N p (.tail _ hp)).2.2] at ho; cases ho

theorem caught_x {KF : Frag} {p : Program} {loose : List Str} {mean : ExcName → Option Value} {mg mb : Str → Option Value} {xn n : Str} {b₀ : Stmt} {suite : List Stmt} {pos np : Pos} {rest : List ExceptHandler} {Q : Flow → Shared → Prop}
    (R : RaisedX base G (envOf name scope L a cd :: outer) x C D news s'.heap) (F : Fr g L G m) (K : Below A₀ base outer g) (hsm : G.UpToSlots s'.heap) (XB : KF.In base) (TB : Top p loose mean mg mb base)
    (ex : nsIn KF mainGlobals xn = some (some (.ref C))) (hC : KF.lookup C = some (excClassObj nm q C Nn bs bm true sn sub ab col dd k0 k1 k2 k3 k5 newId)) (hbase : bm.contains (.type "BaseException") = true)
    (k : ∀ h' g' tk vs, KtsTurn (outer.filterMap (·.frame)) g g' → Fr g' L h' (fun y => if y = n then some (.ref x) else m y) → News g' L h' ((x, { cls := .ref C, dict := some D, data := .fields vs }) :: news) → Below A₀ base outer g' → KF.In g' → Top p loose mean mg mb g' →
      wpAny (model prog w) ((A₀.deeper (envOf name scope L a cd)).mark (some (.ref x))) (execs (b₀ :: suite) (envOf name scope L a cd))
        (fun f s₄ => wpAny (model prog w) (A₀.deeper (envOf name scope L a cd)) (do bindName (envOf name scope L a cd) n .none; unbindBehindTheSuite (envOf name scope L a cd) n pos) (fun _ s₅ => Q f s₅) E s₄)
        (AsSuiteRaised (model prog w) ((A₀.deeper (envOf name scope L a cd)).mark (some (.ref x))) (envOf name scope L a cd) n pos (notedBy (model prog w) ((A₀.deeper (envOf name scope L a cd)).mark (some (.ref x))) (envOf name scope L a cd) (cameBackBy (model prog w) (A₀.deeper (envOf name scope L a cd)) (envOf name scope L a cd) E)))
        { s' with heap := h', toks := tk })
    (hk : scope.kind = .function := by rfl) (hlo : (envOf name scope L a cd).kindOf n = some .local := by rfl) (hxn : (envOf name scope L a cd).kindOf xn = some .globalImplicit := by rfl) (hd : (xn == ("__debug__" : Str)) = false := by decide) :
    wpAny (model prog w) (A₀.deeper (envOf name scope L a cd)) (noteFrame (.ref x) (envOf name scope L a cd))
      (fun _ s₂ => wpAny (model prog w) (A₀.deeper (envOf name scope L a cd)) (setFlight (.ref x) none) (fun _ s₃ =>
        wpAny (model prog w) (A₀.deeper (envOf name scope L a cd)) (handleBy (.ref x) (envOf name scope L a cd) (.ExceptHandler (some (.Name xn np)) (some n) (b₀ :: suite) pos :: rest)) Q E s₃) E s₂) E s' := by
  obtain ⟨B, hB, hBG, hl, Y, hGx⟩ := R
  refine fly_note (Around.frames_deeper K.stack) rfl Y fun h₄ Y₄ u₄ => ?_
  refine fly_land Y₄ fun h₅ Y₅ u₅' => ?_
  have u₅ := u₄.trans u₅'
  obtain ⟨g₅, T₅, F₅, K₅⟩ := kts_ground K F hBG Y₅.stays (hsm.trans u₅)
  have X₅ : KF.In g₅ := XB.keeps K₅.stays
  have P₅ : TopRead p loose mg mb g₅ := topRead_of (TB.keeps K₅.stays)
  obtain ⟨vs₅, hx₅⟩ := Y₅.obj
  have hC₅ := F₅.keep _ _ (X₅ _ _ hC)
  refine wpAny_handleBy_cons (codeAny_handlers_test (name_K F₅ X₅ P₅ ex ?_ hk hxn hd)) (by intro q; cases q)
  refine wpAny_excMatches_sub_self hC₅ hx₅ rfl hbase (codeAny_handlers_suite_as ?_)
  refine fly_land Y₅ fun h₆ Y₆ u₆ => ?_
  obtain ⟨g₆, T₆, F₆, K₆⟩ := kts_ground K F hBG Y₆.stays ((hsm.trans u₅).trans u₆)
  obtain ⟨vs₆, hx₆⟩ := Y₆.obj
  have hL : B.get? L = none := by
    obtain ⟨_, ⟨L', _, hf, hn', _⟩, _⟩ := Y₆.frames
    obtain rfl : L = L' := Option.some.inj hf
    exact hn'
  have xL : x ≠ L := fun z => by
    obtain ⟨o, es, ep, ho, hod, _⟩ := F₆.ns
    rw [← z, hx₆] at ho
    cases ho
    cases hod
  have N₆ : News g₆ L h₆ ((x, { cls := .ref C, dict := some D, data := .fields vs₆ }) :: news) := fun p hp => by
    rcases List.mem_cons.mp hp with rfl | hp
    · exact ⟨hx₆, xL, T₆.none_ _ (kts_none F.keep hGx)⟩
    · refine ⟨Y₆.stays _ _ (hl p hp).1, fun z => ?_, T₆.none_ _ (kts_none F.keep (hl p hp).2)⟩
      have := (hl p hp).1
      rw [z, hL] at this; cases this
  refine stN F₆ N₆ (fun h₇ F₇ N₇ => ?_) hk hlo
  exact k h₇ g₆ _ vs₆ T₆ F₇ N₇ K₆ (XB.keeps K₆.stays) (TB.keeps K₆.stays)
theorem code_defX {K : Frag} {p : Program} {loose : List Str} {mean : ExcName → Option Value} {mg mb : Str → Option Value} {R : Result → Shared → Prop} {qual : Str} {params : Arguments} {body : List Stmt} {dV kV doc pm cdv ct oc : Value} {an od : Option Addr} {osl : Array (Option Value)} {f : Addr} {args : Args} {binds : List (Str × Value)}
    (B : Below A₀ base [] h₀) (F : Fr h₀ L s.heap m) (X₀ : K.In h₀) (N : News h₀ L s.heap news) (T : Top p loose mean mg mb h₀) (hA : A.frames = some [env]) (hf : env.frame = some L) (hke : env.scope.kind = .function)
    (ho : K.lookup f = some ⟨oc, od, .func (fnOf name qual params body scope dV kV doc pm an cdv ct), osl⟩) (hcd : codeIn K cdv qual = true) (hroom : A.depth < recursionLimit)
    (hbind : BindsTo s (fnOf name qual params body scope dV kV doc pm an cdv ct) args binds) (hloc : ∀ y ∈ binds, scope.names.lookup y.1 = some .local)
    (h : ∀ g L' h₁, Fr h₀ L g m → Fr g L' h₁ (fun y => binds.reverse.lookup y) → News g L' h₁ news → Below A base [env] g → K.In g → Top p loose mean mg mb g →
      wpAny (model prog w) (A.deeper (envOf qual scope L' f cdv)) (execs body (envOf qual scope L' f cdv))
        (fun fl s' => LeaveS0 [L] h₀ L m g R (match fl with | .ret v => v | _ => .none) s')
        (fun e s' => wpAny (model prog w) (A.deeper (envOf qual scope L' f cdv)) (leaving (envOf qual scope L' f cdv) e) (fun _ s'' => R (.error e) s'') (fun e' s'' => R (.error e') s'') s')
        { s with heap := h₁, toks := s.toks + binds.length })
    (hco : scope.isCoroutine = false) (hgen : scope.isGenerator = false) (hk : scope.kind = .function)
    (hcell : ∀ x ∈ scope.names, x.2 ≠ .cell) : codeAny (model prog w) A (.call (.ref f) args) R s := by
  have X := X₀.keeps F.keep
  obtain ⟨FG, BG, st, -⟩ := groundX (R := R) B F N hA hf hke
  obtain ⟨oL, es, ep, hLg, hLd, hLk, hLf⟩ := FG.ns
  refine codeAny_call_def (fd := fnOf name qual params body scope dV kV doc pm an cdv ct) (body := body) (binds := binds) hroom (X _ _ ho) rfl (T.nolimit.keeps F.keep) (codeRec_of X hcd) rfl hbind hcell hloc (fun h₁ hns hk₁ => ?_) hco hgen hk
  refine wpAny_mono (h _ s.heap.objs.size h₁ FG ⟨hns, fun b o e => hk₁ b o (of_hideAll _ e), Nat.le_of_eq (hideAll_size _ _)⟩
    (fun p hp => ⟨hk₁ _ _ (N p hp).1, Nat.ne_of_lt (Heap.lt_size (N p hp).1), hideAll_none _ (List.mem_map_of_mem hp)⟩) BG (X₀.keeps st) (T.keeps st)) (fun fl s' hl => ?_) fun _ _ y => y
  obtain ⟨g', L', m', news', T', F', N', k⟩ := hl
  have nL₀ : h₀.get? L = none := kts_self F
  obtain ⟨sl, hs⟩ := T'.up hLg
  refine k ⟨⟨_, es, ep, F'.keep _ _ hs, hLd, hLk, hLf⟩, fun b o e => F'.keep b o (T'.other b o (st b o e) (fun q => by
    rw [List.mem_singleton.mp q, nL₀] at e; cases e)), F.above⟩ fun p hp => ⟨(N' p hp).1, fun q => ?_, ?_⟩
  · have := (N' p hp).2.2; rw [q, hs] at this; cases this
  · cases q : h₀.get? p.1 with
    | none => rfl
    | some o =>
      obtain ⟨sl', hs'⟩ := T'.up (st _ _ q)
      have := (N' p hp).2.2
      rw [hs'] at this
      cases this
end
end Mine
end

/- part W_fly3 -/
section
open PySem PySem.W PyProof.Rows PySem.Calls PySem.Spec
set_option linter.unusedVariables false
set_option maxRecDepth 100000
namespace Mine
theorem x58 {w : World} : XCls (hd.heap_39 w.params) 58 38 := by
  (have hfill9 : (Challenge.rw_nm0112_01 = Challenge.rw_nm0112_01) ∧ (hd.heap_39 = hd.heap_39) := by (k_fill; exact ⟨rfl, rfl⟩))
  exact ⟨⟨_, by k_is, rfl, rfl, rfl, rfl⟩, by k_is⟩
theorem allNe_of {news : List (Addr × Obj)} {d x : Addr} (h : ∀ p ∈ news, p.1 < d) (hd : @LE.le Nat _ d x) : ∀ p ∈ news, p.1 ≠ x := fun p hp e => by
  have := h p hp
  rw [e] at this
  exact absurd this (Nat.not_lt.mpr hd)
theorem meta_exc : typeOf (.type "Exception") = pure (.type "type") := by kernel_rfl
theorem b58 : BasesOk [.ref 38, .type "Exception", .type "BaseException", .type "object"] := ⟨by decide +kernel, by decide +kernel, by decide +kernel⟩
section
variable {prog : Program} {w : World} {A : Around} {E : Value → Shared → Prop} {s : Shared} {K : Frag} {x C D L : Addr} {h₀ : Heap} {m : Str → Option Value} {news : List (Addr × Obj)} {name : Str} {v : Value} {es : List DictEntry} {n : Nat}
variable {nm q : Str} {Nn : Addr} {bs bm : List Value} {sn : List Str} {sub : List Value} {ab : Bool} {col : Option Bool} {dd : Option Addr} {k0 k1 k2 k3 k5 : Option Value} {newId : String}
theorem RaiseX.intro {t : Addr} (F : Fr h₀ L s.heap m) (X : K.In h₀) (N : News h₀ L s.heap ((x, xObj C (some D) t) :: news)) (hC : K.lookup C = some (excClassObj nm q C Nn bs bm true sn sub ab col dd k0 k1 k2 k3 k5 newId)) (hb : bm.contains (.type "BaseException") = true) (hE : E (.ref x) s) :
    RaiseX E (.ref x) s := ⟨x, C, D, t, nm, q, Nn, bs, bm, sn, sub, ab, col, dd, k0, k1, k2, k3, k5, newId, rfl, F.keep _ _ (X _ _ hC), hb, (N _ (.head _)).1, hE⟩
end

theorem m_exc {prog : Program} {w : World} {A : Around} {E : Value → Shared → Prop} {s : Shared} {L : Addr} {h₀ : Heap} {m : Str → Option Value} {pl : Sem Bool} {Q : Value × List Value → Shared → Prop} (F : Fr h₀ L s.heap m) (X : (hd.heap_39 w.params).In h₀)
    (h : Q (.builtin "Exception.__init__", []) { s with toks := s.toks + 1 }) : wpAny (model prog w) A (getMethod (.type "Exception") "__init__" pl) Q E s := by
  (have hfill9 : (Challenge.rw_nm0112_01 = Challenge.rw_nm0112_01) ∧ (hd.heap_39 = hd.heap_39) := by (k_fill; exact ⟨rfl, rfl⟩))
  exact method_type F X meta_exc (by decide +kernel) (by k_is) (by k_handed) h
end Mine
end

/- part W_fly4 -/
section
open PySem PySem.W PyProof.Rows PySem.Calls PySem.Spec
set_option linter.unusedVariables false
set_option maxRecDepth 100000
namespace Mine
section
variable {prog : Program} {w : World} {A : Around} {E : Value → Shared → Prop} {s : Shared} {K : Frag} {x C D L : Addr} {h₀ : Heap} {m : Str → Option Value} {news : List (Addr × Obj)} {name : Str} {v : Value} {es : List DictEntry} {n : Nat}
theorem x_get {P : Addr} {vs : Array Value} {expr : Bool} {attr : Option Value} {Q : Value → Shared → Prop} (F : Fr h₀ L s.heap m) (X₀ : K.In h₀) (N : News h₀ L s.heap news) (h1 : (x, ({ cls := .ref C, dict := some D, data := .fields vs } : Obj)) ∈ news) (h2 : (D, dictOf es n) ∈ news) (Y : XCls K C P)
    (hg : findIn K (.ref C) "__getattribute__" = some (some (.builtin "BaseException.__getattribute__"))) (hg2 : findIn K (.ref C) "__getattr__" = some none)
    (hh : hasDictIn K C = true) (ha : findIn K (.ref C) name = some attr) (hn : noGet K attr = true) (hl : getL name es = some (some v)) (hv : handedIn v = true) (h : Q v { s with toks := s.toks + 1 }) :
    wpAny (model prog w) A (getAttr (.ref x) name expr) Q E s := by
  have X := X₀.keeps F.keep
  have I : InstAt s.heap x { cls := .ref C, dict := some D, data := .fields vs } C (some (dictOf es n)) := ⟨(N _ h1).1, rfl, rfl, (N _ h2).1⟩
  obtain ⟨cd, hc, hmro, -⟩ := Y.cls
  have hf := findObj_own (K := K) (C := C) (od := dictOf es n) hh ha hn (v := v) (by rw [lookIn_dict]; exact hl)
  have L0 := I.type (M := model prog w)
  have L1 := looks_findIn (M := model prog w) X hg
  have L2 := looks_findIn (M := model prog w) X hg2
  have L3 := looks_find (M := model prog w) X I hf
  have isE : Looks (model prog w) s.heap (isInstance (.ref x) (.type "BaseException")) true := I.type.andThen (looks_mroIn X (by unfold mroIn; rw [hc, Option.bind_some, hmro]; rfl))
  have S := PySem.F.attr_Exception.ga
  obtain ⟨hp, g, d, t, os⟩ := s
  unfold getAttr getAttrBy
  refine wpAny_bind (wpAny_mkText (wpAny_holding (wpAny_bind (L0.at (wpAny_bind (L1.at ?_))))))
  have hx2 : (Value.builtin "BaseException.__getattribute__" == Value.builtin "object.__getattribute__") = false := by decide +kernel
  dsimp only
  rw [hx2, Bool.and_false]
  rw [if_neg Bool.false_ne_true]
  unfold getAttrByItsOwn hookBefore
  show wpAny _ _ (typeLookup (.ref C) "__getattr__" >>= _) _ _ _
  refine wpAny_bind (L2.at ?_)
  have hx0 : (expr && onTheHeap (Value.builtin "BaseException.__getattribute__")) = false := by cases expr <;> rfl
  unfold callGetattribute
  rw [hx0, if_neg Bool.false_ne_true]
  unfold boundAndCalled
  rw [S.bind]
  refine wpAny_bind (wpAny_attempt (wpAny_holding (wpAny_bind (wpAny_pure (wpAny_call ?_)))))
  have hk : builtinKind "BaseException.__getattribute__" = some .slot := by decide +kernel
  have hsplit : splitId "BaseException.__getattribute__" = some ("BaseException", "__getattribute__") := by decide +kernel
  show codeAny _ _ (.call (.builtin "BaseException.__getattribute__") ⟨[.ref x, .str name t], []⟩) _ ⟨hp, g, d, t + 1, os⟩
  refine codeAny_call_builtin S.plain PySem.F.entry_bexc_ga (@check_slot (model prog w) _ _ ⟨hp, g, d, t + 1, os⟩ "BaseException.__getattribute__" "BaseException" "__getattribute__" (.ref x) [.str name t] [] _ hk hsplit isE (PySem.F.args_bexc_ga (.ref x) (.str name t)) ?_)
  unfold Builtin.«object.__getattribute__»
  refine wpAny_bind (wpAny_pure (a := (Value.ref x, [Value.str name t])) ?_)
  refine wpAny_bind (wpAny_pure (a := name) ?_)
  refine wpAny_bind (L0 _ _ _ _ (fun _ _ e => e) ?_)
  refine wpAny_bind (L3 _ _ _ _ (fun _ _ e => e) ?_)
  refine wpAny_pure ?_
  show wpAny _ _ (handedOut v) _ _ _
  rw [handedOut_of hv]
  refine wpAny_pure h
end
end Mine
end

/- part W_bad -/
section
open PySem PySem.W PyProof.Rows
set_option linter.unusedVariables false
set_option maxRecDepth 100000
namespace Mine
local macro_rules | `(tactic| k_room) => `(tactic| ktr_room)
local macro_rules | `(tactic| k_all) => `(tactic| exact allNe_of (by with_reducible assumption) (by omega))
set_option maxHeartbeats 8000000 in
theorem c_bad {w : World} {mean : ExcName → Option Value} {mg mb : Str → Option Value} {dp un : Nat} {gd : Option (List Code)} {cn : Str} {cs : Scope} {a : Addr} {ccd : Value} {cl : List (Str × Addr)} {outer : List Env} {A₀ : Around} {base h₀ : Heap} {L : Addr} {m : Str → Option Value} {news : List (Addr × Obj)} {s : Shared}
   {y : Str} {ty : Tok} {ro : Int} {tr : Tok} {co : Int} {tc : Tok} {Q E : Value → Shared → Prop}
   (B : Below A₀ base outer h₀) (F : Fr h₀ L s.heap m) (X : (hd.heap_39 w.params).In h₀) (N : News h₀ L s.heap news) (T : Top hd.view_39 (looseW hd.view_39 [Str.ofString "is_token"]) mean mg mb h₀) (hk : cs.kind = .function)
   (hdp : dp + 6 < recursionLimit) (hun : un + 248 < cLine) 
   (hret : ∀ (x D t : Addr) (k1 k2 k3 : Tok) (n : Nat) (h' : Heap) (tk' : Nat), Fr h₀ L h' m → News h₀ L h' ((x, xObj 58 (some D) t) :: (D, dictOf [⟨PyData.keyHash w.params "why", .str "why" k1, .str y ty⟩, ⟨PyData.keyHash w.params "row", .str "row" k2, .int ro tr⟩, ⟨PyData.keyHash w.params "column", .str "column" k3, .int co tc⟩] n) :: news) → (∀ p ∈ news, p.1 < x) → @LT.lt Nat _ x D → Q (.ref x) { s with heap := h', toks := tk' }) :
   wpAny (model Challenge.rw_nm0112_01.row.prog w) (ktrTop dp un gd cn cs L a ccd cl outer) (call (.ref 58) [.str y ty, .int ro tr, .int co tc]) Q E s := by
  k_with_none
  w_top off
  (k_with "getMethod type:Exception" => (k_here; k_dflt (refine' m_exc ?F ?X ?_; (case F => k_asm); (case X => k_asm)); (try dsimp only)))
  (k_with "call ref" => (k_here; (with_reducible show wpAny _ _ (call (Value.ref 58) [_, _, _]) _ _ _); k_dflt (refine' call_exc ?k1 ?k2 ?k3 ?k4 ?k5 ?k6 ?k7 ?k8 ?_; (case k1 => k_asm); (case k2 => k_asm); (case k3 => k_asm); (case k4 => k_is); (case k5 => exact b58); (case k6 => k_is); (case k7 => k_is); (case k8 => exact Nat.le_of_ble_eq_true rfl)); intro x' t' h' F' N' l1 l2; (try k_lt l1); (try k_lt2 l2); (try k_sweep); k_enter))
  (k_with "call builtin:Exception.__init__" => (k_here; k_dflt (refine' x_init ?k1 ?k2 ?k3 ?k4 ?k5 ?k6 ?k7 ?_; (case k1 => k_asm); (case k2 => k_asm); (case k3 => k_asm); (case k4 => k_all); (case k5 => exact x58); (case k6 => k_is); (case k7 => exact Nat.le_of_ble_eq_true rfl)); intro D' h' F' N' l1 l2; (try k_lt l1); (try k_lt2 l2); (try k_sweep)))
  (k_with "setAttr ref" => (k_here; k_dflt (refine' x_set0 ?k1 ?k2 ?k3 ?k4 ?k5 ?k6 ?_; (case k1 => k_asm); (case k2 => k_asm); (case k3 => k_asm); (case k4 => k_all); (case k5 => exact x58); (case k6 => k_is)); intro D' h' F' N' l1 l2; (try k_lt l1); (try k_lt2 l2); (try k_sweep)))
  (k_with "setAttr ref" => (k_here; k_dflt (refine' x_set1 ?k1 ?k2 ?k3 ?k4 ?k5 ?k6 ?k7 ?k8 ?ke ?k9 ?_; (case k1 => k_asm); (case k2 => k_asm); (case k3 => k_asm); (case k4 => assumption); (case k5 => k_asm); (case k6 => exact x58); (case k7 => k_is); (case k8 => k_get); (case ke => k_put); (case k9 => exact Nat.le_of_ble_eq_true rfl)); intro h' F' N'; (try k_sweep)))
  (k_with "exec Raise some none" => (k_here; (with_reducible show wpAny _ _ (exec (Stmt.Raise (some _) none _) _) _ _ _); k_dflt (refine raise_x (by exact rfl) ?_)))
  (k_with "RaiseX" => (k_dflt (refine' RaiseX.intro ?k1 ?k2 ?k3 ?k4 ?k5 ?_; (case k1 => k_asm); (case k2 => k_asm); (case k3 => k_asm); (case k4 => k_is); (case k5 => decide +kernel)); (try dsimp only)))
  (k_with "leaving ref" => (k_here; k_dflt (refine' leave_x ?k1 ?k2 ?k3 ?k4 ?_; (case k2 => k_asm); (case k1 => assumption); (case k3 => k_asm); (case k4 => k_all)); intro h' R' U'; (try dsimp only at R' U' ⊢)))
  (k_with "noteFrame ref" => (k_here; k_dflt (refine' caught_x ?R ?F ?K ?U ?XB ?TB ?ex ?hC ?hb ?_; (case R => assumption); (case F => assumption); (case K => assumption); (case U => assumption); (case XB => assumption); (case TB => assumption); (case ex => k_is); (case hC => k_is); (case hb => decide +kernel)); intro h' g' tk' vs' T' F' N' K' X' P'; (try k_lift K'); (try k_sweep)))
  (k_with "getAttr ref" => (k_here; k_dflt (refine' x_get ?F ?X ?N ?h1 ?h2 ?Y ?g ?g2 ?d ?a ?n ?l ?v ?_; (case F => k_asm); (case X => k_asm); (case N => k_asm); (case h1 => k_mem); (case h2 => k_mem); (case Y => exact x58); (case g => k_is); (case g2 => k_is); (case d => k_is); (case a => k_is); (case n => k_is); (case l => k_get); (case v => k_handed))))
  (have hfill9 : (Challenge.rw_nm0112_01 = Challenge.rw_nm0112_01) ∧ (hd.heap_39 = hd.heap_39) := by (k_fill; exact ⟨rfl, rfl⟩))
  k_dflt (refine' call_exc ?k1 ?k2 ?k3 ?k4 ?k5 ?k6 ?k7 ?k8 ?_; (case k1 => k_asm); (case k2 => k_asm); (case k3 => k_asm); (case k4 => k_is); (case k5 => exact b58); (case k6 => k_is); (case k7 => k_is); (case k8 => exact Nat.le_of_ble_eq_true rfl))
  intro x' t' h' F' N' lq1 lq2
  (try k_lt lq1); (try k_lt2 lq2); (try k_sweep)
  k_dflt cell_enter
  k_steps
  all_goals (first
    | (refine hret _ _ _ _ _ _ _ _ _ (by with_reducible assumption) (cb_drop (by with_reducible assumption) (by intro p9 hp9; rcases List.mem_cons.mp hp9 with rfl | hp9; exact List.Mem.head _; rcases List.mem_cons.mp hp9 with rfl | hp9; exact List.Mem.tail _ (List.Mem.head _); exact List.Mem.tail _ (List.Mem.tail _ (List.Mem.tail _ (List.Mem.tail _ hp9))))) (fun p hp => Nat.lt_trans (lq1 p hp) lq2) (by with_reducible assumption)))

end Mine
end

/- part W_tdue -/
section
open PySem PySem.W PyProof.Rows
set_option linter.unusedVariables false
set_option maxRecDepth 100000
namespace Mine
theorem sg_occ {x : Str} {b : Bool} (h : (Builtin.Str.occurrences (Str.ofString "+-") (Txt.item x 0) 0 (Str.length (Str.ofString "+-")) 1).isEmpty = b) : sgB x = !b := by
  have h1 := occ_mem (x := Str.ofString "+-") (n := (Txt.charAt x 0).getD 0) (l := [43, 45]) (by decide +kernel) h
  rw [← h1]
  have e : ∀ (l : Str) (k : Nat), l = ⟨#[k]⟩ → (l == Txt.item x 0) = decide ((Txt.charAt x 0).getD 0 = k) := by
    intro l k hl
    rw [Bool.beq_comm]
    exact (one_eq _ k l hl _ rfl).symm
  have a := e (Str.ofString "+") 43 (by decide +kernel)
  have c := e (Str.ofString "-") 45 (by decide +kernel)
  unfold sgB
  rw [List.any_cons, List.any_cons, List.any_nil, a, c]
  simp
section
variable {sg : Bool} {n bi : Int}
theorem sg_t {x : Str} (h : (Builtin.Str.occurrences (Str.ofString "+-") (Txt.item x 0) 0 (Str.length (Str.ofString "+-")) 1).isEmpty = false) : sgB x = true := sg_occ h
theorem sg_f {x : Str} (h : (Builtin.Str.occurrences (Str.ofString "+-") (Txt.item x 0) 0 (Str.length (Str.ofString "+-")) 1).isEmpty = true) : sgB x = false := sg_occ h
theorem p32 : (2 : Int) ^ Int.toNat 32 = 4294967296 := by decide +kernel
theorem tt1 (hs : sg = true) (h0 : bi = 0) : dueF sg (some n) bi = .error UNX := due1 h0 hs
theorem tt2 (hs : sg = false) (h0 : bi = 0) (h : ¬ 2 ^ Int.toNat 32 ≤ n) : dueF sg (some n) bi = .ok n := due2 h0 hs (by rw [p32] at h; omega)
theorem tt3 (hs : sg = false) (h0 : bi = 0) (h : 2 ^ Int.toNat 32 ≤ n) : dueF sg (some n) bi = .error OUT32 := due3 h0 hs (by rw [p32] at h; omega)
theorem pw2 (h0 : bi ≠ 0) (hb : 0 ≤ bi) : (2 : Int) ^ bi.toNat = 2 * 2 ^ (bi - 1).toNat ∧ 0 < (2 : Int) ^ (bi - 1).toNat := by
  have e : bi.toNat = (bi - 1).toNat + 1 := by omega
  rw [e, Int.pow_succ, Int.mul_comm]
  exact ⟨rfl, Int.pow_pos (by decide)⟩
theorem tok_core {W : Int} (h0 : bi ≠ 0) (hW : (2 : Int) ^ bi.toNat = 2 * W) (hp : 0 < W) (h1 : -W ≤ n) (h2 : n < 2 * W) (h3 : sg = false ∨ n < W) : dueF sg (some n) bi = .ok (if n < W then n else n - 2 * W) := by
  have h3' : sg = false ∨ ¬ 2 ^ bi.toNat ≤ 2 * n := h3.imp id fun h => by omega
  rw [due7 h0 (by omega) (by omega) h3', hW]
  have em : n.fmod (2 * W) = n % (2 * W) := Int.fmod_eq_emod_of_nonneg _ (by omega)
  rw [em]
  rcases Int.lt_or_le n 0 with hn | hn
  · have e : n % (2 * W) = n + 2 * W := by
      rw [← Int.add_emod_right, Int.emod_eq_of_lt (by omega) (by omega)]
    rw [e, if_neg (by omega), if_pos (by omega)]
    congr 1; omega
  · have e : n % (2 * W) = n := Int.emod_eq_of_lt hn (by omega)
    rw [e]
    by_cases h : n < W
    · rw [if_pos (by omega), if_pos h]
    · rw [if_neg (by omega), if_neg h]
theorem tok1 (hb : 0 ≤ bi ∧ bi ≤ 72) (h0 : bi ≠ 0) (hs : sg = false) (h1 : -(1 * 2 ^ (bi - 1).toNat) ≤ n) (h2 : n < 2 * (1 * 2 ^ (bi - 1).toNat)) (h3 : 1 * 2 ^ (bi - 1).toNat ≤ n) : dueF sg (some n) bi = .ok (n - 2 * (1 * 2 ^ (bi - 1).toNat)) := by
  obtain ⟨e, p⟩ := pw2 h0 hb.1
  simp only [Int.one_mul] at *
  rw [tok_core h0 e p h1 h2 (.inl hs), if_neg (by omega)]
theorem tok2 (hb : 0 ≤ bi ∧ bi ≤ 72) (h0 : bi ≠ 0) (hs : sg = false) (h1 : -(1 * 2 ^ (bi - 1).toNat) ≤ n) (h2 : n < 2 * (1 * 2 ^ (bi - 1).toNat)) (h3 : ¬ 1 * 2 ^ (bi - 1).toNat ≤ n) : dueF sg (some n) bi = .ok n := by
  obtain ⟨e, p⟩ := pw2 h0 hb.1
  simp only [Int.one_mul] at *
  rw [tok_core h0 e p h1 h2 (.inl hs), if_pos (by omega)]
theorem tok3 (hb : 0 ≤ bi ∧ bi ≤ 72) (h0 : bi ≠ 0) (h1 : -(1 * 2 ^ (bi - 1).toNat) ≤ n) (h2 : n < 1 * 2 ^ (bi - 1).toNat) : dueF sg (some n) bi = .ok n := by
  obtain ⟨e, p⟩ := pw2 h0 hb.1
  simp only [Int.one_mul] at *
  rw [tok_core h0 e p h1 (by omega) (.inr h2), if_pos (by omega)]
theorem ter1 (hb : 0 ≤ bi ∧ bi ≤ 72) (h0 : bi ≠ 0) (h1 : ¬ -(1 * 2 ^ (bi - 1).toNat) ≤ n) : dueF sg (some n) bi = .error OUTC := by
  obtain ⟨e, p⟩ := pw2 h0 hb.1
  simp only [Int.one_mul] at *
  exact due4 h0 (by omega)
theorem ter2 (hb : 0 ≤ bi ∧ bi ≤ 72) (h0 : bi ≠ 0) (h2 : ¬ n < 2 * (1 * 2 ^ (bi - 1).toNat)) : dueF sg (some n) bi = .error OUTC := by
  obtain ⟨e, p⟩ := pw2 h0 hb.1
  simp only [Int.one_mul] at *
  exact due5 h0 (by omega)
theorem ter3 (hb : 0 ≤ bi ∧ bi ≤ 72) (h0 : bi ≠ 0) (hs : sg = true) (h2 : ¬ n < 1 * 2 ^ (bi - 1).toNat) : dueF sg (some n) bi = .error OUTC := by
  obtain ⟨e, p⟩ := pw2 h0 hb.1
  simp only [Int.one_mul] at *
  exact due6 h0 hs (by omega)
end
/-- the tuple that is told -/
def toldO (d : Except Str Int) (ro co : Int) (t1 t2 t3 : Tok) : Obj := match d with
  | .ok v => { cls := .type "tuple", data := .seq #[.str (Str.ofString "told") t1, .int v t2] }
  | .error y => { cls := .type "tuple", data := .seq #[.str y t1, .int ro t2, .int co t3] }
theorem toldO_ok {d : Except Str Int} {v : Int} {ro co : Int} {t1 t2 t3 : Tok} (h : d = .ok v) : toldO d ro co t1 t2 t3 = { cls := .type "tuple", data := .seq #[.str (Str.ofString "told") t1, .int v t2] } := by rw [h]; rfl
theorem toldO_error {d : Except Str Int} {y : Str} {ro co : Int} {t1 t2 t3 : Tok} (h : d = .error y) : toldO d ro co t1 t2 t3 = { cls := .type "tuple", data := .seq #[.str y t1, .int ro t2, .int co t3] } := by rw [h]; rfl
end Mine
end

/- part W_told -/
section
open PySem PySem.W PyProof.Rows
set_option linter.unusedVariables false
set_option maxRecDepth 100000
namespace Mine
local macro_rules | `(tactic| k_room) => `(tactic| ktr_room)
local macro_rules | `(tactic| k_all) => `(tactic| exact allNe_of (by with_reducible assumption) (by omega))
set_option maxHeartbeats 8000000 in
theorem c_toldS2 {w : World} {mean : ExcName → Option Value} {mg mb : Str → Option Value} {dp un : Nat} {gd : Option (List Code)} {cn : Str} {cs : Scope} {a : Addr} {ccd : Value} {cl : List (Str × Addr)} {A₀ : Around} {h₀ : Heap} {L : Addr} {m : Str → Option Value} {news : List (Addr × Obj)} {s : Shared}
   {it dt : Addr} {nd : Nat} {u1 u2 u3 u4 u5 tv ts tx tr tc : Tok} {ro co : Int} {x : Str} {n : Int} {bi : Int} {tb : Tok} {Q E : Value → Shared → Prop}
   (B : Below A₀ h₀ [] h₀) (F : Fr h₀ L s.heap m) (X : (hd.heap_39 w.params).In h₀) (N : News h₀ L s.heap news) (T : Top hd.view_39 (looseW hd.view_39 [Str.ofString "is_token"]) mean mg mb h₀) (hk : cs.kind = .function)
   (hdp : dp + 10 < recursionLimit) (hun : un + 280 < cLine) (hi1 : (it, instObj 77 dt) ∈ news) (hi2 : (dt, dictOf [⟨PyData.keyHash w.params "sort", .str "sort" u1, .str (Str.ofString "int") ts⟩, ⟨PyData.keyHash w.params "text", .str "text" u2, .str x tx⟩, ⟨PyData.keyHash w.params "value", .str "value" u3, .int n tv⟩, ⟨PyData.keyHash w.params "row", .str "row" u4, .int ro tr⟩, ⟨PyData.keyHash w.params "column", .str "column" u5, .int co tc⟩] nd) ∈ news) (hx : x.length ≤ 400) (hx1 : 1 ≤ x.length) (hb : 0 ≤ bi ∧ bi ≤ 72)
   (hT : ∀ (v : Int) (t1 t2 : Tok) (D : Addr) (h' : Heap) (tk' : Nat), dueF (sgB x) (some n) bi = .ok v → Fr h₀ L h' m → News h₀ L h' ((D, { cls := .type "tuple", data := .seq #[.str (Str.ofString "told") t1, .int v t2] }) :: news) → (∀ p ∈ news, p.1 < D) → Q (.ref D) { s with heap := h', toks := tk' })
   (hB : ∀ (y : Str) (t1 t2 t3 : Tok) (D : Addr) (h' : Heap) (tk' : Nat), dueF (sgB x) (some n) bi = .error y → Fr h₀ L h' m → News h₀ L h' ((D, { cls := .type "tuple", data := .seq #[.str y t1, .int ro t2, .int co t3] }) :: news) → (∀ p ∈ news, p.1 < D) → Q (.ref D) { s with heap := h', toks := tk' }) :
   wpAny (model Challenge.rw_nm0112_01.row.prog w) (ktrTop dp un gd cn cs L a ccd cl []) (call (.ref 206) [.ref it, .int bi tb]) Q E s := by
  k_with_none
  w_top off
  (k_with "getMethod type:Exception" => (k_here; k_dflt (refine' m_exc ?F ?X ?_; (case F => k_asm); (case X => k_asm)); (try dsimp only)))
  (k_with "call builtin:Exception.__init__" => (k_here; k_dflt (refine' x_init ?k1 ?k2 ?k3 ?k4 ?k5 ?k6 ?k7 ?_; (case k1 => k_asm); (case k2 => k_asm); (case k3 => k_asm); (case k4 => k_all); (case k5 => exact x58); (case k6 => k_is); (case k7 => exact Nat.le_of_ble_eq_true rfl)); intro D' h' F' N' l1 l2; (try k_lt l1); (try k_lt2 l2); (try k_sweep)))
  (k_with "setAttr ref" => (k_here; k_dflt (refine' x_set0 ?k1 ?k2 ?k3 ?k4 ?k5 ?k6 ?_; (case k1 => k_asm); (case k2 => k_asm); (case k3 => k_asm); (case k4 => k_all); (case k5 => exact x58); (case k6 => k_is)); intro D' h' F' N' l1 l2; (try k_lt l1); (try k_lt2 l2); (try k_sweep)))
  (k_with "setAttr ref" => (k_here; k_dflt (refine' x_set1 ?k1 ?k2 ?k3 ?k4 ?k5 ?k6 ?k7 ?k8 ?ke ?k9 ?_; (case k1 => k_asm); (case k2 => k_asm); (case k3 => k_asm); (case k4 => assumption); (case k5 => k_asm); (case k6 => exact x58); (case k7 => k_is); (case k8 => k_get); (case ke => k_put); (case k9 => exact Nat.le_of_ble_eq_true rfl)); intro h' F' N'; (try k_sweep)))
  (k_with "exec Raise some none" => (k_here; (with_reducible show wpAny _ _ (exec (Stmt.Raise (some _) none _) _) _ _ _); k_dflt (refine raise_x (by exact rfl) ?_)))
  (k_with "RaiseX" => (k_dflt (refine' RaiseX.intro ?k1 ?k2 ?k3 ?k4 ?k5 ?_; (case k1 => k_asm); (case k2 => k_asm); (case k3 => k_asm); (case k4 => k_is); (case k5 => decide +kernel)); (try dsimp only)))
  (k_with "leaving ref" => (k_here; k_dflt (refine' leave_x ?k1 ?k2 ?k3 ?k4 ?_; (case k2 => k_asm); (case k1 => assumption); (case k3 => k_asm); (case k4 => k_all)); intro h' R' U'; (try dsimp only at R' U' ⊢)))
  (k_with "noteFrame ref" => (k_here; k_dflt (refine' caught_x ?R ?F ?K ?U ?XB ?TB ?ex ?hC ?hb ?_; (case R => assumption); (case F => assumption); (case K => assumption); (case U => assumption); (case XB => assumption); (case TB => assumption); (case ex => k_is); (case hC => k_is); (case hb => decide +kernel)); intro h' g' tk' vs' T' F' N' K' X' P'; (try k_lift K'); (try k_sweep)))
  (k_with "getAttr ref" => (k_here; k_dflt (refine' x_get ?F ?X ?N ?h1 ?h2 ?Y ?g ?g2 ?d ?a ?n ?l ?v ?_; (case F => k_asm); (case X => k_asm); (case N => k_asm); (case h1 => k_mem); (case h2 => k_mem); (case Y => exact x58); (case g => k_is); (case g2 => k_is); (case d => k_is); (case a => k_is); (case n => k_is); (case l => k_get); (case v => k_handed))))
  (k_with "call ref" => (k_here; (with_reducible show wpAny _ _ (call (Value.ref 58) [Value.str _ _, Value.int _ _, Value.int _ _]) _ _ _); k_dflt (refine' c_bad ?k1 ?k2 ?k3 ?k4 ?k5 ?kK ?kd ?ku  ?_; (case k1 => k_asm); (case k2 => k_asm); (case k3 => k_asm); (case k4 => k_asm); (case k5 => k_asm); (case kK => first | exact rfl | assumption); (case kd => ktr_room); (case ku => ktr_units);  skip); (all_goals ((first | (intro x9 D9 t9 k19 k29 k39 n9 h9 tk9 F9 N9 l19 l29)); (try dsimp only); (try k_fold)))))
  (have hfill9 : (Challenge.rw_nm0112_01 = Challenge.rw_nm0112_01) ∧ (hd.heap_39 = hd.heap_39) := by (k_fill; exact ⟨rfl, rfl⟩))
  refine wpAny_call ?_
  k_dflt (refine' code_defX ?k1 ?k2 ?k3 ?k4 ?k5 ?kA ?kF ?kK ?k6 ?k7 ?k8 ?k9 ?kB ?_ ?c2 ?c3 ?c4 ?c5; (case kA => exact rfl); (case kF => exact rfl); (case kK => assumption); (case k1 => k_asm); (case k2 => k_asm); (case k3 => k_asm); (case k4 => k_asm); (case k5 => k_asm); (case k6 => k_is); (case k7 => k_is); (case k8 => ktr_room); (case k9 => exact BindsTo.of_eq rfl); (case c5 => decide); (case kB => exact locs rfl); (case c2 => exact rfl); (case c3 => exact rfl); (case c4 => exact rfl); k_whole; intro g' L' h' FG' F' N' B' X' T'; (try dsimp only); (try k_lift B'); (try k_fold))
  k_steps
  all_goals (first
    | exact hT _ _ _ _ _ _ (by first | exact tt2 (sg_f (by with_reducible assumption)) (by with_reducible assumption) (by with_reducible assumption) | exact tok1 (by with_reducible assumption) (by with_reducible assumption) (sg_f (by with_reducible assumption)) (by with_reducible assumption) (by with_reducible assumption) (by with_reducible assumption) | exact tok2 (by with_reducible assumption) (by with_reducible assumption) (sg_f (by with_reducible assumption)) (by with_reducible assumption) (by with_reducible assumption) (by with_reducible assumption) | exact tok3 (by with_reducible assumption) (by with_reducible assumption) (by with_reducible assumption) (by with_reducible assumption)) (by with_reducible assumption) (cb_drop (by with_reducible assumption) (by first | exact fun _ h => h | (intro p9 hp9; rcases List.mem_cons.mp hp9 with rfl | hp9; exact List.Mem.head _; exact List.Mem.tail _ (List.Mem.tail _ (List.Mem.tail _ hp9))))) (by first | with_reducible assumption | exact of_allLt (And.right (And.right (by with_reducible assumption))))
    | exact hB _ _ _ _ _ _ _ (by first | exact tt1 (sg_t (by with_reducible assumption)) (by with_reducible assumption) | exact tt3 (sg_f (by with_reducible assumption)) (by with_reducible assumption) (by with_reducible assumption) | exact ter1 (by with_reducible assumption) (by with_reducible assumption) (by with_reducible assumption) | exact ter2 (by with_reducible assumption) (by with_reducible assumption) (by with_reducible assumption) | exact ter3 (by with_reducible assumption) (by with_reducible assumption) (sg_t (by with_reducible assumption)) (by with_reducible assumption)) (by with_reducible assumption) (cb_drop (by with_reducible assumption) (by first | exact fun _ h => h | (intro p9 hp9; rcases List.mem_cons.mp hp9 with rfl | hp9; exact List.Mem.head _; exact List.Mem.tail _ (List.Mem.tail _ (List.Mem.tail _ hp9))))) (by first | with_reducible assumption | exact of_allLt (And.right (And.right (by with_reducible assumption)))))

end Mine
end

/- part W_toldB -/
section
open PySem PySem.W PyProof.Rows
set_option linter.unusedVariables false
set_option maxRecDepth 100000
namespace Mine
local macro_rules | `(tactic| k_room) => `(tactic| ktr_room)
local macro_rules | `(tactic| k_all) => `(tactic| exact allNe_of (by with_reducible assumption) (by omega))
set_option maxHeartbeats 8000000 in
theorem c_toldB2 {w : World} {mean : ExcName → Option Value} {mg mb : Str → Option Value} {dp un : Nat} {gd : Option (List Code)} {cn : Str} {cs : Scope} {a : Addr} {ccd : Value} {cl : List (Str × Addr)} {A₀ : Around} {h₀ : Heap} {L : Addr} {m : Str → Option Value} {news : List (Addr × Obj)} {s : Shared}
   {it dt : Addr} {nd : Nat} {u1 u2 u3 tr tc : Tok} {ro co : Int} {iv : Value} {bi : Int} {tb : Tok} {sg : Bool} {Q E : Value → Shared → Prop}
   (B : Below A₀ h₀ [] h₀) (F : Fr h₀ L s.heap m) (X : (hd.heap_39 w.params).In h₀) (N : News h₀ L s.heap news) (T : Top hd.view_39 (looseW hd.view_39 [Str.ofString "is_token"]) mean mg mb h₀) (hk : cs.kind = .function)
   (hdp : dp + 10 < recursionLimit) (hun : un + 280 < cLine) (hi1 : (it, instObj 105 dt) ∈ news) (hi2 : (dt, dictOf [⟨PyData.keyHash w.params "items", .str "items" u1, iv⟩, ⟨PyData.keyHash w.params "row", .str "row" u2, .int ro tr⟩, ⟨PyData.keyHash w.params "column", .str "column" u3, .int co tc⟩] nd) ∈ news) (hb : 0 ≤ bi ∧ bi ≤ 72)
   (hB : ∀ (y : Str) (t1 t2 t3 : Tok) (D : Addr) (h' : Heap) (tk' : Nat), dueF sg none bi = .error y → Fr h₀ L h' m → News h₀ L h' ((D, { cls := .type "tuple", data := .seq #[.str y t1, .int ro t2, .int co t3] }) :: news) → (∀ p ∈ news, p.1 < D) → Q (.ref D) { s with heap := h', toks := tk' }) :
   wpAny (model Challenge.rw_nm0112_01.row.prog w) (ktrTop dp un gd cn cs L a ccd cl []) (call (.ref 206) [.ref it, .int bi tb]) Q E s := by
  k_with_none
  w_top off
  (k_with "getMethod type:Exception" => (k_here; k_dflt (refine' m_exc ?F ?X ?_; (case F => k_asm); (case X => k_asm)); (try dsimp only)))
  (k_with "call builtin:Exception.__init__" => (k_here; k_dflt (refine' x_init ?k1 ?k2 ?k3 ?k4 ?k5 ?k6 ?k7 ?_; (case k1 => k_asm); (case k2 => k_asm); (case k3 => k_asm); (case k4 => k_all); (case k5 => exact x58); (case k6 => k_is); (case k7 => exact Nat.le_of_ble_eq_true rfl)); intro D' h' F' N' l1 l2; (try k_lt l1); (try k_lt2 l2); (try k_sweep)))
  (k_with "setAttr ref" => (k_here; k_dflt (refine' x_set0 ?k1 ?k2 ?k3 ?k4 ?k5 ?k6 ?_; (case k1 => k_asm); (case k2 => k_asm); (case k3 => k_asm); (case k4 => k_all); (case k5 => exact x58); (case k6 => k_is)); intro D' h' F' N' l1 l2; (try k_lt l1); (try k_lt2 l2); (try k_sweep)))
  (k_with "setAttr ref" => (k_here; k_dflt (refine' x_set1 ?k1 ?k2 ?k3 ?k4 ?k5 ?k6 ?k7 ?k8 ?ke ?k9 ?_; (case k1 => k_asm); (case k2 => k_asm); (case k3 => k_asm); (case k4 => assumption); (case k5 => k_asm); (case k6 => exact x58); (case k7 => k_is); (case k8 => k_get); (case ke => k_put); (case k9 => exact Nat.le_of_ble_eq_true rfl)); intro h' F' N'; (try k_sweep)))
  (k_with "exec Raise some none" => (k_here; (with_reducible show wpAny _ _ (exec (Stmt.Raise (some _) none _) _) _ _ _); k_dflt (refine raise_x (by exact rfl) ?_)))
  (k_with "RaiseX" => (k_dflt (refine' RaiseX.intro ?k1 ?k2 ?k3 ?k4 ?k5 ?_; (case k1 => k_asm); (case k2 => k_asm); (case k3 => k_asm); (case k4 => k_is); (case k5 => decide +kernel)); (try dsimp only)))
  (k_with "leaving ref" => (k_here; k_dflt (refine' leave_x ?k1 ?k2 ?k3 ?k4 ?_; (case k2 => k_asm); (case k1 => assumption); (case k3 => k_asm); (case k4 => k_all)); intro h' R' U'; (try dsimp only at R' U' ⊢)))
  (k_with "noteFrame ref" => (k_here; k_dflt (refine' caught_x ?R ?F ?K ?U ?XB ?TB ?ex ?hC ?hb ?_; (case R => assumption); (case F => assumption); (case K => assumption); (case U => assumption); (case XB => assumption); (case TB => assumption); (case ex => k_is); (case hC => k_is); (case hb => decide +kernel)); intro h' g' tk' vs' T' F' N' K' X' P'; (try k_lift K'); (try k_sweep)))
  (k_with "getAttr ref" => (k_here; k_dflt (refine' x_get ?F ?X ?N ?h1 ?h2 ?Y ?g ?g2 ?d ?a ?n ?l ?v ?_; (case F => k_asm); (case X => k_asm); (case N => k_asm); (case h1 => k_mem); (case h2 => k_mem); (case Y => exact x58); (case g => k_is); (case g2 => k_is); (case d => k_is); (case a => k_is); (case n => k_is); (case l => k_get); (case v => k_handed))))
  (k_with "call ref" => (k_here; (with_reducible show wpAny _ _ (call (Value.ref 58) [Value.str _ _, Value.int _ _, Value.int _ _]) _ _ _); k_dflt (refine' c_bad ?k1 ?k2 ?k3 ?k4 ?k5 ?kK ?kd ?ku  ?_; (case k1 => k_asm); (case k2 => k_asm); (case k3 => k_asm); (case k4 => k_asm); (case k5 => k_asm); (case kK => first | exact rfl | assumption); (case kd => ktr_room); (case ku => ktr_units);  skip); (all_goals ((first | (intro x9 D9 t9 k19 k29 k39 n9 h9 tk9 F9 N9 l19 l29)); (try dsimp only); (try k_fold)))))
  (have hfill9 : (Challenge.rw_nm0112_01 = Challenge.rw_nm0112_01) ∧ (hd.heap_39 = hd.heap_39) := by (k_fill; exact ⟨rfl, rfl⟩))
  refine wpAny_call ?_
  k_dflt (refine' code_defX ?k1 ?k2 ?k3 ?k4 ?k5 ?kA ?kF ?kK ?k6 ?k7 ?k8 ?k9 ?kB ?_ ?c2 ?c3 ?c4 ?c5; (case kA => exact rfl); (case kF => exact rfl); (case kK => assumption); (case k1 => k_asm); (case k2 => k_asm); (case k3 => k_asm); (case k4 => k_asm); (case k5 => k_asm); (case k6 => k_is); (case k7 => k_is); (case k8 => ktr_room); (case k9 => exact BindsTo.of_eq rfl); (case c5 => decide); (case kB => exact locs rfl); (case c2 => exact rfl); (case c3 => exact rfl); (case c4 => exact rfl); k_whole; intro g' L' h' FG' F' N' B' X' T'; (try dsimp only); (try k_lift B'); (try k_fold))
  k_steps
  all_goals (first
    | exact hB _ _ _ _ _ _ _ rfl (by with_reducible assumption) (cb_drop (by with_reducible assumption) (by first | exact fun _ h => h | (intro p9 hp9; rcases List.mem_cons.mp hp9 with rfl | hp9; exact List.Mem.head _; exact List.Mem.tail _ (List.Mem.tail _ (List.Mem.tail _ hp9))))) (by first | with_reducible assumption | exact of_allLt (And.right (And.right (by with_reducible assumption)))))

end Mine
end

/- part W_toldN -/
section
open PySem PySem.W PyProof.Rows
set_option linter.unusedVariables false
set_option maxRecDepth 100000
namespace Mine
local macro_rules | `(tactic| k_room) => `(tactic| ktr_room)
local macro_rules | `(tactic| k_all) => `(tactic| exact allNe_of (by with_reducible assumption) (by omega))
set_option maxHeartbeats 8000000 in
theorem c_toldN2 {w : World} {mean : ExcName → Option Value} {mg mb : Str → Option Value} {dp un : Nat} {gd : Option (List Code)} {cn : Str} {cs : Scope} {a : Addr} {ccd : Value} {cl : List (Str × Addr)} {A₀ : Around} {h₀ : Heap} {L : Addr} {m : Str → Option Value} {news : List (Addr × Obj)} {s : Shared}
   {it dt : Addr} {nd : Nat} {u1 u2 u3 u4 u5 ts tx tr tc : Tok} {ro co : Int} {z y9 : Str} {vv : Value} {bi : Int} {tb : Tok} {sg : Bool} {Q E : Value → Shared → Prop}
   (B : Below A₀ h₀ [] h₀) (F : Fr h₀ L s.heap m) (X : (hd.heap_39 w.params).In h₀) (N : News h₀ L s.heap news) (T : Top hd.view_39 (looseW hd.view_39 [Str.ofString "is_token"]) mean mg mb h₀) (hk : cs.kind = .function)
   (hdp : dp + 10 < recursionLimit) (hun : un + 280 < cLine) (hi1 : (it, instObj 77 dt) ∈ news) (hi2 : (dt, dictOf [⟨PyData.keyHash w.params "sort", .str "sort" u1, .str z ts⟩, ⟨PyData.keyHash w.params "text", .str "text" u2, .str y9 tx⟩, ⟨PyData.keyHash w.params "value", .str "value" u3, vv⟩, ⟨PyData.keyHash w.params "row", .str "row" u4, .int ro tr⟩, ⟨PyData.keyHash w.params "column", .str "column" u5, .int co tc⟩] nd) ∈ news) (hz : (z == Str.ofString "int") = false) (hb : 0 ≤ bi ∧ bi ≤ 72)
   (hB : ∀ (y : Str) (t1 t2 t3 : Tok) (D : Addr) (h' : Heap) (tk' : Nat), dueF sg none bi = .error y → Fr h₀ L h' m → News h₀ L h' ((D, { cls := .type "tuple", data := .seq #[.str y t1, .int ro t2, .int co t3] }) :: news) → (∀ p ∈ news, p.1 < D) → Q (.ref D) { s with heap := h', toks := tk' }) :
   wpAny (model Challenge.rw_nm0112_01.row.prog w) (ktrTop dp un gd cn cs L a ccd cl []) (call (.ref 206) [.ref it, .int bi tb]) Q E s := by
  k_with_none
  w_top off
  (k_with "getMethod type:Exception" => (k_here; k_dflt (refine' m_exc ?F ?X ?_; (case F => k_asm); (case X => k_asm)); (try dsimp only)))
  (k_with "call builtin:Exception.__init__" => (k_here; k_dflt (refine' x_init ?k1 ?k2 ?k3 ?k4 ?k5 ?k6 ?k7 ?_; (case k1 => k_asm); (case k2 => k_asm); (case k3 => k_asm); (case k4 => k_all); (case k5 => exact x58); (case k6 => k_is); (case k7 => exact Nat.le_of_ble_eq_true rfl)); intro D' h' F' N' l1 l2; (try k_lt l1); (try k_lt2 l2); (try k_sweep)))
  (k_with "setAttr ref" => (k_here; k_dflt (refine' x_set0 ?k1 ?k2 ?k3 ?k4 ?k5 ?k6 ?_; (case k1 => k_asm); (case k2 => k_asm); (case k3 => k_asm); (case k4 => k_all); (case k5 => exact x58); (case k6 => k_is)); intro D' h' F' N' l1 l2; (try k_lt l1); (try k_lt2 l2); (try k_sweep)))
  (k_with "setAttr ref" => (k_here; k_dflt (refine' x_set1 ?k1 ?k2 ?k3 ?k4 ?k5 ?k6 ?k7 ?k8 ?ke ?k9 ?_; (case k1 => k_asm); (case k2 => k_asm); (case k3 => k_asm); (case k4 => assumption); (case k5 => k_asm); (case k6 => exact x58); (case k7 => k_is); (case k8 => k_get); (case ke => k_put); (case k9 => exact Nat.le_of_ble_eq_true rfl)); intro h' F' N'; (try k_sweep)))
  (k_with "exec Raise some none" => (k_here; (with_reducible show wpAny _ _ (exec (Stmt.Raise (some _) none _) _) _ _ _); k_dflt (refine raise_x (by exact rfl) ?_)))
  (k_with "RaiseX" => (k_dflt (refine' RaiseX.intro ?k1 ?k2 ?k3 ?k4 ?k5 ?_; (case k1 => k_asm); (case k2 => k_asm); (case k3 => k_asm); (case k4 => k_is); (case k5 => decide +kernel)); (try dsimp only)))
  (k_with "leaving ref" => (k_here; k_dflt (refine' leave_x ?k1 ?k2 ?k3 ?k4 ?_; (case k2 => k_asm); (case k1 => assumption); (case k3 => k_asm); (case k4 => k_all)); intro h' R' U'; (try dsimp only at R' U' ⊢)))
  (k_with "noteFrame ref" => (k_here; k_dflt (refine' caught_x ?R ?F ?K ?U ?XB ?TB ?ex ?hC ?hb ?_; (case R => assumption); (case F => assumption); (case K => assumption); (case U => assumption); (case XB => assumption); (case TB => assumption); (case ex => k_is); (case hC => k_is); (case hb => decide +kernel)); intro h' g' tk' vs' T' F' N' K' X' P'; (try k_lift K'); (try k_sweep)))
  (k_with "getAttr ref" => (k_here; k_dflt (refine' x_get ?F ?X ?N ?h1 ?h2 ?Y ?g ?g2 ?d ?a ?n ?l ?v ?_; (case F => k_asm); (case X => k_asm); (case N => k_asm); (case h1 => k_mem); (case h2 => k_mem); (case Y => exact x58); (case g => k_is); (case g2 => k_is); (case d => k_is); (case a => k_is); (case n => k_is); (case l => k_get); (case v => k_handed))))
  (k_with "call ref" => (k_here; (with_reducible show wpAny _ _ (call (Value.ref 58) [Value.str _ _, Value.int _ _, Value.int _ _]) _ _ _); k_dflt (refine' c_bad ?k1 ?k2 ?k3 ?k4 ?k5 ?kK ?kd ?ku  ?_; (case k1 => k_asm); (case k2 => k_asm); (case k3 => k_asm); (case k4 => k_asm); (case k5 => k_asm); (case kK => first | exact rfl | assumption); (case kd => ktr_room); (case ku => ktr_units);  skip); (all_goals ((first | (intro x9 D9 t9 k19 k29 k39 n9 h9 tk9 F9 N9 l19 l29)); (try dsimp only); (try k_fold)))))
  (have hfill9 : (Challenge.rw_nm0112_01 = Challenge.rw_nm0112_01) ∧ (hd.heap_39 = hd.heap_39) := by (k_fill; exact ⟨rfl, rfl⟩))
  refine wpAny_call ?_
  k_dflt (refine' code_defX ?k1 ?k2 ?k3 ?k4 ?k5 ?kA ?kF ?kK ?k6 ?k7 ?k8 ?k9 ?kB ?_ ?c2 ?c3 ?c4 ?c5; (case kA => exact rfl); (case kF => exact rfl); (case kK => assumption); (case k1 => k_asm); (case k2 => k_asm); (case k3 => k_asm); (case k4 => k_asm); (case k5 => k_asm); (case k6 => k_is); (case k7 => k_is); (case k8 => ktr_room); (case k9 => exact BindsTo.of_eq rfl); (case c5 => decide); (case kB => exact locs rfl); (case c2 => exact rfl); (case c3 => exact rfl); (case c4 => exact rfl); k_whole; intro g' L' h' FG' F' N' B' X' T'; (try dsimp only); (try k_lift B'); (try k_fold))
  k_steps
  all_goals (first
    | exact hB _ _ _ _ _ _ _ rfl (by with_reducible assumption) (cb_drop (by with_reducible assumption) (by first | exact fun _ h => h | (intro p9 hp9; rcases List.mem_cons.mp hp9 with rfl | hp9; exact List.Mem.head _; exact List.Mem.tail _ (List.Mem.tail _ (List.Mem.tail _ hp9))))) (by first | with_reducible assumption | exact of_allLt (And.right (And.right (by with_reducible assumption)))))

end Mine
end

/- part W_lawp -/
section
open PySem PySem.W PyProof.Rows
set_option linter.unusedVariables false
set_option maxRecDepth 100000
namespace Mine
theorem sortS_ne (x : Str) : (sortS x == Str.ofString "int") = false := by
  unfold sortS
  split
  · decide +kernel
  · split <;> decide +kernel
def dataD (d : Except Str Int) (ro co : Int) : PyData := match d with
  | .ok v => .tuple [.str (Str.ofString "told"), .int v]
  | .error y => .tuple [.str y, .int ro, .int co]
theorem dataD_reads {h₀ : Heap} {L D : Addr} {h : Heap} {news : List (Addr × Obj)} {d : Except Str Int} {ro co : Int} {t1 t2 t3 : Tok} (N : News h₀ L h news) (hm : (D, toldO d ro co t1 t2 t3) ∈ news) : ∃ as, Reads h (.ref D) (dataD d ro co) as := by
  have g := (N _ hm).1
  cases d with
  | ok v => exact ⟨_, PyProof.Rows.reads_tuple_at g rfl rfl (.cons (.str _ _) (.cons (.int _ _) .nil))⟩
  | error y => exact ⟨_, PyProof.Rows.reads_tuple_at g rfl rfl (.cons (.str _ _) (.cons (.int _ _) (.cons (.int _ _) .nil)))⟩
theorem due_y {sg : Bool} {num : Option Int} {bi : Int} {y : Str} (e : dueF sg num bi = .error y) : y = UNX ∨ y = OUT32 ∨ y = OUTC := by
  unfold dueF at e
  split at e
  · injection e with e; exact .inl e.symm
  · split at e
    · split at e
      · injection e with e; exact .inl e.symm
      · split at e
        · cases e
        · injection e with e; exact .inr (.inl e.symm)
    · split at e
      · injection e with e; exact .inr (.inr e.symm)
      · cases e
theorem told_ok : PyData.strOk (Str.ofString "told") = true ∧ PyData.strOk UNX = true ∧ PyData.strOk OUT32 = true ∧ PyData.strOk OUTC = true := by decide +kernel
theorem dataD_ok (sg : Bool) (num : Option Int) (bi ro co : Int) : PySem.SeqAt.shaped (dataD (dueF sg num bi) ro co) = true ∧ (dataD (dueF sg num bi) ro co).eqv (dataD (dueF sg num bi) ro co) = true := by
  obtain ⟨o1, o2, o3, o4⟩ := told_ok
  cases hd : dueF sg num bi with
  | ok v => exact ⟨by simp [dataD, PySem.SeqAt.shaped, PyData.canLay0, PyData.canLayAll0, PyData.depth, PyData.depthAll, o1], by simp [dataD, PyData.eqv, PyData.eqvAll]⟩
  | error y =>
    have oy : PyData.strOk y = true := by rcases due_y hd with rfl | rfl | rfl <;> assumption
    exact ⟨by simp [dataD, PySem.SeqAt.shaped, PyData.canLay0, PyData.canLayAll0, PyData.depth, PyData.depthAll, oy], by simp [dataD, PyData.eqv, PyData.eqvAll]⟩
theorem unx_of {sg : Bool} {bi : Int} {y : Str} (e : dueF sg none bi = .error y) : y = UNX := by
  have e' : (Except.error UNX : Except Str Int) = .error y := e
  injection e' with e'
  exact e'.symm
theorem ne_told {prog : Program} {w : World} {A : Around} {E : Value → Shared → Prop} {s : Shared} {h₀ : Heap} {L D1 D2 : Addr} {news : List (Addr × Obj)} {sg : Bool} {num : Option Int} {bi : Int} {ro co : Int} {t1 t2 t3 u1 u2 u3 : Tok} {Q : Value → Shared → Prop}
    (N : News h₀ L s.heap news) (h1 : (D1, toldO (dueF sg num bi) ro co t1 t2 t3) ∈ news) (h2 : (D2, toldO (dueF sg num bi) ro co u1 u2 u3) ∈ news) (hu : A.units + 64 < cLine) (h : Q (.bool false) s) :
    wpAny (model prog w) A (compareOp .NotEq (.ref D1) (.ref D2)) Q E s := by
  obtain ⟨_, r1⟩ := dataD_reads N h1
  obtain ⟨_, r2⟩ := dataD_reads N h2
  obtain ⟨a, b⟩ := dataD_ok sg num bi ro co
  refine PyProof.Rows.ne_dataH r1 r2 a a hu ?_
  rw [b]; exact h
set_option maxHeartbeats 8000000 in
theorem c_told {w : World} {mean : ExcName → Option Value} {mg mb : Str → Option Value} {dp un : Nat} {gd : Option (List Code)} {cn : Str} {cs : Scope} {a : Addr} {ccd : Value} {cl : List (Str × Addr)} {A₀ : Around} {h₀ : Heap} {L : Addr} {m : Str → Option Value} {news : List (Addr × Obj)} {s : Shared}
   {it dt : Addr} {nd : Nat} {u1 u2 u3 u4 u5 tv ts tx tr tc : Tok} {ro co : Int} {x : Str} {n : Int} {bi : Int} {tb : Tok} {Q E : Value → Shared → Prop}
   (B : Below A₀ h₀ [] h₀) (F : Fr h₀ L s.heap m) (X : (hd.heap_39 w.params).In h₀) (N : News h₀ L s.heap news) (T : Top hd.view_39 (looseW hd.view_39 [Str.ofString "is_token"]) mean mg mb h₀) (hk : cs.kind = .function)
   (hdp : dp + 10 < recursionLimit) (hun : un + 280 < cLine) (hi1 : (it, instObj 77 dt) ∈ news) (hi2 : (dt, dictOf [⟨PyData.keyHash w.params "sort", .str "sort" u1, .str (Str.ofString "int") ts⟩, ⟨PyData.keyHash w.params "text", .str "text" u2, .str x tx⟩, ⟨PyData.keyHash w.params "value", .str "value" u3, .int n tv⟩, ⟨PyData.keyHash w.params "row", .str "row" u4, .int ro tr⟩, ⟨PyData.keyHash w.params "column", .str "column" u5, .int co tc⟩] nd) ∈ news) (hx : x.length ≤ 400) (hx1 : 1 ≤ x.length) (hb : 0 ≤ bi ∧ bi ≤ 72)
   (hret : ∀ (t1 t2 t3 : Tok) (D : Addr) (h' : Heap) (tk' : Nat), Fr h₀ L h' m → News h₀ L h' ((D, toldO (dueF (sgB x) (some n) bi) ro co t1 t2 t3) :: news) → (∀ p ∈ news, p.1 < D) → Q (.ref D) { s with heap := h', toks := tk' }) :
   wpAny (model Challenge.rw_nm0112_01.row.prog w) (ktrTop dp un gd cn cs L a ccd cl []) (call (.ref 206) [.ref it, .int bi tb]) Q E s := by

  exact c_toldS2 B F X N T hk hdp hun hi1 hi2 hx hx1 hb (fun v t1 t2 D h' tk' e F' N' l => hret t1 t2 t2 D h' tk' F' (by rw [toldO_ok e]; exact N') l) (fun y t1 t2 t3 D h' tk' e F' N' l => hret t1 t2 t3 D h' tk' F' (by rw [toldO_error e]; exact N') l)

set_option maxHeartbeats 8000000 in
theorem c_toldB {w : World} {mean : ExcName → Option Value} {mg mb : Str → Option Value} {dp un : Nat} {gd : Option (List Code)} {cn : Str} {cs : Scope} {a : Addr} {ccd : Value} {cl : List (Str × Addr)} {A₀ : Around} {h₀ : Heap} {L : Addr} {m : Str → Option Value} {news : List (Addr × Obj)} {s : Shared}
   {it dt : Addr} {nd : Nat} {u1 u2 u3 tr tc : Tok} {ro co : Int} {iv : Value} {bi : Int} {tb : Tok} {Q E : Value → Shared → Prop}
   (B : Below A₀ h₀ [] h₀) (F : Fr h₀ L s.heap m) (X : (hd.heap_39 w.params).In h₀) (N : News h₀ L s.heap news) (T : Top hd.view_39 (looseW hd.view_39 [Str.ofString "is_token"]) mean mg mb h₀) (hk : cs.kind = .function)
   (hdp : dp + 10 < recursionLimit) (hun : un + 280 < cLine) (hi1 : (it, instObj 105 dt) ∈ news) (hi2 : (dt, dictOf [⟨PyData.keyHash w.params "items", .str "items" u1, iv⟩, ⟨PyData.keyHash w.params "row", .str "row" u2, .int ro tr⟩, ⟨PyData.keyHash w.params "column", .str "column" u3, .int co tc⟩] nd) ∈ news) (hb : 0 ≤ bi ∧ bi ≤ 72)
   (hret : ∀ (t1 t2 t3 : Tok) (D : Addr) (h' : Heap) (tk' : Nat), Fr h₀ L h' m → News h₀ L h' ((D, { cls := .type "tuple", data := .seq #[.str UNX t1, .int ro t2, .int co t3] }) :: news) → (∀ p ∈ news, p.1 < D) → Q (.ref D) { s with heap := h', toks := tk' }) :
   wpAny (model Challenge.rw_nm0112_01.row.prog w) (ktrTop dp un gd cn cs L a ccd cl []) (call (.ref 206) [.ref it, .int bi tb]) Q E s := by

  exact c_toldB2 (sg := true) B F X N T hk hdp hun hi1 hi2 hb (fun y t1 t2 t3 D h' tk' e F' N' l => hret t1 t2 t3 D h' tk' F' (by rw [unx_of e] at N'; exact N') l)

set_option maxHeartbeats 8000000 in
theorem c_toldN {w : World} {mean : ExcName → Option Value} {mg mb : Str → Option Value} {dp un : Nat} {gd : Option (List Code)} {cn : Str} {cs : Scope} {a : Addr} {ccd : Value} {cl : List (Str × Addr)} {A₀ : Around} {h₀ : Heap} {L : Addr} {m : Str → Option Value} {news : List (Addr × Obj)} {s : Shared}
   {it dt : Addr} {nd : Nat} {u1 u2 u3 u4 u5 ts tx tr tc : Tok} {ro co : Int} {z y9 : Str} {vv : Value} {bi : Int} {tb : Tok} {Q E : Value → Shared → Prop}
   (B : Below A₀ h₀ [] h₀) (F : Fr h₀ L s.heap m) (X : (hd.heap_39 w.params).In h₀) (N : News h₀ L s.heap news) (T : Top hd.view_39 (looseW hd.view_39 [Str.ofString "is_token"]) mean mg mb h₀) (hk : cs.kind = .function)
   (hdp : dp + 10 < recursionLimit) (hun : un + 280 < cLine) (hi1 : (it, instObj 77 dt) ∈ news) (hi2 : (dt, dictOf [⟨PyData.keyHash w.params "sort", .str "sort" u1, .str z ts⟩, ⟨PyData.keyHash w.params "text", .str "text" u2, .str y9 tx⟩, ⟨PyData.keyHash w.params "value", .str "value" u3, vv⟩, ⟨PyData.keyHash w.params "row", .str "row" u4, .int ro tr⟩, ⟨PyData.keyHash w.params "column", .str "column" u5, .int co tc⟩] nd) ∈ news) (hz : (z == Str.ofString "int") = false) (hb : 0 ≤ bi ∧ bi ≤ 72)
   (hret : ∀ (t1 t2 t3 : Tok) (D : Addr) (h' : Heap) (tk' : Nat), Fr h₀ L h' m → News h₀ L h' ((D, { cls := .type "tuple", data := .seq #[.str UNX t1, .int ro t2, .int co t3] }) :: news) → (∀ p ∈ news, p.1 < D) → Q (.ref D) { s with heap := h', toks := tk' }) :
   wpAny (model Challenge.rw_nm0112_01.row.prog w) (ktrTop dp un gd cn cs L a ccd cl []) (call (.ref 206) [.ref it, .int bi tb]) Q E s := by

  exact c_toldN2 (sg := true) B F X N T hk hdp hun hi1 hi2 hz hb (fun y t1 t2 t3 D h' tk' e F' N' l => hret t1 t2 t3 D h' tk' F' (by rw [unx_of e] at N'; exact N') l)

set_option maxHeartbeats 8000000 in
theorem c_dueS1 {w : World} {mean : ExcName → Option Value} {mg mb : Str → Option Value} {dp un : Nat} {gd : Option (List Code)} {cn : Str} {cs : Scope} {a : Addr} {ccd : Value} {cl : List (Str × Addr)} {outer : List Env} {A₀ : Around} {base h₀ : Heap} {L : Addr} {m : Str → Option Value} {news : List (Addr × Obj)} {s : Shared}
   {x : Str} {tx : Tok} {bi : Int} {tb : Tok} {ro : Int} {tr : Tok} {co : Int} {tc : Tok} {n : Int} {tn : Tok} {Q E : Value → Shared → Prop}
   (B : Below A₀ base outer h₀) (F : Fr h₀ L s.heap m) (X : (hd.heap_39 w.params).In h₀) (N : News h₀ L s.heap news) (T : Top hd.view_39 (looseW hd.view_39 [Str.ofString "is_token"]) mean mg mb h₀) (hk : cs.kind = .function)
   (hdp : dp + 2 < recursionLimit) (hun : un + 216 < cLine)  (hx : x.length ≤ 400) (hx1 : 1 ≤ x.length) (hb : 0 ≤ bi ∧ bi ≤ 72)
   (hret : ∀ (t1 t2 t3 : Tok) (D : Addr) (h' : Heap) (tk' : Nat), Fr h₀ L h' m → News h₀ L h' ((D, toldO (dueF (sgB x) (some n) bi) ro co t1 t2 t3) :: news) → (∀ p ∈ news, p.1 < D) → Q (.ref D) { s with heap := h', toks := tk' }) :
   wpAny (model Challenge.rw_nm0112_01.row.prog w) (ktrTop dp un gd cn cs L a ccd cl outer) (call (.ref 199) [.str x tx, .int n tn, .int bi tb, .int ro tr, .int co tc]) Q E s := by

  exact c_dueS B F X N T hk hdp hun hx hx1 hb (fun v t1 t2 D h' tk' e F' N' l => hret t1 t2 t2 D h' tk' F' (by rw [toldO_ok e]; exact N') l) (fun y t1 t2 t3 D h' tk' e F' N' l => hret t1 t2 t3 D h' tk' F' (by rw [toldO_error e]; exact N') l)

set_option maxHeartbeats 8000000 in
theorem c_dueN1 {w : World} {mean : ExcName → Option Value} {mg mb : Str → Option Value} {dp un : Nat} {gd : Option (List Code)} {cn : Str} {cs : Scope} {a : Addr} {ccd : Value} {cl : List (Str × Addr)} {outer : List Env} {A₀ : Around} {base h₀ : Heap} {L : Addr} {m : Str → Option Value} {news : List (Addr × Obj)} {s : Shared}
   {x : Str} {tx : Tok} {bi : Int} {tb : Tok} {ro : Int} {tr : Tok} {co : Int} {tc : Tok} {Q E : Value → Shared → Prop}
   (B : Below A₀ base outer h₀) (F : Fr h₀ L s.heap m) (X : (hd.heap_39 w.params).In h₀) (N : News h₀ L s.heap news) (T : Top hd.view_39 (looseW hd.view_39 [Str.ofString "is_token"]) mean mg mb h₀) (hk : cs.kind = .function)
   (hdp : dp + 2 < recursionLimit) (hun : un + 216 < cLine)  (hx : x.length ≤ 400) (hx1 : 1 ≤ x.length) (hb : 0 ≤ bi ∧ bi ≤ 72)
   (hret : ∀ (t1 t2 t3 : Tok) (D : Addr) (h' : Heap) (tk' : Nat), Fr h₀ L h' m → News h₀ L h' ((D, { cls := .type "tuple", data := .seq #[.str UNX t1, .int ro t2, .int co t3] }) :: news) → (∀ p ∈ news, p.1 < D) → Q (.ref D) { s with heap := h', toks := tk' }) :
   wpAny (model Challenge.rw_nm0112_01.row.prog w) (ktrTop dp un gd cn cs L a ccd cl outer) (call (.ref 199) [.str x tx, .none, .int bi tb, .int ro tr, .int co tc]) Q E s := by

  exact c_dueN B F X N T hk hdp hun hx hx1 hb (fun y t1 t2 t3 D h' tk' e F' N' l => hret t1 t2 t3 D h' tk' F' (by rw [unx_of e] at N'; exact N') l)

set_option maxHeartbeats 8000000 in
theorem c_sortN {w : World} {mean : ExcName → Option Value} {mg mb : Str → Option Value} {dp un : Nat} {gd : Option (List Code)} {cn : Str} {cs : Scope} {a : Addr} {ccd : Value} {cl : List (Str × Addr)} {outer : List Env} {A₀ : Around} {base h₀ : Heap} {L : Addr} {m : Str → Option Value} {news : List (Addr × Obj)} {s : Shared}
   {x : Str} {tx : Tok} {Q E : Value → Shared → Prop}
   (B : Below A₀ base outer h₀) (F : Fr h₀ L s.heap m) (X : (hd.heap_39 w.params).In h₀) (N : News h₀ L s.heap news) (T : Top hd.view_39 (looseW hd.view_39 [Str.ofString "is_token"]) mean mg mb h₀) (hk : cs.kind = .function)
   (hdp : dp + 3 < recursionLimit) (hun : un + 224 < cLine) (hx : x.length ≤ 400) (hx1 : 1 ≤ x.length) (hnum : numS x = none)
   (hret : ∀ (t1 t2 : Tok) (D : Addr) (h' : Heap) (tk' : Nat), Fr h₀ L h' m → News h₀ L h' ((D, { cls := .type "tuple", data := .seq #[.str (sortS x) t1, .str x t2] }) :: news) → (∀ p ∈ news, p.1 < D) → Q (.ref D) { s with heap := h', toks := tk' }) :
   wpAny (model Challenge.rw_nm0112_01.row.prog w) (ktrTop dp un gd cn cs L a ccd cl outer) (call (.ref 138) [.str x tx]) Q E s := by

  exact c_sorted B F X N T hk hdp hun hx hx1 (fun z t1 t2 D h' tk' e _ F' N' l => hret t1 t2 D h' tk' F' (by rw [e] at N'; exact N') l) (fun n t1 t2 D h' tk' e F' N' l => by rw [hnum] at e; cases e)

set_option maxHeartbeats 8000000 in
theorem c_sortS {w : World} {mean : ExcName → Option Value} {mg mb : Str → Option Value} {dp un : Nat} {gd : Option (List Code)} {cn : Str} {cs : Scope} {a : Addr} {ccd : Value} {cl : List (Str × Addr)} {outer : List Env} {A₀ : Around} {base h₀ : Heap} {L : Addr} {m : Str → Option Value} {news : List (Addr × Obj)} {s : Shared}
   {x : Str} {tx : Tok} {n : Int} {Q E : Value → Shared → Prop}
   (B : Below A₀ base outer h₀) (F : Fr h₀ L s.heap m) (X : (hd.heap_39 w.params).In h₀) (N : News h₀ L s.heap news) (T : Top hd.view_39 (looseW hd.view_39 [Str.ofString "is_token"]) mean mg mb h₀) (hk : cs.kind = .function)
   (hdp : dp + 3 < recursionLimit) (hun : un + 224 < cLine) (hx : x.length ≤ 400) (hx1 : 1 ≤ x.length) (hnum : numS x = some n)
   (hret : ∀ (t1 t2 : Tok) (D : Addr) (h' : Heap) (tk' : Nat), Fr h₀ L h' m → News h₀ L h' ((D, { cls := .type "tuple", data := .seq #[.str (Str.ofString "int") t1, .int n t2] }) :: news) → (∀ p ∈ news, p.1 < D) → Q (.ref D) { s with heap := h', toks := tk' }) :
   wpAny (model Challenge.rw_nm0112_01.row.prog w) (ktrTop dp un gd cn cs L a ccd cl outer) (call (.ref 138) [.str x tx]) Q E s := by

  exact c_sorted B F X N T hk hdp hun hx hx1 (fun z t1 t2 D h' tk' _ e F' N' l => by rw [hnum] at e; cases e) (fun n' t1 t2 D h' tk' e F' N' l => by rw [hnum] at e; injection e with e; subst e; exact hret t1 t2 D h' tk' F' N' l)

set_option maxHeartbeats 8000000 in
theorem c_lsN {w : World} {mean : ExcName → Option Value} {mg mb : Str → Option Value} {dp un : Nat} {gd : Option (List Code)} {cn : Str} {cs : Scope} {a : Addr} {ccd : Value} {cl : List (Str × Addr)} {outer : List Env} {A₀ : Around} {base h₀ : Heap} {L : Addr} {m : Str → Option Value} {news : List (Addr × Obj)} {s : Shared}
   {x : Str} {tx : Tok} {Q E : Value → Shared → Prop}
   (B : Below A₀ base outer h₀) (F : Fr h₀ L s.heap m) (X : (hd.heap_39 w.params).In h₀) (N : News h₀ L s.heap news) (T : Top hd.view_39 (looseW hd.view_39 [Str.ofString "is_token"]) mean mg mb h₀) (hk : cs.kind = .function)
   (hdp : dp + 2 < recursionLimit) (hun : un + 216 < cLine) (hx : x.length ≤ 400) (hx1 : 1 ≤ x.length)
   (hret : ∀ (t1 t2 : Tok) (D : Addr) (h' : Heap) (tk' : Nat), Fr h₀ L h' m → News h₀ L h' ((D, { cls := .type "tuple", data := .seq #[.str (sortS x) t1, .str x t2] }) :: news) → (∀ p ∈ news, p.1 < D) → Q (.ref D) { s with heap := h', toks := tk' }) :
   wpAny (model Challenge.rw_nm0112_01.row.prog w) (ktrTop dp un gd cn cs L a ccd cl outer) (call (.ref 192) [.str x tx, .none]) Q E s := by

  exact c_lsortN B F X N T hk hdp hun hx hx1 (fun z t1 t2 D h' tk' e F' N' l => hret t1 t2 D h' tk' F' (by rw [e] at N'; exact N') l)

end Mine
end

/- part W_turn0 -/
section
open PySem PySem.W PyProof.Rows
set_option linter.unusedVariables false
set_option maxRecDepth 100000
namespace Mine
/-- the body of the law's for, the law's scope -/
noncomputable def lawParts (P : Params) : Option (List Stmt × Scope) := match (hd.heap_39 P).lookup 211 with
  | some o => (match o.data with
    | .func fd => (match fd.body with
      | .stmts b => (match b.drop 8 with
        | .For _ _ bd _ _ :: _ => some (bd, fd.scope)
        | _ => none)
      | _ => none)
    | _ => none)
  | none => none
theorem ne_oth {prog : Program} {w : World} {A : Around} {E : Value → Shared → Prop} {s : Shared} {h₀ : Heap} {L l1 l2 d1 d2 d3 : Addr} {news : List (Addr × Obj)} {ro co : Int} {a1 a2 a3 b1 b2 b3 c1 c2 c3 : Tok} {k1 k2 : Nat} {Q : Value → Shared → Prop}
    (N : News h₀ L s.heap news) (h1 : (l1, ({ cls := .type "list", data := .seq #[.ref d1, .ref d2] k1 } : Obj)) ∈ news) (h2 : (l2, ({ cls := .type "list", data := .seq #[.ref d3, .ref d3] k2 } : Obj)) ∈ news)
    (m1 : (d1, ({ cls := .type "tuple", data := .seq #[.str UNX a1, .int ro a2, .int co a3] } : Obj)) ∈ news) (m2 : (d2, ({ cls := .type "tuple", data := .seq #[.str UNX b1, .int ro b2, .int co b3] } : Obj)) ∈ news) (m3 : (d3, ({ cls := .type "tuple", data := .seq #[.str UNX c1, .int ro c2, .int co c3] } : Obj)) ∈ news) (hu : A.units + 64 < cLine) (h : Q (.bool false) s) :
    wpAny (model prog w) A (compareOp .NotEq (.ref l1) (.ref l2)) Q E s := by
  have o := told_ok.2.1
  have rt : ∀ {d : Addr} {t1 t2 t3 : Tok}, (d, ({ cls := .type "tuple", data := .seq #[.str UNX t1, .int ro t2, .int co t3] } : Obj)) ∈ news → Reads s.heap (.ref d) (.tuple [.str UNX, .int ro, .int co]) _ := fun hm => PyProof.Rows.reads_tuple_at (N _ hm).1 rfl rfl (.cons (.str _ _) (.cons (.int _ _) (.cons (.int _ _) .nil)))
  have r1 : Reads s.heap (.ref l1) (.list [.tuple [.str UNX, .int ro, .int co], .tuple [.str UNX, .int ro, .int co]]) _ := PyProof.Rows.reads_list_at (N _ h1).1 rfl rfl (.cons (rt m1) (.cons (rt m2) .nil))
  have r2 : Reads s.heap (.ref l2) (.list [.tuple [.str UNX, .int ro, .int co], .tuple [.str UNX, .int ro, .int co]]) _ := PyProof.Rows.reads_list_at (N _ h2).1 rfl rfl (.cons (rt m3) (.cons (rt m3) .nil))
  have a : PySem.SeqAt.shaped (.list [.tuple [.str UNX, .int ro, .int co], .tuple [.str UNX, .int ro, .int co]]) = true := by simp [PySem.SeqAt.shaped, PyData.canLay0, PyData.canLayAll0, PyData.depth, PyData.depthAll, o]
  have b : PyData.eqv (.list [.tuple [.str UNX, .int ro, .int co], .tuple [.str UNX, .int ro, .int co]]) (.list [.tuple [.str UNX, .int ro, .int co], .tuple [.str UNX, .int ro, .int co]]) = true := by simp [PyData.eqv, PyData.eqvAll]
  refine PyProof.Rows.ne_dataH r1 r2 a a hu ?_
  rw [b]; exact h
theorem ne_un {prog : Program} {w : World} {A : Around} {E : Value → Shared → Prop} {s : Shared} {h₀ : Heap} {L d1 d2 : Addr} {news : List (Addr × Obj)} {ro co : Int} {a1 a2 a3 b1 b2 b3 : Tok} {Q : Value → Shared → Prop}
    (N : News h₀ L s.heap news) (m1 : (d1, ({ cls := .type "tuple", data := .seq #[.str UNX a1, .int ro a2, .int co a3] } : Obj)) ∈ news) (m2 : (d2, ({ cls := .type "tuple", data := .seq #[.str UNX b1, .int ro b2, .int co b3] } : Obj)) ∈ news) (hu : A.units + 64 < cLine) (h : Q (.bool false) s) :
    wpAny (model prog w) A (compareOp .NotEq (.ref d1) (.ref d2)) Q E s := by
  have o := told_ok.2.1
  have rt : ∀ {d : Addr} {t1 t2 t3 : Tok}, (d, ({ cls := .type "tuple", data := .seq #[.str UNX t1, .int ro t2, .int co t3] } : Obj)) ∈ news → Reads s.heap (.ref d) (.tuple [.str UNX, .int ro, .int co]) _ := fun hm => PyProof.Rows.reads_tuple_at (N _ hm).1 rfl rfl (.cons (.str _ _) (.cons (.int _ _) (.cons (.int _ _) .nil)))
  have a : PySem.SeqAt.shaped (.tuple [.str UNX, .int ro, .int co]) = true := by simp [PySem.SeqAt.shaped, PyData.canLay0, PyData.canLayAll0, PyData.depth, PyData.depthAll, o]
  have b : PyData.eqv (.tuple [.str UNX, .int ro, .int co]) (.tuple [.str UNX, .int ro, .int co]) = true := by simp [PyData.eqv, PyData.eqvAll]
  refine PyProof.Rows.ne_dataH (rt m1) (rt m2) a a hu ?_
  rw [b]; exact h
theorem isl1 {h h₀ : Heap} {L l d : Addr} {k : Nat} {news : List (Addr × Obj)} (N : News h₀ L h news) (hm : (l, ({ cls := .type "list", data := .seq #[.ref d] k } : Obj)) ∈ news) : h.IsList l [Value.ref d].toArray := ⟨_, (N _ hm).1, rfl, _, rfl⟩
/-- the end of an element that hands back a new object -/
theorem end_new {h₀ : Heap} {L I C D d : Addr} {m : Str → Option Value} {s₁ : Shared} {oI oC oD o : Obj} {S : List (Addr × Obj) → Prop} {rest : Value → List (Addr × Obj) → Prop} {y : Value} {h' : Heap} {tk : Nat} {news : List (Addr × Obj)}
    (F : Fr h₀ L h' m) (N : News h₀ L h' ((d, o) :: (I, oI) :: (C, oC) :: (D, oD) :: news)) (off : LCg.Off3 I C D news) (lt : ∀ p ∈ (I, oI) :: (C, oC) :: (D, oD) :: news, p.1 < d) (hS : S ((d, o) :: news)) (r : rest y ((d, o) :: news)) :
    LCg.CompEnd h₀ L m s₁ I oI C oC D oD S rest y { s₁ with heap := h', toks := tk } := by
  refine LCg.CompEnd.intro F N ((d, o) :: news) (fun p hp => ?_) ⟨⟨?_, ?_, ?_⟩, off⟩ hS r
  · rcases List.mem_cons.mp hp with rfl | hp
    · exact .tail _ (.head _)
    · rcases List.mem_cons.mp hp with rfl | hp
      · exact .tail _ (.tail _ (.head _))
      · rcases List.mem_cons.mp hp with rfl | hp
        · exact .tail _ (.tail _ (.tail _ (.head _)))
        · rcases List.mem_cons.mp hp with rfl | hp
          · exact .head _
          · exact .tail _ (.tail _ (.tail _ (.tail _ hp)))
  · exact Nat.ne_of_gt (lt _ (.head _))
  · exact Nat.ne_of_gt (lt _ (.tail _ (.head _)))
  · exact Nat.ne_of_gt (lt _ (.tail _ (.tail _ (.head _))))
end Mine
end

/- part W_turnN -/
section
open PySem PySem.W PyProof.Rows
set_option linter.unusedVariables false
set_option maxRecDepth 100000
namespace Mine
local macro_rules | `(tactic| k_mem) => `(tactic| first | with_reducible assumption | (with_reducible exact List.mem_cons_self) | (with_reducible refine List.mem_cons_of_mem _ ?_; k_mem))
local macro_rules | `(tactic| k_room) => `(tactic| ktr_room)
set_option maxHeartbeats 8000000 in
theorem turnN {w : World} {mean : ExcName → Option Value} {mg mb : Str → Option Value} {dp un : Nat} {gd : Option (List Code)} {cn : Str} {cs : Scope} {a : Addr} {ccd : Value} {cl : List (Str × Addr)} {A₀ : Around} {h₀ : Heap} {L : Addr} {m : Str → Option Value} {news : List (Addr × Obj)} {s : Shared}
   {c : Addr} {oc : Obj} {bi : Int} {tb : Tok} {body : List Stmt} {it dt lo ib db is ds : Addr} {nd nb ns lk : Nat} {u1 u2 u3 u4 u5 ts tx txx tr tc b1 b2 b3 s1 s2 s3 s4 s5 s6 s7 : Tok} {ro co : Int} {x y9 : Str} {iv sv : Value} {z : Str} {vv : Value} {Q : Flow → Shared → Prop} {E : Value → Shared → Prop}
   (B : Below A₀ h₀ [] h₀) (F : Fr h₀ L s.heap m) (X : (hd.heap_39 w.params).In h₀) (N : News h₀ L s.heap news) (T : Top hd.view_39 (looseW hd.view_39 [Str.ofString "is_token"]) mean mg mb h₀) 
   (hdp : dp + 14 < recursionLimit) (hun : un + 312 < cLine) (hparts : lawParts w.params = some (body, cs)) (hcl : cl = [(Str.ofString "bits", c)]) (hc1 : (c, oc) ∈ news) (hc2 : oc.data = .cell (some (.int bi tb))) (hb : 0 ≤ bi ∧ bi ≤ 72) (hx : x.length ≤ 400) (hx1 : 1 ≤ x.length) (f1 : m "token" = some (.ref it)) (f2 : m "text" = some (.str x txx)) (f3 : m "number" = some .none) (f4 : m "row" = some (.int ro tr)) (f5 : m "column" = some (.int co tc)) (f6 : m "others" = some (.ref lo)) (hi1 : (it, instObj 77 dt) ∈ news) (hi2 : (dt, dictOf [⟨PyData.keyHash w.params "sort", .str "sort" u1, .str z ts⟩, ⟨PyData.keyHash w.params "text", .str "text" u2, .str x tx⟩, ⟨PyData.keyHash w.params "value", .str "value" u3, vv⟩, ⟨PyData.keyHash w.params "row", .str "row" u4, .int ro tr⟩, ⟨PyData.keyHash w.params "column", .str "column" u5, .int co tc⟩] nd) ∈ news) (hlo : (lo, ({ cls := .type "list", data := .seq #[.ref ib, .ref is] lk } : Obj)) ∈ news) (hb1 : (ib, instObj 105 db) ∈ news) (hb2 : (db, dictOf [⟨PyData.keyHash w.params "items", .str "items" b1, iv⟩, ⟨PyData.keyHash w.params "row", .str "row" b2, .int ro tr⟩, ⟨PyData.keyHash w.params "column", .str "column" b3, .int co tc⟩] nb) ∈ news) (hs1 : (is, instObj 77 ds) ∈ news) (hs2 : (ds, dictOf [⟨PyData.keyHash w.params "sort", .str "sort" s1, .str (Str.ofString "string") s6⟩, ⟨PyData.keyHash w.params "text", .str "text" s2, .str y9 s7⟩, ⟨PyData.keyHash w.params "value", .str "value" s3, sv⟩, ⟨PyData.keyHash w.params "row", .str "row" s4, .int ro tr⟩, ⟨PyData.keyHash w.params "column", .str "column" s5, .int co tc⟩] ns) ∈ news) (hz : (z == Str.ofString "int") = false)
   (hret : ∀ (h' : Heap) (tk' : Nat), Fr h₀ L h' m → News h₀ L h' news → Q .next { s with heap := h', toks := tk' }) :
   wpAny (model Challenge.rw_nm0112_01.row.prog w) (ktrTop dp un gd cn cs L a ccd cl []) (execs body (envX cn cs L a ccd cl)) Q E s := by
  k_with_none
  w_top off
  (k_with "eval Call" => (k_here; (first | (with_reducible show wpAny _ _ (eval (Expr.Call (Expr.Name (Str.ofString "_law_told") _) _ _ _) _) _ _ _) | (with_reducible show wpAny _ _ (eval (Expr.Call (Expr.Name (Str.ofString "_law_due") _) _ _ _) _) _ _ _)); k_dflt (refine Call_ ?_)))
  (k_with "binaryOp Mult ref int" => (k_here; (with_reducible show wpAny _ _ (binaryOp Operator.Mult (Value.ref _) (Value.int 2 _)) _ _ _); k_dflt (refine' KMa.mul (vs := [_]) (ws := [_, _]) ?F ?N ?l ?lo ?hi ?z ?e ?_; (case F => with_reducible assumption); (case N => with_reducible assumption); (case l => exact isl1 (by with_reducible assumption) (by k_mem)); (case lo => decide); (case hi => decide); (case z => exact Nat.le_of_ble_eq_true rfl); (case e => exact rfl)); intro D' h' F' N' l1; (try k_lt l1); (try k_sweep)))
  (k_with "eval Name" => (k_here; (with_reducible show wpAny _ _ (eval (Expr.Name _ _) (envX _ _ _ _ _ _)) _ _ _); k_dflt (first | (refine' nameX_L ?k1 ?k2 ?_; (case k1 => with_reducible assumption); (case k2 => with_reducible assumption); k_whole) | (refine' nameX_C ?N ?c ?m ?d ?_; (case N => with_reducible assumption); (case c => exact rfl); (case m => k_mem); (case d => with_reducible assumption); k_whole))))
  (k_with "CompEnd" => (k_here; k_dflt (refine' end_new ?F ?N ?off ?lt ?S ?_; (case F => k_asm); (case N => k_asm); (case off => first | with_reducible assumption | (simp only [LCg.Off3, and_true]; with_reducible assumption)); (case lt => with_reducible assumption); (case S => lcg_src))))
  (k_with "compareOp NotEq ref ref" => (k_here; (with_reducible show wpAny _ _ (compareOp CmpOp.NotEq (Value.ref _) (Value.ref _)) _ _ _); k_dflt (refine' ne_oth ?N ?h1 ?h2 ?m1 ?m2 ?m3 ?hu ?_; (case N => k_asm); (case h1 => k_mem); (case h2 => k_mem); (case m1 => k_mem); (case m2 => k_mem); (case m3 => k_mem); (case hu => ktr_units)); (try dsimp only)))
  (k_with "call ref" => (k_here; (with_reducible show wpAny _ _ (call (Value.ref 199) [Value.str _ _, Value.none, Value.int _ _, Value.int _ _, Value.int _ _]) _ _ _); k_dflt (refine' c_dueN1 ?k1 ?k2 ?k3 ?k4 ?k5 ?kK ?kd ?ku ?xx ?x1 ?xb ?_; (case k1 => k_asm); (case k2 => k_asm); (case k3 => k_asm); (case k4 => k_asm); (case k5 => k_asm); (case kK => first | exact rfl | assumption); (case kd => ktr_room); (case ku => ktr_units); (case xx => first | with_reducible assumption | omega); (case x1 => first | with_reducible assumption | omega); (case xb => first | exact fm72b _ | exact ⟨by decide, by decide⟩ | with_reducible assumption | omega | (constructor <;> omega)); skip); (all_goals ((first | (intro t19 t29 t39 D9 h9 tk9 F9 N9 l19)); (try dsimp only); (try k_fold)))))
  (k_with "call ref" => (k_here; (with_reducible show wpAny _ _ (call (Value.ref 206) [Value.ref _, Value.int _ _]) _ _ _); k_dflt (refine' c_toldN ?k1 ?k2 ?k3 ?k4 ?k5 ?kK ?kd ?ku ?xh1 ?xh2 ?xz ?xb ?_; (case k1 => k_asm); (case k2 => k_asm); (case k3 => k_asm); (case k4 => k_asm); (case k5 => k_asm); (case kK => first | exact rfl | assumption); (case kd => ktr_room); (case ku => ktr_units); (case xh1 => k_mem); (case xh2 => k_mem); (case xz => first | with_reducible assumption | exact sortS_ne _ | decide +kernel); (case xb => first | exact fm72b _ | exact ⟨by decide, by decide⟩ | with_reducible assumption | omega | (constructor <;> omega)); skip); (all_goals ((first | (intro t19 t29 t39 D9 h9 tk9 F9 N9 l19)); (try dsimp only); (try k_fold)))))
  (k_with "call ref" => (k_here; (with_reducible show wpAny _ _ (call (Value.ref 206) [Value.ref _, Value.int _ _]) _ _ _); k_dflt (refine' c_toldB ?k1 ?k2 ?k3 ?k4 ?k5 ?kK ?kd ?ku ?xh1 ?xh2 ?xb ?_; (case k1 => k_asm); (case k2 => k_asm); (case k3 => k_asm); (case k4 => k_asm); (case k5 => k_asm); (case kK => first | exact rfl | assumption); (case kd => ktr_room); (case ku => ktr_units); (case xh1 => k_mem); (case xh2 => k_mem); (case xb => first | exact fm72b _ | exact ⟨by decide, by decide⟩ | with_reducible assumption | omega | (constructor <;> omega)); skip); (all_goals ((first | (intro t19 t29 t39 D9 h9 tk9 F9 N9 l19)); (try dsimp only); (try k_fold)))))
  (k_with "compareOp NotEq ref ref" => (k_here; (with_reducible show wpAny _ _ (compareOp CmpOp.NotEq (Value.ref _) (Value.ref _)) _ _ _); k_dflt (refine' ne_un ?N ?m1 ?m2 ?hu ?_; (case N => k_asm); (case m1 => k_mem); (case m2 => k_mem); (case hu => ktr_units)); (try dsimp only)))
  (have hfill9 : (Challenge.rw_nm0112_01 = Challenge.rw_nm0112_01) ∧ (hd.heap_39 = hd.heap_39) := by (k_fill; exact ⟨rfl, rfl⟩))
  have e : lawParts w.params = some (_, _) := rfl
  rw [e] at hparts
  obtain ⟨rfl, rfl⟩ := Prod.mk.inj (Option.some.inj hparts)
  subst hcl
  k_steps
  all_goals (first
    | exact hret _ _ (by with_reducible assumption) (cb_drop (by with_reducible assumption) (by intro p9 hp9; repeat (first | (with_reducible exact hp9) | (with_reducible refine List.mem_cons_of_mem _ ?_)))))

end Mine
end

/- part W_turnS -/
section
open PySem PySem.W PyProof.Rows
set_option linter.unusedVariables false
set_option maxRecDepth 100000
namespace Mine
local macro_rules | `(tactic| k_mem) => `(tactic| first | with_reducible assumption | (with_reducible exact List.mem_cons_self) | (with_reducible refine List.mem_cons_of_mem _ ?_; k_mem))
local macro_rules | `(tactic| k_room) => `(tactic| ktr_room)
set_option maxHeartbeats 8000000 in
theorem turnS {w : World} {mean : ExcName → Option Value} {mg mb : Str → Option Value} {dp un : Nat} {gd : Option (List Code)} {cn : Str} {cs : Scope} {a : Addr} {ccd : Value} {cl : List (Str × Addr)} {A₀ : Around} {h₀ : Heap} {L : Addr} {m : Str → Option Value} {news : List (Addr × Obj)} {s : Shared}
   {c : Addr} {oc : Obj} {bi : Int} {tb : Tok} {body : List Stmt} {it dt lo ib db is ds : Addr} {nd nb ns lk : Nat} {u1 u2 u3 u4 u5 ts tx tv txx tr tc b1 b2 b3 s1 s2 s3 s4 s5 s6 s7 : Tok} {ro co : Int} {x y9 : Str} {iv sv : Value} {n : Int} {tn : Tok} {Q : Flow → Shared → Prop} {E : Value → Shared → Prop}
   (B : Below A₀ h₀ [] h₀) (F : Fr h₀ L s.heap m) (X : (hd.heap_39 w.params).In h₀) (N : News h₀ L s.heap news) (T : Top hd.view_39 (looseW hd.view_39 [Str.ofString "is_token"]) mean mg mb h₀) 
   (hdp : dp + 14 < recursionLimit) (hun : un + 312 < cLine) (hparts : lawParts w.params = some (body, cs)) (hcl : cl = [(Str.ofString "bits", c)]) (hc1 : (c, oc) ∈ news) (hc2 : oc.data = .cell (some (.int bi tb))) (hb : 0 ≤ bi ∧ bi ≤ 72) (hx : x.length ≤ 400) (hx1 : 1 ≤ x.length) (f1 : m "token" = some (.ref it)) (f2 : m "text" = some (.str x txx)) (f3 : m "number" = some (.int n tn)) (f4 : m "row" = some (.int ro tr)) (f5 : m "column" = some (.int co tc)) (f6 : m "others" = some (.ref lo)) (hi1 : (it, instObj 77 dt) ∈ news) (hi2 : (dt, dictOf [⟨PyData.keyHash w.params "sort", .str "sort" u1, .str (Str.ofString "int") ts⟩, ⟨PyData.keyHash w.params "text", .str "text" u2, .str x tx⟩, ⟨PyData.keyHash w.params "value", .str "value" u3, .int n tv⟩, ⟨PyData.keyHash w.params "row", .str "row" u4, .int ro tr⟩, ⟨PyData.keyHash w.params "column", .str "column" u5, .int co tc⟩] nd) ∈ news) (hlo : (lo, ({ cls := .type "list", data := .seq #[.ref ib, .ref is] lk } : Obj)) ∈ news) (hb1 : (ib, instObj 105 db) ∈ news) (hb2 : (db, dictOf [⟨PyData.keyHash w.params "items", .str "items" b1, iv⟩, ⟨PyData.keyHash w.params "row", .str "row" b2, .int ro tr⟩, ⟨PyData.keyHash w.params "column", .str "column" b3, .int co tc⟩] nb) ∈ news) (hs1 : (is, instObj 77 ds) ∈ news) (hs2 : (ds, dictOf [⟨PyData.keyHash w.params "sort", .str "sort" s1, .str (Str.ofString "string") s6⟩, ⟨PyData.keyHash w.params "text", .str "text" s2, .str y9 s7⟩, ⟨PyData.keyHash w.params "value", .str "value" s3, sv⟩, ⟨PyData.keyHash w.params "row", .str "row" s4, .int ro tr⟩, ⟨PyData.keyHash w.params "column", .str "column" s5, .int co tc⟩] ns) ∈ news) 
   (hret : ∀ (h' : Heap) (tk' : Nat), Fr h₀ L h' m → News h₀ L h' news → Q .next { s with heap := h', toks := tk' }) :
   wpAny (model Challenge.rw_nm0112_01.row.prog w) (ktrTop dp un gd cn cs L a ccd cl []) (execs body (envX cn cs L a ccd cl)) Q E s := by
  k_with_none
  w_top off
  (k_with "eval Call" => (k_here; (first | (with_reducible show wpAny _ _ (eval (Expr.Call (Expr.Name (Str.ofString "_law_told") _) _ _ _) _) _ _ _) | (with_reducible show wpAny _ _ (eval (Expr.Call (Expr.Name (Str.ofString "_law_due") _) _ _ _) _) _ _ _)); k_dflt (refine Call_ ?_)))
  (k_with "binaryOp Mult ref int" => (k_here; (with_reducible show wpAny _ _ (binaryOp Operator.Mult (Value.ref _) (Value.int 2 _)) _ _ _); k_dflt (refine' KMa.mul (vs := [_]) (ws := [_, _]) ?F ?N ?l ?lo ?hi ?z ?e ?_; (case F => with_reducible assumption); (case N => with_reducible assumption); (case l => exact isl1 (by with_reducible assumption) (by k_mem)); (case lo => decide); (case hi => decide); (case z => exact Nat.le_of_ble_eq_true rfl); (case e => exact rfl)); intro D' h' F' N' l1; (try k_lt l1); (try k_sweep)))
  (k_with "eval Name" => (k_here; (with_reducible show wpAny _ _ (eval (Expr.Name _ _) (envX _ _ _ _ _ _)) _ _ _); k_dflt (first | (refine' nameX_L ?k1 ?k2 ?_; (case k1 => with_reducible assumption); (case k2 => with_reducible assumption); k_whole) | (refine' nameX_C ?N ?c ?m ?d ?_; (case N => with_reducible assumption); (case c => exact rfl); (case m => k_mem); (case d => with_reducible assumption); k_whole))))
  (k_with "CompEnd" => (k_here; k_dflt (refine' end_new ?F ?N ?off ?lt ?S ?_; (case F => k_asm); (case N => k_asm); (case off => first | with_reducible assumption | (simp only [LCg.Off3, and_true]; with_reducible assumption)); (case lt => with_reducible assumption); (case S => lcg_src))))
  (k_with "compareOp NotEq ref ref" => (k_here; (with_reducible show wpAny _ _ (compareOp CmpOp.NotEq (Value.ref _) (Value.ref _)) _ _ _); k_dflt (refine' ne_oth ?N ?h1 ?h2 ?m1 ?m2 ?m3 ?hu ?_; (case N => k_asm); (case h1 => k_mem); (case h2 => k_mem); (case m1 => k_mem); (case m2 => k_mem); (case m3 => k_mem); (case hu => ktr_units)); (try dsimp only)))
  (k_with "call ref" => (k_here; (with_reducible show wpAny _ _ (call (Value.ref 199) [Value.str _ _, Value.int _ _, Value.int _ _, Value.int _ _, Value.int _ _]) _ _ _); k_dflt (refine' c_dueS1 ?k1 ?k2 ?k3 ?k4 ?k5 ?kK ?kd ?ku ?xx ?x1 ?xb ?_; (case k1 => k_asm); (case k2 => k_asm); (case k3 => k_asm); (case k4 => k_asm); (case k5 => k_asm); (case kK => first | exact rfl | assumption); (case kd => ktr_room); (case ku => ktr_units); (case xx => first | with_reducible assumption | omega); (case x1 => first | with_reducible assumption | omega); (case xb => first | exact fm72b _ | exact ⟨by decide, by decide⟩ | with_reducible assumption | omega | (constructor <;> omega)); skip); (all_goals ((first | (intro t19 t29 t39 D9 h9 tk9 F9 N9 l19)); (try dsimp only); (try k_fold)))))
  (k_with "call ref" => (k_here; (with_reducible show wpAny _ _ (call (Value.ref 206) [Value.ref _, Value.int _ _]) _ _ _); k_dflt (refine' c_told ?k1 ?k2 ?k3 ?k4 ?k5 ?kK ?kd ?ku ?xh1 ?xh2 ?xx ?x1 ?xb ?_; (case k1 => k_asm); (case k2 => k_asm); (case k3 => k_asm); (case k4 => k_asm); (case k5 => k_asm); (case kK => first | exact rfl | assumption); (case kd => ktr_room); (case ku => ktr_units); (case xh1 => k_mem); (case xh2 => k_mem); (case xx => first | with_reducible assumption | omega); (case x1 => first | with_reducible assumption | omega); (case xb => first | exact fm72b _ | exact ⟨by decide, by decide⟩ | with_reducible assumption | omega | (constructor <;> omega)); skip); (all_goals ((first | (intro t19 t29 t39 D9 h9 tk9 F9 N9 l19)); (try dsimp only); (try k_fold)))))
  (k_with "call ref" => (k_here; (with_reducible show wpAny _ _ (call (Value.ref 206) [Value.ref _, Value.int _ _]) _ _ _); k_dflt (refine' c_toldN ?k1 ?k2 ?k3 ?k4 ?k5 ?kK ?kd ?ku ?xh1 ?xh2 ?xz ?xb ?_; (case k1 => k_asm); (case k2 => k_asm); (case k3 => k_asm); (case k4 => k_asm); (case k5 => k_asm); (case kK => first | exact rfl | assumption); (case kd => ktr_room); (case ku => ktr_units); (case xh1 => k_mem); (case xh2 => k_mem); (case xz => first | with_reducible assumption | exact sortS_ne _ | decide +kernel); (case xb => first | exact fm72b _ | exact ⟨by decide, by decide⟩ | with_reducible assumption | omega | (constructor <;> omega)); skip); (all_goals ((first | (intro t19 t29 t39 D9 h9 tk9 F9 N9 l19)); (try dsimp only); (try k_fold)))))
  (k_with "call ref" => (k_here; (with_reducible show wpAny _ _ (call (Value.ref 206) [Value.ref _, Value.int _ _]) _ _ _); k_dflt (refine' c_toldB ?k1 ?k2 ?k3 ?k4 ?k5 ?kK ?kd ?ku ?xh1 ?xh2 ?xb ?_; (case k1 => k_asm); (case k2 => k_asm); (case k3 => k_asm); (case k4 => k_asm); (case k5 => k_asm); (case kK => first | exact rfl | assumption); (case kd => ktr_room); (case ku => ktr_units); (case xh1 => k_mem); (case xh2 => k_mem); (case xb => first | exact fm72b _ | exact ⟨by decide, by decide⟩ | with_reducible assumption | omega | (constructor <;> omega)); skip); (all_goals ((first | (intro t19 t29 t39 D9 h9 tk9 F9 N9 l19)); (try dsimp only); (try k_fold)))))
  (k_with "compareOp NotEq ref ref" => (k_here; (with_reducible show wpAny _ _ (compareOp CmpOp.NotEq (Value.ref _) (Value.ref _)) _ _ _); k_dflt (refine' ne_told ?N ?h1 ?h2 ?hu ?_; (case N => k_asm); (case h1 => k_mem); (case h2 => k_mem); (case hu => ktr_units)); (try dsimp only)))
  (have hfill9 : (Challenge.rw_nm0112_01 = Challenge.rw_nm0112_01) ∧ (hd.heap_39 = hd.heap_39) := by (k_fill; exact ⟨rfl, rfl⟩))
  have e : lawParts w.params = some (_, _) := rfl
  rw [e] at hparts
  obtain ⟨rfl, rfl⟩ := Prod.mk.inj (Option.some.inj hparts)
  subst hcl
  k_steps
  all_goals (first
    | exact hret _ _ (by with_reducible assumption) (cb_drop (by with_reducible assumption) (by intro p9 hp9; repeat (first | (with_reducible exact hp9) | (with_reducible refine List.mem_cons_of_mem _ ?_)))))

end Mine
end

/- part W_law -/
section
open PySem PySem.W PyProof.Rows
set_option linter.unusedVariables false
set_option maxRecDepth 100000
namespace Mine
local macro_rules | `(tactic| size_fits) => `(tactic| first | ((rw [PySem.sizeLine_eq]); (try simp only [List.length_cons, List.length_nil, List.size_toArray]); omega) | fail "mine: no size")
theorem fm72 (v : Int) : 1 ≤ 1 + v.fmod 72 ∧ 1 + v.fmod 72 ≤ 72 := by
  have h1 := Int.fmod_nonneg_of_pos v (show (0 : Int) < 72 by decide)
  have h2 := Int.fmod_lt_of_pos v (show (0 : Int) < 72 by decide)
  omega
theorem fm72b (v : Int) : 0 ≤ 1 + v.fmod 72 ∧ 1 + v.fmod 72 ≤ 72 := by
  have := fm72 v
  omega
local macro_rules | `(tactic| k_mem) => `(tactic| first | (with_reducible exact List.mem_cons_self) | (with_reducible refine List.mem_cons_of_mem _ ?_; k_mem))
local macro_rules | `(tactic| ktu_off) => `(tactic| first | exact Or.inr (by k_cls) | exact Or.inl (by k_ne))
theorem ne_sn {prog : Program} {w : World} {A : Around} {E : Value → Shared → Prop} {s : Shared} {h₀ : Heap} {L D1 D2 : Addr} {news : List (Addr × Obj)} {z x : Str} {t1 t2 u1 u2 : Tok} {Q : Value → Shared → Prop}
    (N : News h₀ L s.heap news) (h1 : (D1, ({ cls := .type "tuple", data := .seq #[.str z t1, .str x t2] } : Obj)) ∈ news) (h2 : (D2, ({ cls := .type "tuple", data := .seq #[.str z u1, .str x u2] } : Obj)) ∈ news) (hu : A.units + 64 < cLine) (h : Q (.bool false) s) :
    wpAny (model prog w) A (compareOp .NotEq (.ref D1) (.ref D2)) Q E s := by
  have r1 : s.heap.IsTuple D1 #[.str z t1, .str x t2] := ⟨_, (N _ h1).1, rfl, _, rfl⟩
  have r2 : s.heap.IsTuple D2 #[.str z u1, .str x u2] := ⟨_, (N _ h2).1, rfl, _, rfl⟩
  have e : ∀ (y : Str) (t u : Tok), MeetsSeq.EqGives (.str y t) (.str y u) true := fun y t u => by
    have := PyProof.Rows.eqGives_str y y t u
    rwa [beq_self_eq_true] at this
  refine (PySem.SeqAt.RcNeAt.tuples (e := fun _ => true) r1 r2 (by omega) ?_) prog w E Q ?_
  · intro j h1 h2
    match j with
    | 0 => exact (e z t1 u1).at _ _
    | 1 => exact (e x t2 u2).at _ _
    | j + 2 => exact absurd (show j + 2 < 2 from h1) (by omega)
  · exact h

set_option maxHeartbeats 8000000 in
theorem law_t : PySem.Challenge.rw_nm0112_01.Holds := by
  k_with_none
  w_top off
  (k_with "eval Call" => (k_here; (first | (with_reducible show wpAny _ _ (eval (Expr.Call (Expr.Name (Str.ofString "_law_at") _) _ _ _) _) _ _ _) | (with_reducible show wpAny _ _ (eval (Expr.Call (Expr.Name (Str.ofString "_law_text") _) _ _ _) _) _ _ _) | (with_reducible show wpAny _ _ (eval (Expr.Call (Expr.Name (Str.ofString "_law_read") _) _ _ _) _) _ _ _) | (with_reducible show wpAny _ _ (eval (Expr.Call (Expr.Name (Str.ofString "sorted_word") _) _ _ _) _) _ _ _) | (with_reducible show wpAny _ _ (eval (Expr.Call (Expr.Name (Str.ofString "_law_sort") _) _ _ _) _) _ _ _)); k_dflt (refine Call_ ?_)))
  (k_with "call ref" => (k_here; (with_reducible show wpAny _ _ (call (Value.ref 159) [Value.ref _, Value.int _ _]) _ _ _); k_dflt (refine' c_at ?k1 ?k2 ?k3 ?k4 ?k5 ?kK ?kd ?ku ?xl ?xi ?xs ?x0 ?_; (case k1 => k_asm); (case k2 => k_asm); (case k3 => k_asm); (case k4 => k_asm); (case k5 => k_asm); (case kK => first | exact rfl | assumption); (case kd => ktr_room); (case ku => ktr_units); (case xl => k_asm); (case xi => first | with_reducible assumption | l_ints); (case xs => first | with_reducible assumption | omega); (case x0 => first | decide | omega); skip); (all_goals ((first | (intro v9 t9 h9 tk9 F9 N9)); (try dsimp only); (try k_fold)))))
  (k_with "call ref" => (k_here; (with_reducible show wpAny _ _ (call (Value.ref 180) [Value.ref _, Value.int _ _]) _ _ _); k_dflt (refine' c_text ?k1 ?k2 ?k3 ?k4 ?k5 ?kK ?kd ?ku ?xl ?xi ?xs ?xw ?_; (case k1 => k_asm); (case k2 => k_asm); (case k3 => k_asm); (case k4 => k_asm); (case k5 => k_asm); (case kK => first | exact rfl | assumption); (case kd => ktr_room); (case ku => ktr_units); (case xl => k_asm); (case xi => first | with_reducible assumption | l_ints); (case xs => first | with_reducible assumption | omega); (case xw => first | exact fm72 _ | omega); skip); (all_goals ((first | (intro y9 t9 h9 tk9 hv9 hv9' F9 N9)); (try dsimp only); (try k_fold)))))
  (k_with "call ref" => (k_here; (with_reducible show wpAny _ _ (call (Value.ref 185) [Value.str _ _]) _ _ _); k_dflt (refine' c_read ?k1 ?k2 ?k3 ?k4 ?k5 ?kK ?kd ?ku ?xx ?x1 ?_ ?_; (case k1 => k_asm); (case k2 => k_asm); (case k3 => k_asm); (case k4 => k_asm); (case k5 => k_asm); (case kK => first | exact rfl | assumption); (case kd => ktr_room); (case ku => ktr_units); (case xx => first | with_reducible assumption | omega); (case x1 => first | with_reducible assumption | omega); skip); (all_goals ((first | (intro n9 t9 h9 tk9 hR9 F9 N9) | (intro h9 tk9 hR9 F9 N9)); (try dsimp only); (try k_fold)))))
  (k_with "call ref" => (k_here; (with_reducible show wpAny _ _ (call (Value.ref 138) [Value.str _ _]) _ _ _); k_dflt (refine' c_sortN ?k1 ?k2 ?k3 ?k4 ?k5 ?kK ?kd ?ku ?xx ?x1 ?xn ?_; (case k1 => k_asm); (case k2 => k_asm); (case k3 => k_asm); (case k4 => k_asm); (case k5 => k_asm); (case kK => first | exact rfl | assumption); (case kd => ktr_room); (case ku => ktr_units); (case xx => first | with_reducible assumption | omega); (case x1 => first | with_reducible assumption | omega); (case xn => with_reducible assumption); skip); (all_goals ((first | (intro t19 t29 D9 h9 tk9 F9 N9 l19)); (try k_lt l19); (try dsimp only); (try k_fold)))))
  (k_with "call ref" => (k_here; (with_reducible show wpAny _ _ (call (Value.ref 138) [Value.str _ _]) _ _ _); k_dflt (refine' c_sortS ?k1 ?k2 ?k3 ?k4 ?k5 ?kK ?kd ?ku ?xx ?x1 ?xn ?_; (case k1 => k_asm); (case k2 => k_asm); (case k3 => k_asm); (case k4 => k_asm); (case k5 => k_asm); (case kK => first | exact rfl | assumption); (case kd => ktr_room); (case ku => ktr_units); (case xx => first | with_reducible assumption | omega); (case x1 => first | with_reducible assumption | omega); (case xn => with_reducible assumption); skip); (all_goals ((first | (intro t19 t29 D9 h9 tk9 F9 N9 l19)); (try k_lt l19); (try dsimp only); (try k_fold)))))
  (k_with "call ref" => (k_here; (with_reducible show wpAny _ _ (call (Value.ref 192) [Value.str _ _, Value.none]) _ _ _); k_dflt (refine' c_lsN ?k1 ?k2 ?k3 ?k4 ?k5 ?kK ?kd ?ku ?xx ?x1 ?_; (case k1 => k_asm); (case k2 => k_asm); (case k3 => k_asm); (case k4 => k_asm); (case k5 => k_asm); (case kK => first | exact rfl | assumption); (case kd => ktr_room); (case ku => ktr_units); (case xx => first | with_reducible assumption | omega); (case x1 => first | with_reducible assumption | omega); skip); (all_goals ((first | (intro t19 t29 D9 h9 tk9 F9 N9 l19)); (try k_lt l19); (try dsimp only); (try k_fold)))))
  (k_with "call ref" => (k_here; (with_reducible show wpAny _ _ (call (Value.ref 192) [Value.str _ _, Value.int _ _]) _ _ _); k_dflt (refine' c_lsortS ?k1 ?k2 ?k3 ?k4 ?k5 ?kK ?kd ?ku ?xx ?x1 ?_; (case k1 => k_asm); (case k2 => k_asm); (case k3 => k_asm); (case k4 => k_asm); (case k5 => k_asm); (case kK => first | exact rfl | assumption); (case kd => ktr_room); (case ku => ktr_units); (case xx => first | with_reducible assumption | omega); (case x1 => first | with_reducible assumption | omega); skip); (all_goals ((first | (intro t19 t29 D9 h9 tk9 F9 N9 l19)); (try k_lt l19); (try dsimp only); (try k_fold)))))
  (k_with "compareOp NotEq ref ref" => (k_here; (with_reducible show wpAny _ _ (compareOp CmpOp.NotEq (Value.ref _) (Value.ref _)) _ _ _); k_dflt (refine' ne_sn ?N ?h1 ?h2 ?hu ?_; (case N => k_asm); (case h1 => k_mem); (case h2 => k_mem); (case hu => ke_room)); (try dsimp only)))
  (k_with "execs cons" => (k_here; (with_reducible show wpAny _ _ (execs [Stmt.If (Expr.Compare (Expr.Call (Expr.Name (Str.ofString "_law_told") _) _ _ _) _ _ _) _ _ _, Stmt.If _ _ _ _] _) _ _ _); k_dflt (refine' turnS ?kB ?kF ?kX ?kN ?kT ?kdp ?kun ?kpa ?kcl ?kc1 ?kc2 ?kb ?kx ?kx1 ?kf1 ?kf2 ?kf3 ?kf4 ?kf5 ?kf6 ?ki1 ?ki2 ?klo ?kb1 ?kb2 ?ks1 ?ks2 ?_; (case kB => k_asm); (case kF => k_asm); (case kX => k_asm); (case kN => k_asm); (case kT => k_asm); (case kdp => ktr_room); (case kun => ktr_units); (case kpa => exact rfl); (case kcl => exact rfl); (case kc1 => k_mem); (case kc2 => with_reducible assumption); (case kb => first | exact fm72b _ | exact ⟨by decide, by decide⟩ | with_reducible assumption | omega | (constructor <;> omega)); (case kx => with_reducible assumption); (case kx1 => with_reducible assumption); (case kf1 => exact rfl); (case kf2 => exact rfl); (case kf3 => exact rfl); (case kf4 => exact rfl); (case kf5 => exact rfl); (case kf6 => exact rfl); (case ki1 => k_mem); (case ki2 => k_mem); (case klo => k_mem); (case kb1 => k_mem); (case kb2 => k_mem); (case ks1 => k_mem); (case ks2 => k_mem); skip); intro h9 tk9 F9 N9; (try dsimp only); (try k_fold)))
  (k_with "execs cons" => (k_here; (with_reducible show wpAny _ _ (execs [Stmt.If (Expr.Compare (Expr.Call (Expr.Name (Str.ofString "_law_told") _) _ _ _) _ _ _) _ _ _, Stmt.If _ _ _ _] _) _ _ _); k_dflt (refine' turnN ?kB ?kF ?kX ?kN ?kT ?kdp ?kun ?kpa ?kcl ?kc1 ?kc2 ?kb ?kx ?kx1 ?kf1 ?kf2 ?kf3 ?kf4 ?kf5 ?kf6 ?ki1 ?ki2 ?klo ?kb1 ?kb2 ?ks1 ?ks2 ?kz ?_; (case kB => k_asm); (case kF => k_asm); (case kX => k_asm); (case kN => k_asm); (case kT => k_asm); (case kdp => ktr_room); (case kun => ktr_units); (case kpa => exact rfl); (case kcl => exact rfl); (case kc1 => k_mem); (case kc2 => with_reducible assumption); (case kb => first | exact fm72b _ | exact ⟨by decide, by decide⟩ | with_reducible assumption | omega | (constructor <;> omega)); (case kx => with_reducible assumption); (case kx1 => with_reducible assumption); (case kf1 => exact rfl); (case kf2 => exact rfl); (case kf3 => exact rfl); (case kf4 => exact rfl); (case kf5 => exact rfl); (case kf6 => exact rfl); (case ki1 => k_mem); (case ki2 => k_mem); (case klo => k_mem); (case kb1 => k_mem); (case kb2 => k_mem); (case ks1 => k_mem); (case ks2 => k_mem); (case kz => exact sortS_ne _); skip); intro h9 tk9 F9 N9; (try dsimp only); (try k_fold)))
  refine hd ?_
  k_go0
  (all_goals try k_fold)
  k_steps
end Mine
end

set_option maxRecDepth 100000 in
set_option maxHeartbeats 8000000 in
theorem PySem.Challenge.cw_nm0112_01_holds : PySem.Challenge.rw_nm0112_01.Holds := by
  exact Mine.law_t
