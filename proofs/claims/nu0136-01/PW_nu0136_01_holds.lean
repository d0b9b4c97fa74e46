import PyProof.Rows.All
import Wide.All
import OpenK.AllK
import Wide.FinOn
import Lean
import PySem.Challenge.RW_nu0136_01
open PySem PySem.W PyProof.Rows
set_option Elab.async false
set_option maxRecDepth 100000
set_option maxHeartbeats 8000000
set_option rowWalk.seconds 0
set_option compiler.extract_closed false
set_option linter.unusedVariables false
namespace Mine
noncomputable abbrev prg : Program := PySem.Challenge.rw_nu0136_01.row.toRowW.1
/-- the i-th statement of the row's text; the j-th of its i-th class -/
noncomputable def topSt (i : Nat) : Stmt := PySem.Challenge.rw_nu0136_01.row.prog.main.body.getD i (.Pass default)
noncomputable def clsSt (i j : Nat) : Stmt := match topSt i with
  | .ClassDef _ _ _ body .. => body.getD j (.Pass default)
  | _ => .Pass default
/-- the function that a def statement leaves -/
noncomputable def fnO (s : Stmt) (q : Str) (g : Addr) (cl : List (Str × Addr)) (d kd doc pm : Value) (an : Option Addr) (cd ct : Value) (b : Addr) : FuncData := match s with
  | .FunctionDef name args body _ _ _ scope _ _ _ => ⟨name, q, args, .stmts body, scope, g, cl, d, kd, doc, pm, an, cd, ct, b⟩
  | _ => default
/-- the law is well said -/
theorem said41 : OpenLaw.wellSaid PySem.Challenge.rw_nu0136_01 = true := by
  unfold OpenLaw.wellSaid OpenRow.wellSaid OpenRow.partSaid looksOpen
  repeat' with_reducible refine look_both ?_ ?_
  all_goals decide +kernel

section
open Str (ofString)
open PyData (keyHash)
open BT (node nil)
section
noncomputable def o43 (P : Params) : Obj := Obj.mk (Value.type "tuple") none (Data.seq #[]) #[]
noncomputable def o44 (P : Params) : Obj := Obj.mk Value.none none (Data.fields #[]) #[]
noncomputable def o45 (P : Params) : Obj := Obj.mk (Value.type "code") none (Data.fields #[Value.str (ofString "<module>") 182, Value.str (ofString "<module>") 183, Value.str (ofString "/claim/cut.py") 184, Value.int 1 0, Value.int 0 0, Value.int 0 0, Value.int 0 0, Value.int 0 0, Value.ref 11, Value.bool false, Value.int 181 0, Value.ref 12, Value.none, Value.none, Value.none, Value.none, Value.int 185 0, Value.int 1 0, Value.str (ofString "/claim/cut.py") 186]) #[]
noncomputable def o46 (P : Params) : Obj := Obj.mk (Value.type "frame") none Data.plain #[some (Value.ref 13), some (Value.ref 3), some (Value.ref 3), none, some (Value.str (ofString "__main__") 164), none, some (Value.ref 0)]
noncomputable def o49 (P : Params) : Obj := Obj.mk Value.none none (Data.dict #[DictEntry.mk (keyHash P (ofString "type.__subclasses__.Exception.0")) (Value.str (ofString "type.__subclasses__.Exception.0") 221) (Value.int 38 0), DictEntry.mk (keyHash P (ofString "type.__subclasses__.Exception.n")) (Value.str (ofString "type.__subclasses__.Exception.n") 222) (Value.int 1 0)] 2) #[]
noncomputable def o50 (P : Params) : Obj := Obj.mk (Value.type "dict") none (Data.dict #[DictEntry.mk (keyHash P (ofString "__name__")) (Value.str (ofString "__name__") 165) (Value.str (ofString "thinstack.errors") 194), DictEntry.mk (keyHash P (ofString "__doc__")) (Value.str (ofString "__doc__") 166) Value.none, DictEntry.mk (keyHash P (ofString "__package__")) (Value.str (ofString "__package__") 167) Value.none, DictEntry.mk (keyHash P (ofString "__loader__")) (Value.str (ofString "__loader__") 168) (Value.builtin "__main__.__loader__#opaque"), DictEntry.mk (keyHash P (ofString "__spec__")) (Value.str (ofString "__spec__") 169) Value.none, DictEntry.mk (keyHash P (ofString "__annotations__")) (Value.str (ofString "__annotations__") 170) (Value.ref 6), DictEntry.mk (keyHash P (ofString "__builtins__")) (Value.str (ofString "__builtins__") 171) (Value.ref 4), DictEntry.mk (keyHash P (ofString "__file__")) (Value.str (ofString "__file__") 173) (Value.str (ofString "/claim/cut.py") 172), DictEntry.mk (keyHash P (ofString "__cached__")) (Value.str (ofString "__cached__") 174) Value.none, DictEntry.mk (keyHash P (ofString "_wall")) (Value.str (ofString "_wall") 193) (Value.ref 21), DictEntry.mk (keyHash P (ofString "StackError")) (Value.str (ofString "StackError") 224) (Value.ref 38)] 11) #[]
noncomputable def o51 (P : Params) : Obj := Obj.mk Value.none none (Data.fields #[Value.int 1 0, Value.int 0 0, Value.ref 20, Value.int 5 0, Value.int 0 0, Value.ref 27]) #[]
noncomputable def o52 (P : Params) : Obj := Obj.mk (Value.type "tuple") none (Data.seq #[]) #[]
noncomputable def o53 (P : Params) : Obj := Obj.mk Value.none none (Data.fields #[]) #[]
noncomputable def o54 (P : Params) : Obj := Obj.mk (Value.type "tuple") none (Data.seq #[Value.str (ofString "k") 190]) #[]
noncomputable def o55 (P : Params) : Obj := Obj.mk (Value.type "tuple") none (Data.seq #[]) #[]
noncomputable def o56 (P : Params) : Obj := Obj.mk Value.none none (.func (fnO (topSt 0) (ofString "_wall") 0 [] Value.none Value.none Value.none Value.none none Value.none Value.none 0)) #[]
noncomputable def o57 (P : Params) : Obj := Obj.mk (Value.type "code") none (Data.fields #[Value.str (ofString "_wall") 187, Value.str (ofString "_wall") 188, Value.str (ofString "/claim/cut.py") 189, Value.int 1 0, Value.int 1 0, Value.int 0 0, Value.int 0 0, Value.int 3 0, Value.ref 15, Value.bool true, Value.int 181 0, Value.ref 16, Value.none, Value.ref 17, Value.ref 18, Value.ref 19, Value.int 191 0, Value.int 1 0, Value.str (ofString "/claim/cut.py") 192]) #[]
noncomputable def o58 (P : Params) : Obj := Obj.mk (Value.type "function") none (.func (fnO (topSt 0) (ofString "_wall") 3 [] Value.none Value.none Value.none (Value.str (ofString "__main__") 164) none (Value.ref 20) Value.none 0)) #[]
noncomputable def o59 (P : Params) : Obj := Obj.mk (Value.type "tuple") none (Data.seq #[Value.type "Exception"]) #[]
noncomputable def o60 (P : Params) : Obj := Obj.mk (Value.type "builtin_function_or_method") none (Data.fields #[Value.builtin "type.__prepare__", Value.type "type"]) #[]
noncomputable def o61 (P : Params) : Obj := Obj.mk (Value.type "dict") none (Data.dict #[DictEntry.mk (keyHash P (ofString "__module__")) (Value.str (ofString "__module__") 203) (Value.str (ofString "thinstack.errors") 194), DictEntry.mk (keyHash P (ofString "__qualname__")) (Value.str (ofString "__qualname__") 205) (Value.str (ofString "StackError") 204), DictEntry.mk (keyHash P (ofString "__firstlineno__")) (Value.str (ofString "__firstlineno__") 207) (Value.int 5 206), DictEntry.mk (keyHash P (ofString "__init__")) (Value.str (ofString "__init__") 215) (Value.ref 35), DictEntry.mk (keyHash P (ofString "__static_attributes__")) (Value.str (ofString "__static_attributes__") 217) (Value.ref 36)] 5) #[]
noncomputable def o62 (P : Params) : Obj := Obj.mk (Value.type "tuple") none (Data.seq #[]) #[]
noncomputable def o63 (P : Params) : Obj := Obj.mk Value.none none (Data.fields #[Value.int 7 0, Value.int 4 0, Value.ref 34]) #[]
noncomputable def o64 (P : Params) : Obj := Obj.mk (Value.type "code") none (Data.fields #[Value.str (ofString "StackError") 198, Value.str (ofString "StackError") 199, Value.str (ofString "/claim/cut.py") 200, Value.int 5 0, Value.int 0 0, Value.int 0 0, Value.int 0 0, Value.int 0 0, Value.ref 25, Value.bool false, Value.int 181 0, Value.ref 26, Value.none, Value.none, Value.none, Value.none, Value.int 201 0, Value.int 5 0, Value.str (ofString "/claim/cut.py") 202]) #[]
noncomputable def o65 (P : Params) : Obj := Obj.mk (Value.type "frame") none Data.plain #[some (Value.ref 27), some (Value.ref 3), some (Value.ref 24), none, some (Value.str (ofString "thinstack.errors") 194), none, some (Value.ref 0)]
noncomputable def o66 (P : Params) : Obj := Obj.mk (Value.type "tuple") none (Data.seq #[]) #[]
noncomputable def o67 (P : Params) : Obj := Obj.mk Value.none none (Data.fields #[]) #[]
noncomputable def o68 (P : Params) : Obj := Obj.mk (Value.type "tuple") none (Data.seq #[Value.str (ofString "self") 211, Value.str (ofString "message") 212]) #[]
noncomputable def o69 (P : Params) : Obj := Obj.mk (Value.type "tuple") none (Data.seq #[]) #[]
noncomputable def o70 (P : Params) : Obj := Obj.mk Value.none none (.func (fnO (clsSt 2 0) (ofString "StackError.__init__") 0 [] Value.none Value.none Value.none Value.none none Value.none Value.none 0)) #[]
noncomputable def o71 (P : Params) : Obj := Obj.mk (Value.type "code") none (Data.fields #[Value.str (ofString "__init__") 208, Value.str (ofString "StackError.__init__") 209, Value.str (ofString "/claim/cut.py") 210, Value.int 7 0, Value.int 2 0, Value.int 0 0, Value.int 0 0, Value.int 3 0, Value.ref 29, Value.bool true, Value.int 181 0, Value.ref 30, Value.none, Value.ref 31, Value.ref 32, Value.ref 33, Value.int 213 0, Value.int 7 0, Value.str (ofString "/claim/cut.py") 214]) #[]
noncomputable def o72 (P : Params) : Obj := Obj.mk (Value.type "function") none (.func (fnO (clsSt 2 0) (ofString "StackError.__init__") 3 [] Value.none Value.none Value.none (Value.str (ofString "thinstack.errors") 194) none (Value.ref 34) Value.none 0)) #[]
noncomputable def o73 (P : Params) : Obj := Obj.mk (Value.type "tuple") none (Data.seq #[Value.str (ofString "message") 216]) #[]
noncomputable def o74 (P : Params) : Obj := Obj.mk (Value.type "dict") none (Data.dict #[DictEntry.mk (keyHash P (ofString "__module__")) (Value.str (ofString "__module__") 203) (Value.str (ofString "thinstack.errors") 194), DictEntry.mk (keyHash P (ofString "__firstlineno__")) (Value.str (ofString "__firstlineno__") 207) (Value.int 5 206), DictEntry.mk (keyHash P (ofString "__init__")) (Value.str (ofString "__init__") 215) (Value.ref 35), DictEntry.mk (keyHash P (ofString "__static_attributes__")) (Value.str (ofString "__static_attributes__") 217) (Value.ref 36), DictEntry.mk (keyHash P (ofString "__weakref__")) (Value.str (ofString "__weakref__") 219) (Value.ref 39), DictEntry.mk (keyHash P (ofString "__doc__")) (Value.str (ofString "__doc__") 220) Value.none] 3) #[]
noncomputable def o75 (P : Params) : Obj := Obj.mk (Value.type "type") none (Data.cls (ClassData.mk (ofString "StackError") [Value.type "Exception"] [Value.ref 38, Value.type "Exception", Value.type "BaseException", Value.type "object"] 37 (ofString "StackError") true [] [] false none false)) #[some (Value.ref 22), none, some (Value.str (ofString "StackError") 196), some (Value.str (ofString "StackError") 204), some (Value.builtin "Exception.__new__"), some (Value.bool true)]
noncomputable def o76 (P : Params) : Obj := Obj.mk (Value.type "getset_descriptor") none (Data.fields #[Value.str (ofString "__weakref__") 218, Value.ref 38, Value.builtin "ExceptionGroup.__weakref__", Value.none]) #[]
noncomputable def o77 (P : Params) : Obj := Obj.mk (Value.type "super") none (Data.fields #[Value.ref 38, Value.ref 38, Value.ref 38]) #[]
noncomputable def o78 (P : Params) : Obj := Obj.mk (Value.type "builtin_function_or_method") none (Data.fields #[Value.builtin "object.__init_subclass__", Value.ref 38]) #[]
noncomputable def o79 (P : Params) : Obj := Obj.mk (Value.type "dict") none (Data.dict #[DictEntry.mk (keyHash P (ofString "__name__")) (Value.str (ofString "__name__") 165) (Value.str (ofString "thinstack.errors") 194), DictEntry.mk (keyHash P (ofString "__doc__")) (Value.str (ofString "__doc__") 166) Value.none, DictEntry.mk (keyHash P (ofString "__package__")) (Value.str (ofString "__package__") 167) Value.none, DictEntry.mk (keyHash P (ofString "__loader__")) (Value.str (ofString "__loader__") 168) (Value.builtin "__main__.__loader__#opaque"), DictEntry.mk (keyHash P (ofString "__spec__")) (Value.str (ofString "__spec__") 169) Value.none, DictEntry.mk (keyHash P (ofString "__annotations__")) (Value.str (ofString "__annotations__") 170) (Value.ref 6), DictEntry.mk (keyHash P (ofString "__builtins__")) (Value.str (ofString "__builtins__") 171) (Value.ref 4), DictEntry.mk (keyHash P (ofString "__file__")) (Value.str (ofString "__file__") 173) (Value.str (ofString "/claim/cut.py") 172), DictEntry.mk (keyHash P (ofString "__cached__")) (Value.str (ofString "__cached__") 174) Value.none, DictEntry.mk (keyHash P (ofString "_wall")) (Value.str (ofString "_wall") 193) (Value.ref 21), DictEntry.mk (keyHash P (ofString "StackError")) (Value.str (ofString "StackError") 224) (Value.ref 38), DictEntry.mk (keyHash P (ofString "FormError")) (Value.str (ofString "FormError") 240) (Value.ref 51)] 12) #[]
noncomputable def o80 (P : Params) : Obj := Obj.mk Value.none none (Data.fields #[Value.int 1 0, Value.int 0 0, Value.ref 20, Value.int 5 0, Value.int 0 0, Value.ref 27, Value.int 9 0, Value.int 0 0, Value.ref 47]) #[]
noncomputable def o81 (P : Params) : Obj := Obj.mk (Value.type "type") none (Data.cls (ClassData.mk (ofString "StackError") [Value.type "Exception"] [Value.ref 38, Value.type "Exception", Value.type "BaseException", Value.type "object"] 37 (ofString "StackError") true [] [Value.ref 51] false none false)) #[some (Value.ref 22), none, some (Value.str (ofString "StackError") 196), some (Value.str (ofString "StackError") 204), some (Value.builtin "Exception.__new__"), some (Value.bool true)]
noncomputable def o82 (P : Params) : Obj := Obj.mk (Value.type "tuple") none (Data.seq #[Value.ref 38]) #[]
noncomputable def o83 (P : Params) : Obj := Obj.mk (Value.type "builtin_function_or_method") none (Data.fields #[Value.builtin "type.__prepare__", Value.type "type"]) #[]
noncomputable def o84 (P : Params) : Obj := Obj.mk (Value.type "dict") none (Data.dict #[DictEntry.mk (keyHash P (ofString "__module__")) (Value.str (ofString "__module__") 232) (Value.str (ofString "thinstack.errors") 194), DictEntry.mk (keyHash P (ofString "__qualname__")) (Value.str (ofString "__qualname__") 234) (Value.str (ofString "FormError") 233), DictEntry.mk (keyHash P (ofString "__firstlineno__")) (Value.str (ofString "__firstlineno__") 236) (Value.int 9 235), DictEntry.mk (keyHash P (ofString "__static_attributes__")) (Value.str (ofString "__static_attributes__") 237) (Value.ref 49)] 4) #[]
noncomputable def o85 (P : Params) : Obj := Obj.mk (Value.type "tuple") none (Data.seq #[]) #[]
noncomputable def o86 (P : Params) : Obj := Obj.mk Value.none none (Data.fields #[]) #[]
noncomputable def o87 (P : Params) : Obj := Obj.mk (Value.type "code") none (Data.fields #[Value.str (ofString "FormError") 227, Value.str (ofString "FormError") 228, Value.str (ofString "/claim/cut.py") 229, Value.int 9 0, Value.int 0 0, Value.int 0 0, Value.int 0 0, Value.int 0 0, Value.ref 45, Value.bool false, Value.int 181 0, Value.ref 46, Value.none, Value.none, Value.none, Value.none, Value.int 230 0, Value.int 9 0, Value.str (ofString "/claim/cut.py") 231]) #[]
noncomputable def o88 (P : Params) : Obj := Obj.mk (Value.type "frame") none Data.plain #[some (Value.ref 47), some (Value.ref 3), some (Value.ref 44), none, some (Value.str (ofString "thinstack.errors") 194), none, some (Value.ref 0)]
noncomputable def o89 (P : Params) : Obj := Obj.mk (Value.type "tuple") none (Data.seq #[]) #[]
noncomputable def o90 (P : Params) : Obj := Obj.mk (Value.type "dict") none (Data.dict #[DictEntry.mk (keyHash P (ofString "__module__")) (Value.str (ofString "__module__") 232) (Value.str (ofString "thinstack.errors") 194), DictEntry.mk (keyHash P (ofString "__firstlineno__")) (Value.str (ofString "__firstlineno__") 236) (Value.int 9 235), DictEntry.mk (keyHash P (ofString "__static_attributes__")) (Value.str (ofString "__static_attributes__") 237) (Value.ref 49), DictEntry.mk (keyHash P (ofString "__doc__")) (Value.str (ofString "__doc__") 238) Value.none] 2) #[]
noncomputable def o91 (P : Params) : Obj := Obj.mk (Value.type "type") none (Data.cls (ClassData.mk (ofString "FormError") [Value.ref 38] [Value.ref 51, Value.ref 38, Value.type "Exception", Value.type "BaseException", Value.type "object"] 50 (ofString "FormError") true [] [] false none false)) #[some (Value.ref 42), none, some (Value.str (ofString "FormError") 225), some (Value.str (ofString "FormError") 233), some (Value.builtin "Exception.__new__"), some (Value.bool true)]
noncomputable def o92 (P : Params) : Obj := Obj.mk (Value.type "super") none (Data.fields #[Value.ref 51, Value.ref 51, Value.ref 51]) #[]
noncomputable def o93 (P : Params) : Obj := Obj.mk (Value.type "builtin_function_or_method") none (Data.fields #[Value.builtin "object.__init_subclass__", Value.ref 51]) #[]
noncomputable def o94 (P : Params) : Obj := Obj.mk (Value.type "dict") none (Data.dict #[DictEntry.mk (keyHash P (ofString "__name__")) (Value.str (ofString "__name__") 165) (Value.str (ofString "thinstack.sums") 298), DictEntry.mk (keyHash P (ofString "__doc__")) (Value.str (ofString "__doc__") 166) Value.none, DictEntry.mk (keyHash P (ofString "__package__")) (Value.str (ofString "__package__") 167) Value.none, DictEntry.mk (keyHash P (ofString "__loader__")) (Value.str (ofString "__loader__") 168) (Value.builtin "__main__.__loader__#opaque"), DictEntry.mk (keyHash P (ofString "__spec__")) (Value.str (ofString "__spec__") 169) Value.none, DictEntry.mk (keyHash P (ofString "__annotations__")) (Value.str (ofString "__annotations__") 170) (Value.ref 6), DictEntry.mk (keyHash P (ofString "__builtins__")) (Value.str (ofString "__builtins__") 171) (Value.ref 4), DictEntry.mk (keyHash P (ofString "__file__")) (Value.str (ofString "__file__") 173) (Value.str (ofString "/claim/cut.py") 172), DictEntry.mk (keyHash P (ofString "__cached__")) (Value.str (ofString "__cached__") 174) Value.none, DictEntry.mk (keyHash P (ofString "_wall")) (Value.str (ofString "_wall") 193) (Value.ref 21), DictEntry.mk (keyHash P (ofString "StackError")) (Value.str (ofString "StackError") 224) (Value.ref 38), DictEntry.mk (keyHash P (ofString "FormError")) (Value.str (ofString "FormError") 240) (Value.ref 51), DictEntry.mk (keyHash P (ofString "SizeError")) (Value.str (ofString "SizeError") 256) (Value.ref 63), DictEntry.mk (keyHash P (ofString "put16")) (Value.str (ofString "put16") 265) (Value.ref 72), DictEntry.mk (keyHash P (ofString "put32")) (Value.str (ofString "put32") 272) (Value.ref 79), DictEntry.mk (keyHash P (ofString "need")) (Value.str (ofString "need") 281) (Value.ref 86), DictEntry.mk (keyHash P (ofString "get16")) (Value.str (ofString "get16") 289) (Value.ref 93), DictEntry.mk (keyHash P (ofString "get32")) (Value.str (ofString "get32") 297) (Value.ref 100), DictEntry.mk (keyHash P (ofString "ALL_ONES")) (Value.str (ofString "ALL_ONES") 301) (Value.int 65535 300)] 19) #[]
noncomputable def o95 (P : Params) : Obj := Obj.mk Value.none none (Data.fields #[Value.int 1 0, Value.int 0 0, Value.ref 20, Value.int 5 0, Value.int 0 0, Value.ref 27, Value.int 9 0, Value.int 0 0, Value.ref 47, Value.int 11 0, Value.int 0 0, Value.ref 59, Value.int 14 0, Value.int 0 0, Value.ref 71, Value.int 16 0, Value.int 0 0, Value.ref 78, Value.int 18 0, Value.int 0 0, Value.ref 85, Value.int 21 0, Value.int 0 0, Value.ref 92, Value.int 24 0, Value.int 0 0, Value.ref 99]) #[]
noncomputable def o96 (P : Params) : Obj := Obj.mk (Value.type "type") none (Data.cls (ClassData.mk (ofString "StackError") [Value.type "Exception"] [Value.ref 38, Value.type "Exception", Value.type "BaseException", Value.type "object"] 37 (ofString "StackError") true [] [Value.ref 51, Value.ref 63] false none false)) #[some (Value.ref 22), none, some (Value.str (ofString "StackError") 196), some (Value.str (ofString "StackError") 204), some (Value.builtin "Exception.__new__"), some (Value.bool true)]
noncomputable def o97 (P : Params) : Obj := Obj.mk (Value.type "tuple") none (Data.seq #[Value.ref 38]) #[]
noncomputable def o98 (P : Params) : Obj := Obj.mk (Value.type "builtin_function_or_method") none (Data.fields #[Value.builtin "type.__prepare__", Value.type "type"]) #[]
noncomputable def o99 (P : Params) : Obj := Obj.mk (Value.type "dict") none (Data.dict #[DictEntry.mk (keyHash P (ofString "__module__")) (Value.str (ofString "__module__") 248) (Value.str (ofString "thinstack.errors") 194), DictEntry.mk (keyHash P (ofString "__qualname__")) (Value.str (ofString "__qualname__") 250) (Value.str (ofString "SizeError") 249), DictEntry.mk (keyHash P (ofString "__firstlineno__")) (Value.str (ofString "__firstlineno__") 252) (Value.int 11 251), DictEntry.mk (keyHash P (ofString "__static_attributes__")) (Value.str (ofString "__static_attributes__") 253) (Value.ref 61)] 4) #[]
noncomputable def o100 (P : Params) : Obj := Obj.mk (Value.type "tuple") none (Data.seq #[]) #[]
noncomputable def o101 (P : Params) : Obj := Obj.mk Value.none none (Data.fields #[]) #[]
noncomputable def o102 (P : Params) : Obj := Obj.mk (Value.type "code") none (Data.fields #[Value.str (ofString "SizeError") 243, Value.str (ofString "SizeError") 244, Value.str (ofString "/claim/cut.py") 245, Value.int 11 0, Value.int 0 0, Value.int 0 0, Value.int 0 0, Value.int 0 0, Value.ref 57, Value.bool false, Value.int 181 0, Value.ref 58, Value.none, Value.none, Value.none, Value.none, Value.int 246 0, Value.int 11 0, Value.str (ofString "/claim/cut.py") 247]) #[]
noncomputable def o103 (P : Params) : Obj := Obj.mk (Value.type "frame") none Data.plain #[some (Value.ref 59), some (Value.ref 3), some (Value.ref 56), none, some (Value.str (ofString "thinstack.errors") 194), none, some (Value.ref 0)]
noncomputable def o104 (P : Params) : Obj := Obj.mk (Value.type "tuple") none (Data.seq #[]) #[]
noncomputable def o105 (P : Params) : Obj := Obj.mk (Value.type "dict") none (Data.dict #[DictEntry.mk (keyHash P (ofString "__module__")) (Value.str (ofString "__module__") 248) (Value.str (ofString "thinstack.errors") 194), DictEntry.mk (keyHash P (ofString "__firstlineno__")) (Value.str (ofString "__firstlineno__") 252) (Value.int 11 251), DictEntry.mk (keyHash P (ofString "__static_attributes__")) (Value.str (ofString "__static_attributes__") 253) (Value.ref 61), DictEntry.mk (keyHash P (ofString "__doc__")) (Value.str (ofString "__doc__") 254) Value.none] 2) #[]
noncomputable def o106 (P : Params) : Obj := Obj.mk (Value.type "type") none (Data.cls (ClassData.mk (ofString "SizeError") [Value.ref 38] [Value.ref 63, Value.ref 38, Value.type "Exception", Value.type "BaseException", Value.type "object"] 62 (ofString "SizeError") true [] [] false none false)) #[some (Value.ref 54), none, some (Value.str (ofString "SizeError") 241), some (Value.str (ofString "SizeError") 249), some (Value.builtin "Exception.__new__"), some (Value.bool true)]
noncomputable def o107 (P : Params) : Obj := Obj.mk (Value.type "super") none (Data.fields #[Value.ref 63, Value.ref 63, Value.ref 63]) #[]
noncomputable def o108 (P : Params) : Obj := Obj.mk (Value.type "builtin_function_or_method") none (Data.fields #[Value.builtin "object.__init_subclass__", Value.ref 63]) #[]
noncomputable def o109 (P : Params) : Obj := Obj.mk (Value.type "tuple") none (Data.seq #[]) #[]
noncomputable def o110 (P : Params) : Obj := Obj.mk Value.none none (Data.fields #[]) #[]
noncomputable def o111 (P : Params) : Obj := Obj.mk (Value.type "tuple") none (Data.seq #[Value.str (ofString "n") 262]) #[]
noncomputable def o112 (P : Params) : Obj := Obj.mk (Value.type "tuple") none (Data.seq #[]) #[]
noncomputable def o113 (P : Params) : Obj := Obj.mk Value.none none (.func (fnO (topSt 6) (ofString "put16") 0 [] Value.none Value.none Value.none Value.none none Value.none Value.none 0)) #[]
noncomputable def o114 (P : Params) : Obj := Obj.mk (Value.type "code") none (Data.fields #[Value.str (ofString "put16") 259, Value.str (ofString "put16") 260, Value.str (ofString "/claim/cut.py") 261, Value.int 14 0, Value.int 1 0, Value.int 0 0, Value.int 0 0, Value.int 3 0, Value.ref 66, Value.bool true, Value.int 181 0, Value.ref 67, Value.none, Value.ref 68, Value.ref 69, Value.ref 70, Value.int 263 0, Value.int 14 0, Value.str (ofString "/claim/cut.py") 264]) #[]
noncomputable def o115 (P : Params) : Obj := Obj.mk (Value.type "function") none (.func (fnO (topSt 6) (ofString "put16") 3 [] Value.none Value.none Value.none (Value.str (ofString "thinstack.octets") 257) none (Value.ref 71) Value.none 0)) #[]
noncomputable def o116 (P : Params) : Obj := Obj.mk (Value.type "tuple") none (Data.seq #[]) #[]
noncomputable def o117 (P : Params) : Obj := Obj.mk Value.none none (Data.fields #[]) #[]
noncomputable def o118 (P : Params) : Obj := Obj.mk (Value.type "tuple") none (Data.seq #[Value.str (ofString "n") 269]) #[]
noncomputable def o119 (P : Params) : Obj := Obj.mk (Value.type "tuple") none (Data.seq #[]) #[]
noncomputable def o120 (P : Params) : Obj := Obj.mk Value.none none (.func (fnO (topSt 7) (ofString "put32") 0 [] Value.none Value.none Value.none Value.none none Value.none Value.none 0)) #[]
noncomputable def o121 (P : Params) : Obj := Obj.mk (Value.type "code") none (Data.fields #[Value.str (ofString "put32") 266, Value.str (ofString "put32") 267, Value.str (ofString "/claim/cut.py") 268, Value.int 16 0, Value.int 1 0, Value.int 0 0, Value.int 0 0, Value.int 3 0, Value.ref 73, Value.bool true, Value.int 181 0, Value.ref 74, Value.none, Value.ref 75, Value.ref 76, Value.ref 77, Value.int 270 0, Value.int 16 0, Value.str (ofString "/claim/cut.py") 271]) #[]
noncomputable def o122 (P : Params) : Obj := Obj.mk (Value.type "function") none (.func (fnO (topSt 7) (ofString "put32") 3 [] Value.none Value.none Value.none (Value.str (ofString "thinstack.octets") 257) none (Value.ref 78) Value.none 0)) #[]
noncomputable def o123 (P : Params) : Obj := Obj.mk (Value.type "tuple") none (Data.seq #[]) #[]
noncomputable def o124 (P : Params) : Obj := Obj.mk Value.none none (Data.fields #[]) #[]
noncomputable def o125 (P : Params) : Obj := Obj.mk (Value.type "tuple") none (Data.seq #[Value.str (ofString "octets") 276, Value.str (ofString "at") 277, Value.str (ofString "size") 278]) #[]
noncomputable def o126 (P : Params) : Obj := Obj.mk (Value.type "tuple") none (Data.seq #[]) #[]
noncomputable def o127 (P : Params) : Obj := Obj.mk Value.none none (.func (fnO (topSt 8) (ofString "need") 0 [] Value.none Value.none Value.none Value.none none Value.none Value.none 0)) #[]
noncomputable def o128 (P : Params) : Obj := Obj.mk (Value.type "code") none (Data.fields #[Value.str (ofString "need") 273, Value.str (ofString "need") 274, Value.str (ofString "/claim/cut.py") 275, Value.int 18 0, Value.int 3 0, Value.int 0 0, Value.int 0 0, Value.int 3 0, Value.ref 80, Value.bool true, Value.int 181 0, Value.ref 81, Value.none, Value.ref 82, Value.ref 83, Value.ref 84, Value.int 279 0, Value.int 18 0, Value.str (ofString "/claim/cut.py") 280]) #[]
noncomputable def o129 (P : Params) : Obj := Obj.mk (Value.type "function") none (.func (fnO (topSt 8) (ofString "need") 3 [] Value.none Value.none Value.none (Value.str (ofString "thinstack.octets") 257) none (Value.ref 85) Value.none 0)) #[]
noncomputable def o130 (P : Params) : Obj := Obj.mk (Value.type "tuple") none (Data.seq #[]) #[]
noncomputable def o131 (P : Params) : Obj := Obj.mk Value.none none (Data.fields #[]) #[]
noncomputable def o132 (P : Params) : Obj := Obj.mk (Value.type "tuple") none (Data.seq #[Value.str (ofString "octets") 285, Value.str (ofString "at") 286]) #[]
noncomputable def o133 (P : Params) : Obj := Obj.mk (Value.type "tuple") none (Data.seq #[]) #[]
noncomputable def o134 (P : Params) : Obj := Obj.mk Value.none none (.func (fnO (topSt 9) (ofString "get16") 0 [] Value.none Value.none Value.none Value.none none Value.none Value.none 0)) #[]
noncomputable def o135 (P : Params) : Obj := Obj.mk (Value.type "code") none (Data.fields #[Value.str (ofString "get16") 282, Value.str (ofString "get16") 283, Value.str (ofString "/claim/cut.py") 284, Value.int 21 0, Value.int 2 0, Value.int 0 0, Value.int 0 0, Value.int 3 0, Value.ref 87, Value.bool true, Value.int 181 0, Value.ref 88, Value.none, Value.ref 89, Value.ref 90, Value.ref 91, Value.int 287 0, Value.int 21 0, Value.str (ofString "/claim/cut.py") 288]) #[]
noncomputable def o136 (P : Params) : Obj := Obj.mk (Value.type "function") none (.func (fnO (topSt 9) (ofString "get16") 3 [] Value.none Value.none Value.none (Value.str (ofString "thinstack.octets") 257) none (Value.ref 92) Value.none 0)) #[]
noncomputable def o137 (P : Params) : Obj := Obj.mk (Value.type "tuple") none (Data.seq #[]) #[]
noncomputable def o138 (P : Params) : Obj := Obj.mk Value.none none (Data.fields #[]) #[]
noncomputable def o139 (P : Params) : Obj := Obj.mk (Value.type "tuple") none (Data.seq #[Value.str (ofString "octets") 293, Value.str (ofString "at") 294]) #[]
noncomputable def o140 (P : Params) : Obj := Obj.mk (Value.type "tuple") none (Data.seq #[]) #[]
noncomputable def o141 (P : Params) : Obj := Obj.mk Value.none none (.func (fnO (topSt 10) (ofString "get32") 0 [] Value.none Value.none Value.none Value.none none Value.none Value.none 0)) #[]
noncomputable def o142 (P : Params) : Obj := Obj.mk (Value.type "code") none (Data.fields #[Value.str (ofString "get32") 290, Value.str (ofString "get32") 291, Value.str (ofString "/claim/cut.py") 292, Value.int 24 0, Value.int 2 0, Value.int 0 0, Value.int 0 0, Value.int 3 0, Value.ref 94, Value.bool true, Value.int 181 0, Value.ref 95, Value.none, Value.ref 96, Value.ref 97, Value.ref 98, Value.int 295 0, Value.int 24 0, Value.str (ofString "/claim/cut.py") 296]) #[]
noncomputable def o143 (P : Params) : Obj := Obj.mk (Value.type "function") none (.func (fnO (topSt 10) (ofString "get32") 3 [] Value.none Value.none Value.none (Value.str (ofString "thinstack.octets") 257) none (Value.ref 99) Value.none 0)) #[]
noncomputable def o144 (P : Params) : Obj := Obj.mk (Value.type "dict") none (Data.dict #[DictEntry.mk (keyHash P (ofString "__name__")) (Value.str (ofString "__name__") 165) (Value.str (ofString "thinstack.ip_header") 339), DictEntry.mk (keyHash P (ofString "__doc__")) (Value.str (ofString "__doc__") 166) Value.none, DictEntry.mk (keyHash P (ofString "__package__")) (Value.str (ofString "__package__") 167) Value.none, DictEntry.mk (keyHash P (ofString "__loader__")) (Value.str (ofString "__loader__") 168) (Value.builtin "__main__.__loader__#opaque"), DictEntry.mk (keyHash P (ofString "__spec__")) (Value.str (ofString "__spec__") 169) Value.none, DictEntry.mk (keyHash P (ofString "__annotations__")) (Value.str (ofString "__annotations__") 170) (Value.ref 6), DictEntry.mk (keyHash P (ofString "__builtins__")) (Value.str (ofString "__builtins__") 171) (Value.ref 4), DictEntry.mk (keyHash P (ofString "__file__")) (Value.str (ofString "__file__") 173) (Value.str (ofString "/claim/cut.py") 172), DictEntry.mk (keyHash P (ofString "__cached__")) (Value.str (ofString "__cached__") 174) Value.none, DictEntry.mk (keyHash P (ofString "_wall")) (Value.str (ofString "_wall") 193) (Value.ref 21), DictEntry.mk (keyHash P (ofString "StackError")) (Value.str (ofString "StackError") 224) (Value.ref 38), DictEntry.mk (keyHash P (ofString "FormError")) (Value.str (ofString "FormError") 240) (Value.ref 51), DictEntry.mk (keyHash P (ofString "SizeError")) (Value.str (ofString "SizeError") 256) (Value.ref 63), DictEntry.mk (keyHash P (ofString "put16")) (Value.str (ofString "put16") 265) (Value.ref 72), DictEntry.mk (keyHash P (ofString "put32")) (Value.str (ofString "put32") 272) (Value.ref 79), DictEntry.mk (keyHash P (ofString "need")) (Value.str (ofString "need") 281) (Value.ref 86), DictEntry.mk (keyHash P (ofString "get16")) (Value.str (ofString "get16") 289) (Value.ref 93), DictEntry.mk (keyHash P (ofString "get32")) (Value.str (ofString "get32") 297) (Value.ref 100), DictEntry.mk (keyHash P (ofString "ALL_ONES")) (Value.str (ofString "ALL_ONES") 301) (Value.int 65535 300), DictEntry.mk (keyHash P (ofString "fold")) (Value.str (ofString "fold") 308) (Value.ref 107), DictEntry.mk (keyHash P (ofString "ones_sum")) (Value.str (ofString "ones_sum") 320) (Value.ref 115), DictEntry.mk (keyHash P (ofString "checksum")) (Value.str (ofString "checksum") 329) (Value.ref 123), DictEntry.mk (keyHash P (ofString "adjusted")) (Value.str (ofString "adjusted") 338) (Value.ref 130), DictEntry.mk (keyHash P (ofString "VERSION")) (Value.str (ofString "VERSION") 342) (Value.int 4 341), DictEntry.mk (keyHash P (ofString "LEAST_HEAD")) (Value.str (ofString "LEAST_HEAD") 344) (Value.int 20 343), DictEntry.mk (keyHash P (ofString "MOST_HEAD")) (Value.str (ofString "MOST_HEAD") 346) (Value.int 60 345), DictEntry.mk (keyHash P (ofString "MOST_TOTAL")) (Value.str (ofString "MOST_TOTAL") 348) (Value.int 65535 347), DictEntry.mk (keyHash P (ofString "DONT_BIT")) (Value.str (ofString "DONT_BIT") 350) (Value.int 16384 349), DictEntry.mk (keyHash P (ofString "MORE_BIT")) (Value.str (ofString "MORE_BIT") 352) (Value.int 8192 351), DictEntry.mk (keyHash P (ofString "PLACE_BITS")) (Value.str (ofString "PLACE_BITS") 354) (Value.int 8191 353), DictEntry.mk (keyHash P (ofString "TTL_PLACE")) (Value.str (ofString "TTL_PLACE") 356) (Value.int 8 355), DictEntry.mk (keyHash P (ofString "SUM_PLACE")) (Value.str (ofString "SUM_PLACE") 358) (Value.int 10 357)] 32) #[]
noncomputable def o145 (P : Params) : Obj := Obj.mk Value.none none (Data.fields #[Value.int 1 0, Value.int 0 0, Value.ref 20, Value.int 5 0, Value.int 0 0, Value.ref 27, Value.int 9 0, Value.int 0 0, Value.ref 47, Value.int 11 0, Value.int 0 0, Value.ref 59, Value.int 14 0, Value.int 0 0, Value.ref 71, Value.int 16 0, Value.int 0 0, Value.ref 78, Value.int 18 0, Value.int 0 0, Value.ref 85, Value.int 21 0, Value.int 0 0, Value.ref 92, Value.int 24 0, Value.int 0 0, Value.ref 99, Value.int 29 0, Value.int 0 0, Value.ref 106, Value.int 33 0, Value.int 0 0, Value.ref 114, Value.int 41 0, Value.int 0 0, Value.ref 122, Value.int 43 0, Value.int 0 0, Value.ref 129]) #[]
noncomputable def o146 (P : Params) : Obj := Obj.mk (Value.type "tuple") none (Data.seq #[]) #[]
noncomputable def o147 (P : Params) : Obj := Obj.mk Value.none none (Data.fields #[]) #[]
noncomputable def o148 (P : Params) : Obj := Obj.mk (Value.type "tuple") none (Data.seq #[Value.str (ofString "total") 305]) #[]
noncomputable def o149 (P : Params) : Obj := Obj.mk (Value.type "tuple") none (Data.seq #[]) #[]
noncomputable def o150 (P : Params) : Obj := Obj.mk Value.none none (.func (fnO (topSt 13) (ofString "fold") 0 [] Value.none Value.none Value.none Value.none none Value.none Value.none 0)) #[]
noncomputable def o151 (P : Params) : Obj := Obj.mk (Value.type "code") none (Data.fields #[Value.str (ofString "fold") 302, Value.str (ofString "fold") 303, Value.str (ofString "/claim/cut.py") 304, Value.int 29 0, Value.int 1 0, Value.int 0 0, Value.int 0 0, Value.int 3 0, Value.ref 101, Value.bool true, Value.int 181 0, Value.ref 102, Value.none, Value.ref 103, Value.ref 104, Value.ref 105, Value.int 306 0, Value.int 29 0, Value.str (ofString "/claim/cut.py") 307]) #[]
noncomputable def o152 (P : Params) : Obj := Obj.mk (Value.type "function") none (.func (fnO (topSt 13) (ofString "fold") 3 [] Value.none Value.none Value.none (Value.str (ofString "thinstack.sums") 298) none (Value.ref 106) Value.none 0)) #[]
noncomputable def o153 (P : Params) : Obj := Obj.mk (Value.type "tuple") none (Data.seq #[Value.int 0 309]) #[]
noncomputable def o154 (P : Params) : Obj := Obj.mk (Value.type "tuple") none (Data.seq #[]) #[]
noncomputable def o155 (P : Params) : Obj := Obj.mk Value.none none (Data.fields #[]) #[]
noncomputable def o156 (P : Params) : Obj := Obj.mk (Value.type "tuple") none (Data.seq #[Value.str (ofString "octets") 313, Value.str (ofString "begin") 314, Value.str (ofString "total") 315, Value.str (ofString "even") 316, Value.str (ofString "at") 317]) #[]
noncomputable def o157 (P : Params) : Obj := Obj.mk (Value.type "tuple") none (Data.seq #[]) #[]
noncomputable def o158 (P : Params) : Obj := Obj.mk Value.none none (.func (fnO (topSt 14) (ofString "ones_sum") 0 [] Value.none Value.none Value.none Value.none none Value.none Value.none 0)) #[]
noncomputable def o159 (P : Params) : Obj := Obj.mk (Value.type "code") none (Data.fields #[Value.str (ofString "ones_sum") 310, Value.str (ofString "ones_sum") 311, Value.str (ofString "/claim/cut.py") 312, Value.int 33 0, Value.int 2 0, Value.int 0 0, Value.int 0 0, Value.int 3 0, Value.ref 109, Value.bool true, Value.int 181 0, Value.ref 110, Value.none, Value.ref 111, Value.ref 112, Value.ref 113, Value.int 318 0, Value.int 33 0, Value.str (ofString "/claim/cut.py") 319]) #[]
noncomputable def o160 (P : Params) : Obj := Obj.mk (Value.type "function") none (.func (fnO (topSt 14) (ofString "ones_sum") 3 [] (Value.ref 108) Value.none Value.none (Value.str (ofString "thinstack.sums") 298) none (Value.ref 114) Value.none 0)) #[]
noncomputable def o161 (P : Params) : Obj := Obj.mk (Value.type "tuple") none (Data.seq #[Value.int 0 321]) #[]
noncomputable def o162 (P : Params) : Obj := Obj.mk (Value.type "tuple") none (Data.seq #[]) #[]
noncomputable def o163 (P : Params) : Obj := Obj.mk Value.none none (Data.fields #[]) #[]
noncomputable def o164 (P : Params) : Obj := Obj.mk (Value.type "tuple") none (Data.seq #[Value.str (ofString "octets") 325, Value.str (ofString "begin") 326]) #[]
noncomputable def o165 (P : Params) : Obj := Obj.mk (Value.type "tuple") none (Data.seq #[]) #[]
noncomputable def o166 (P : Params) : Obj := Obj.mk Value.none none (.func (fnO (topSt 15) (ofString "checksum") 0 [] Value.none Value.none Value.none Value.none none Value.none Value.none 0)) #[]
noncomputable def o167 (P : Params) : Obj := Obj.mk (Value.type "code") none (Data.fields #[Value.str (ofString "checksum") 322, Value.str (ofString "checksum") 323, Value.str (ofString "/claim/cut.py") 324, Value.int 41 0, Value.int 2 0, Value.int 0 0, Value.int 0 0, Value.int 3 0, Value.ref 117, Value.bool true, Value.int 181 0, Value.ref 118, Value.none, Value.ref 119, Value.ref 120, Value.ref 121, Value.int 327 0, Value.int 41 0, Value.str (ofString "/claim/cut.py") 328]) #[]
noncomputable def o168 (P : Params) : Obj := Obj.mk (Value.type "function") none (.func (fnO (topSt 15) (ofString "checksum") 3 [] (Value.ref 116) Value.none Value.none (Value.str (ofString "thinstack.sums") 298) none (Value.ref 122) Value.none 0)) #[]
noncomputable def o169 (P : Params) : Obj := Obj.mk (Value.type "tuple") none (Data.seq #[]) #[]
noncomputable def o170 (P : Params) : Obj := Obj.mk Value.none none (Data.fields #[]) #[]
noncomputable def o171 (P : Params) : Obj := Obj.mk (Value.type "tuple") none (Data.seq #[Value.str (ofString "check") 333, Value.str (ofString "old") 334, Value.str (ofString "new") 335]) #[]
noncomputable def o172 (P : Params) : Obj := Obj.mk (Value.type "tuple") none (Data.seq #[]) #[]
noncomputable def o173 (P : Params) : Obj := Obj.mk Value.none none (.func (fnO (topSt 16) (ofString "adjusted") 0 [] Value.none Value.none Value.none Value.none none Value.none Value.none 0)) #[]
noncomputable def o174 (P : Params) : Obj := Obj.mk (Value.type "code") none (Data.fields #[Value.str (ofString "adjusted") 330, Value.str (ofString "adjusted") 331, Value.str (ofString "/claim/cut.py") 332, Value.int 43 0, Value.int 3 0, Value.int 0 0, Value.int 0 0, Value.int 3 0, Value.ref 124, Value.bool true, Value.int 181 0, Value.ref 125, Value.none, Value.ref 126, Value.ref 127, Value.ref 128, Value.int 336 0, Value.int 43 0, Value.str (ofString "/claim/cut.py") 337]) #[]
noncomputable def o175 (P : Params) : Obj := Obj.mk (Value.type "function") none (.func (fnO (topSt 16) (ofString "adjusted") 3 [] Value.none Value.none Value.none (Value.str (ofString "thinstack.sums") 298) none (Value.ref 129) Value.none 0)) #[]
noncomputable def o176 (P : Params) : Obj := Obj.mk (Value.type "dict") none (Data.dict #[DictEntry.mk (keyHash P (ofString "__name__")) (Value.str (ofString "__name__") 165) (Value.str (ofString "thinstack.ip_header") 339), DictEntry.mk (keyHash P (ofString "__doc__")) (Value.str (ofString "__doc__") 166) Value.none, DictEntry.mk (keyHash P (ofString "__package__")) (Value.str (ofString "__package__") 167) Value.none, DictEntry.mk (keyHash P (ofString "__loader__")) (Value.str (ofString "__loader__") 168) (Value.builtin "__main__.__loader__#opaque"), DictEntry.mk (keyHash P (ofString "__spec__")) (Value.str (ofString "__spec__") 169) Value.none, DictEntry.mk (keyHash P (ofString "__annotations__")) (Value.str (ofString "__annotations__") 170) (Value.ref 6), DictEntry.mk (keyHash P (ofString "__builtins__")) (Value.str (ofString "__builtins__") 171) (Value.ref 4), DictEntry.mk (keyHash P (ofString "__file__")) (Value.str (ofString "__file__") 173) (Value.str (ofString "/claim/cut.py") 172), DictEntry.mk (keyHash P (ofString "__cached__")) (Value.str (ofString "__cached__") 174) Value.none, DictEntry.mk (keyHash P (ofString "_wall")) (Value.str (ofString "_wall") 193) (Value.ref 21), DictEntry.mk (keyHash P (ofString "StackError")) (Value.str (ofString "StackError") 224) (Value.ref 38), DictEntry.mk (keyHash P (ofString "FormError")) (Value.str (ofString "FormError") 240) (Value.ref 51), DictEntry.mk (keyHash P (ofString "SizeError")) (Value.str (ofString "SizeError") 256) (Value.ref 63), DictEntry.mk (keyHash P (ofString "put16")) (Value.str (ofString "put16") 265) (Value.ref 72), DictEntry.mk (keyHash P (ofString "put32")) (Value.str (ofString "put32") 272) (Value.ref 79), DictEntry.mk (keyHash P (ofString "need")) (Value.str (ofString "need") 281) (Value.ref 86), DictEntry.mk (keyHash P (ofString "get16")) (Value.str (ofString "get16") 289) (Value.ref 93), DictEntry.mk (keyHash P (ofString "get32")) (Value.str (ofString "get32") 297) (Value.ref 100), DictEntry.mk (keyHash P (ofString "ALL_ONES")) (Value.str (ofString "ALL_ONES") 301) (Value.int 65535 300), DictEntry.mk (keyHash P (ofString "fold")) (Value.str (ofString "fold") 308) (Value.ref 107), DictEntry.mk (keyHash P (ofString "ones_sum")) (Value.str (ofString "ones_sum") 320) (Value.ref 115), DictEntry.mk (keyHash P (ofString "checksum")) (Value.str (ofString "checksum") 329) (Value.ref 123), DictEntry.mk (keyHash P (ofString "adjusted")) (Value.str (ofString "adjusted") 338) (Value.ref 130), DictEntry.mk (keyHash P (ofString "VERSION")) (Value.str (ofString "VERSION") 342) (Value.int 4 341), DictEntry.mk (keyHash P (ofString "LEAST_HEAD")) (Value.str (ofString "LEAST_HEAD") 344) (Value.int 20 343), DictEntry.mk (keyHash P (ofString "MOST_HEAD")) (Value.str (ofString "MOST_HEAD") 346) (Value.int 60 345), DictEntry.mk (keyHash P (ofString "MOST_TOTAL")) (Value.str (ofString "MOST_TOTAL") 348) (Value.int 65535 347), DictEntry.mk (keyHash P (ofString "DONT_BIT")) (Value.str (ofString "DONT_BIT") 350) (Value.int 16384 349), DictEntry.mk (keyHash P (ofString "MORE_BIT")) (Value.str (ofString "MORE_BIT") 352) (Value.int 8192 351), DictEntry.mk (keyHash P (ofString "PLACE_BITS")) (Value.str (ofString "PLACE_BITS") 354) (Value.int 8191 353), DictEntry.mk (keyHash P (ofString "TTL_PLACE")) (Value.str (ofString "TTL_PLACE") 356) (Value.int 8 355), DictEntry.mk (keyHash P (ofString "SUM_PLACE")) (Value.str (ofString "SUM_PLACE") 358) (Value.int 10 357), DictEntry.mk (keyHash P (ofString "IpHeader")) (Value.str (ofString "IpHeader") 448) (Value.ref 183)] 33) #[]
noncomputable def o177 (P : Params) : Obj := Obj.mk Value.none none (Data.fields #[Value.int 1 0, Value.int 0 0, Value.ref 20, Value.int 5 0, Value.int 0 0, Value.ref 27, Value.int 9 0, Value.int 0 0, Value.ref 47, Value.int 11 0, Value.int 0 0, Value.ref 59, Value.int 14 0, Value.int 0 0, Value.ref 71, Value.int 16 0, Value.int 0 0, Value.ref 78, Value.int 18 0, Value.int 0 0, Value.ref 85, Value.int 21 0, Value.int 0 0, Value.ref 92, Value.int 24 0, Value.int 0 0, Value.ref 99, Value.int 29 0, Value.int 0 0, Value.ref 106, Value.int 33 0, Value.int 0 0, Value.ref 114, Value.int 41 0, Value.int 0 0, Value.ref 122, Value.int 43 0, Value.int 0 0, Value.ref 129, Value.int 55 0, Value.int 0 0, Value.ref 136]) #[]
noncomputable def o178 (P : Params) : Obj := Obj.mk (Value.type "tuple") none (Data.seq #[]) #[]
noncomputable def o179 (P : Params) : Obj := Obj.mk (Value.type "builtin_function_or_method") none (Data.fields #[Value.builtin "type.__prepare__", Value.type "type"]) #[]
noncomputable def o180 (P : Params) : Obj := Obj.mk (Value.type "dict") none (Data.dict #[DictEntry.mk (keyHash P (ofString "__module__")) (Value.str (ofString "__module__") 366) (Value.str (ofString "thinstack.ip_header") 339), DictEntry.mk (keyHash P (ofString "__qualname__")) (Value.str (ofString "__qualname__") 368) (Value.str (ofString "IpHeader") 367), DictEntry.mk (keyHash P (ofString "__firstlineno__")) (Value.str (ofString "__firstlineno__") 370) (Value.int 55 369), DictEntry.mk (keyHash P (ofString "__init__")) (Value.str (ofString "__init__") 392) (Value.ref 145), DictEntry.mk (keyHash P (ofString "size")) (Value.str (ofString "size") 399) (Value.ref 152), DictEntry.mk (keyHash P (ofString "is_fragment")) (Value.str (ofString "is_fragment") 406) (Value.ref 159), DictEntry.mk (keyHash P (ofString "is_first")) (Value.str (ofString "is_first") 413) (Value.ref 166), DictEntry.mk (keyHash P (ofString "part")) (Value.str (ofString "part") 423) (Value.ref 173), DictEntry.mk (keyHash P (ofString "row")) (Value.str (ofString "row") 430) (Value.ref 180), DictEntry.mk (keyHash P (ofString "__static_attributes__")) (Value.str (ofString "__static_attributes__") 441) (Value.ref 181)] 10) #[]
noncomputable def o181 (P : Params) : Obj := Obj.mk (Value.type "tuple") none (Data.seq #[]) #[]
noncomputable def o182 (P : Params) : Obj := Obj.mk Value.none none (Data.fields #[Value.int 57 0, Value.int 4 0, Value.ref 144, Value.int 69 0, Value.int 4 0, Value.ref 151, Value.int 72 0, Value.int 4 0, Value.ref 158, Value.int 75 0, Value.int 4 0, Value.ref 165, Value.int 78 0, Value.int 4 0, Value.ref 172, Value.int 81 0, Value.int 4 0, Value.ref 179]) #[]
noncomputable def o183 (P : Params) : Obj := Obj.mk (Value.type "code") none (Data.fields #[Value.str (ofString "IpHeader") 361, Value.str (ofString "IpHeader") 362, Value.str (ofString "/claim/cut.py") 363, Value.int 55 0, Value.int 0 0, Value.int 0 0, Value.int 0 0, Value.int 0 0, Value.ref 134, Value.bool false, Value.int 181 0, Value.ref 135, Value.none, Value.none, Value.none, Value.none, Value.int 364 0, Value.int 55 0, Value.str (ofString "/claim/cut.py") 365]) #[]
noncomputable def o184 (P : Params) : Obj := Obj.mk (Value.type "frame") none Data.plain #[some (Value.ref 136), some (Value.ref 3), some (Value.ref 133), none, some (Value.str (ofString "thinstack.ip_header") 339), none, some (Value.ref 0)]
noncomputable def o185 (P : Params) : Obj := Obj.mk (Value.type "tuple") none (Data.seq #[Value.int 0 371, Value.int 64 372, Value.int 0 373, Value.bool false, Value.bool false, Value.int 0 374, Value.bytes #[] 375]) #[]
noncomputable def o186 (P : Params) : Obj := Obj.mk (Value.type "tuple") none (Data.seq #[]) #[]
noncomputable def o187 (P : Params) : Obj := Obj.mk Value.none none (Data.fields #[]) #[]
noncomputable def o188 (P : Params) : Obj := Obj.mk (Value.type "tuple") none (Data.seq #[Value.str (ofString "self") 379, Value.str (ofString "source") 380, Value.str (ofString "target") 381, Value.str (ofString "protocol") 382, Value.str (ofString "ident") 383, Value.str (ofString "ttl") 384, Value.str (ofString "tos") 385, Value.str (ofString "dont") 386, Value.str (ofString "more") 387, Value.str (ofString "offset") 388, Value.str (ofString "options") 389]) #[]
noncomputable def o189 (P : Params) : Obj := Obj.mk (Value.type "tuple") none (Data.seq #[]) #[]
noncomputable def o190 (P : Params) : Obj := Obj.mk Value.none none (.func (fnO (clsSt 27 0) (ofString "IpHeader.__init__") 0 [] Value.none Value.none Value.none Value.none none Value.none Value.none 0)) #[]
noncomputable def o191 (P : Params) : Obj := Obj.mk (Value.type "code") none (Data.fields #[Value.str (ofString "__init__") 376, Value.str (ofString "IpHeader.__init__") 377, Value.str (ofString "/claim/cut.py") 378, Value.int 57 0, Value.int 11 0, Value.int 0 0, Value.int 0 0, Value.int 3 0, Value.ref 139, Value.bool true, Value.int 181 0, Value.ref 140, Value.none, Value.ref 141, Value.ref 142, Value.ref 143, Value.int 390 0, Value.int 57 0, Value.str (ofString "/claim/cut.py") 391]) #[]
noncomputable def o192 (P : Params) : Obj := Obj.mk (Value.type "function") none (.func (fnO (clsSt 27 0) (ofString "IpHeader.__init__") 3 [] (Value.ref 138) Value.none Value.none (Value.str (ofString "thinstack.ip_header") 339) none (Value.ref 144) Value.none 0)) #[]
noncomputable def o193 (P : Params) : Obj := Obj.mk (Value.type "tuple") none (Data.seq #[]) #[]
noncomputable def o194 (P : Params) : Obj := Obj.mk Value.none none (Data.fields #[]) #[]
noncomputable def o195 (P : Params) : Obj := Obj.mk (Value.type "tuple") none (Data.seq #[Value.str (ofString "self") 396]) #[]
noncomputable def o196 (P : Params) : Obj := Obj.mk (Value.type "tuple") none (Data.seq #[]) #[]
noncomputable def o197 (P : Params) : Obj := Obj.mk Value.none none (.func (fnO (clsSt 27 1) (ofString "IpHeader.size") 0 [] Value.none Value.none Value.none Value.none none Value.none Value.none 0)) #[]
noncomputable def o198 (P : Params) : Obj := Obj.mk (Value.type "code") none (Data.fields #[Value.str (ofString "size") 393, Value.str (ofString "IpHeader.size") 394, Value.str (ofString "/claim/cut.py") 395, Value.int 69 0, Value.int 1 0, Value.int 0 0, Value.int 0 0, Value.int 3 0, Value.ref 146, Value.bool true, Value.int 181 0, Value.ref 147, Value.none, Value.ref 148, Value.ref 149, Value.ref 150, Value.int 397 0, Value.int 69 0, Value.str (ofString "/claim/cut.py") 398]) #[]
noncomputable def o199 (P : Params) : Obj := Obj.mk (Value.type "function") none (.func (fnO (clsSt 27 1) (ofString "IpHeader.size") 3 [] Value.none Value.none Value.none (Value.str (ofString "thinstack.ip_header") 339) none (Value.ref 151) Value.none 0)) #[]
noncomputable def o200 (P : Params) : Obj := Obj.mk (Value.type "tuple") none (Data.seq #[]) #[]
noncomputable def o201 (P : Params) : Obj := Obj.mk Value.none none (Data.fields #[]) #[]
noncomputable def o202 (P : Params) : Obj := Obj.mk (Value.type "tuple") none (Data.seq #[Value.str (ofString "self") 403]) #[]
noncomputable def o203 (P : Params) : Obj := Obj.mk (Value.type "tuple") none (Data.seq #[]) #[]
noncomputable def o204 (P : Params) : Obj := Obj.mk Value.none none (.func (fnO (clsSt 27 2) (ofString "IpHeader.is_fragment") 0 [] Value.none Value.none Value.none Value.none none Value.none Value.none 0)) #[]
noncomputable def o205 (P : Params) : Obj := Obj.mk (Value.type "code") none (Data.fields #[Value.str (ofString "is_fragment") 400, Value.str (ofString "IpHeader.is_fragment") 401, Value.str (ofString "/claim/cut.py") 402, Value.int 72 0, Value.int 1 0, Value.int 0 0, Value.int 0 0, Value.int 3 0, Value.ref 153, Value.bool true, Value.int 181 0, Value.ref 154, Value.none, Value.ref 155, Value.ref 156, Value.ref 157, Value.int 404 0, Value.int 72 0, Value.str (ofString "/claim/cut.py") 405]) #[]
noncomputable def o206 (P : Params) : Obj := Obj.mk (Value.type "function") none (.func (fnO (clsSt 27 2) (ofString "IpHeader.is_fragment") 3 [] Value.none Value.none Value.none (Value.str (ofString "thinstack.ip_header") 339) none (Value.ref 158) Value.none 0)) #[]
noncomputable def o207 (P : Params) : Obj := Obj.mk (Value.type "tuple") none (Data.seq #[]) #[]
noncomputable def o208 (P : Params) : Obj := Obj.mk Value.none none (Data.fields #[]) #[]
noncomputable def o209 (P : Params) : Obj := Obj.mk (Value.type "tuple") none (Data.seq #[Value.str (ofString "self") 410]) #[]
noncomputable def o210 (P : Params) : Obj := Obj.mk (Value.type "tuple") none (Data.seq #[]) #[]
noncomputable def o211 (P : Params) : Obj := Obj.mk Value.none none (.func (fnO (clsSt 27 3) (ofString "IpHeader.is_first") 0 [] Value.none Value.none Value.none Value.none none Value.none Value.none 0)) #[]
noncomputable def o212 (P : Params) : Obj := Obj.mk (Value.type "code") none (Data.fields #[Value.str (ofString "is_first") 407, Value.str (ofString "IpHeader.is_first") 408, Value.str (ofString "/claim/cut.py") 409, Value.int 75 0, Value.int 1 0, Value.int 0 0, Value.int 0 0, Value.int 3 0, Value.ref 160, Value.bool true, Value.int 181 0, Value.ref 161, Value.none, Value.ref 162, Value.ref 163, Value.ref 164, Value.int 411 0, Value.int 75 0, Value.str (ofString "/claim/cut.py") 412]) #[]
noncomputable def o213 (P : Params) : Obj := Obj.mk (Value.type "function") none (.func (fnO (clsSt 27 3) (ofString "IpHeader.is_first") 3 [] Value.none Value.none Value.none (Value.str (ofString "thinstack.ip_header") 339) none (Value.ref 165) Value.none 0)) #[]
noncomputable def o214 (P : Params) : Obj := Obj.mk (Value.type "tuple") none (Data.seq #[]) #[]
noncomputable def o215 (P : Params) : Obj := Obj.mk Value.none none (Data.fields #[]) #[]
noncomputable def o216 (P : Params) : Obj := Obj.mk (Value.type "tuple") none (Data.seq #[Value.str (ofString "self") 417, Value.str (ofString "more") 418, Value.str (ofString "offset") 419, Value.str (ofString "options") 420]) #[]
noncomputable def o217 (P : Params) : Obj := Obj.mk (Value.type "tuple") none (Data.seq #[]) #[]
noncomputable def o218 (P : Params) : Obj := Obj.mk Value.none none (.func (fnO (clsSt 27 4) (ofString "IpHeader.part") 0 [] Value.none Value.none Value.none Value.none none Value.none Value.none 0)) #[]
noncomputable def o219 (P : Params) : Obj := Obj.mk (Value.type "code") none (Data.fields #[Value.str (ofString "part") 414, Value.str (ofString "IpHeader.part") 415, Value.str (ofString "/claim/cut.py") 416, Value.int 78 0, Value.int 4 0, Value.int 0 0, Value.int 0 0, Value.int 3 0, Value.ref 167, Value.bool true, Value.int 181 0, Value.ref 168, Value.none, Value.ref 169, Value.ref 170, Value.ref 171, Value.int 421 0, Value.int 78 0, Value.str (ofString "/claim/cut.py") 422]) #[]
noncomputable def o220 (P : Params) : Obj := Obj.mk (Value.type "function") none (.func (fnO (clsSt 27 4) (ofString "IpHeader.part") 3 [] Value.none Value.none Value.none (Value.str (ofString "thinstack.ip_header") 339) none (Value.ref 172) Value.none 0)) #[]
noncomputable def o221 (P : Params) : Obj := Obj.mk (Value.type "tuple") none (Data.seq #[]) #[]
noncomputable def o222 (P : Params) : Obj := Obj.mk Value.none none (Data.fields #[]) #[]
noncomputable def o223 (P : Params) : Obj := Obj.mk (Value.type "tuple") none (Data.seq #[Value.str (ofString "self") 427]) #[]
noncomputable def o224 (P : Params) : Obj := Obj.mk (Value.type "tuple") none (Data.seq #[]) #[]
noncomputable def o225 (P : Params) : Obj := Obj.mk Value.none none (.func (fnO (clsSt 27 5) (ofString "IpHeader.row") 0 [] Value.none Value.none Value.none Value.none none Value.none Value.none 0)) #[]
noncomputable def o226 (P : Params) : Obj := Obj.mk (Value.type "code") none (Data.fields #[Value.str (ofString "row") 424, Value.str (ofString "IpHeader.row") 425, Value.str (ofString "/claim/cut.py") 426, Value.int 81 0, Value.int 1 0, Value.int 0 0, Value.int 0 0, Value.int 3 0, Value.ref 174, Value.bool true, Value.int 181 0, Value.ref 175, Value.none, Value.ref 176, Value.ref 177, Value.ref 178, Value.int 428 0, Value.int 81 0, Value.str (ofString "/claim/cut.py") 429]) #[]
noncomputable def o227 (P : Params) : Obj := Obj.mk (Value.type "function") none (.func (fnO (clsSt 27 5) (ofString "IpHeader.row") 3 [] Value.none Value.none Value.none (Value.str (ofString "thinstack.ip_header") 339) none (Value.ref 179) Value.none 0)) #[]
noncomputable def o228 (P : Params) : Obj := Obj.mk (Value.type "tuple") none (Data.seq #[Value.str (ofString "dont") 431, Value.str (ofString "ident") 432, Value.str (ofString "more") 433, Value.str (ofString "offset") 434, Value.str (ofString "options") 435, Value.str (ofString "protocol") 436, Value.str (ofString "source") 437, Value.str (ofString "target") 438, Value.str (ofString "tos") 439, Value.str (ofString "ttl") 440]) #[]
noncomputable def o229 (P : Params) : Obj := Obj.mk (Value.type "dict") none (Data.dict #[DictEntry.mk (keyHash P (ofString "__module__")) (Value.str (ofString "__module__") 366) (Value.str (ofString "thinstack.ip_header") 339), DictEntry.mk (keyHash P (ofString "__firstlineno__")) (Value.str (ofString "__firstlineno__") 370) (Value.int 55 369), DictEntry.mk (keyHash P (ofString "__init__")) (Value.str (ofString "__init__") 392) (Value.ref 145), DictEntry.mk (keyHash P (ofString "size")) (Value.str (ofString "size") 399) (Value.ref 152), DictEntry.mk (keyHash P (ofString "is_fragment")) (Value.str (ofString "is_fragment") 406) (Value.ref 159), DictEntry.mk (keyHash P (ofString "is_first")) (Value.str (ofString "is_first") 413) (Value.ref 166), DictEntry.mk (keyHash P (ofString "part")) (Value.str (ofString "part") 423) (Value.ref 173), DictEntry.mk (keyHash P (ofString "row")) (Value.str (ofString "row") 430) (Value.ref 180), DictEntry.mk (keyHash P (ofString "__static_attributes__")) (Value.str (ofString "__static_attributes__") 441) (Value.ref 181), DictEntry.mk (keyHash P (ofString "__dict__")) (Value.str (ofString "__dict__") 443) (Value.ref 184), DictEntry.mk (keyHash P (ofString "__weakref__")) (Value.str (ofString "__weakref__") 445) (Value.ref 185), DictEntry.mk (keyHash P (ofString "__doc__")) (Value.str (ofString "__doc__") 446) Value.none] 4) #[]
noncomputable def o230 (P : Params) : Obj := Obj.mk (Value.type "type") none (Data.cls (ClassData.mk (ofString "IpHeader") [Value.type "object"] [Value.ref 183, Value.type "object"] 182 (ofString "IpHeader") true [] [] false none false)) #[none, none, some (Value.str (ofString "IpHeader") 359), some (Value.str (ofString "IpHeader") 367), some (Value.builtin "object.__new__"), some (Value.bool true)]
noncomputable def o231 (P : Params) : Obj := Obj.mk (Value.type "getset_descriptor") none (Data.fields #[Value.str (ofString "__dict__") 442, Value.ref 183, Value.builtin "function.__dict__", Value.builtin "function.__dict__#set"]) #[]
noncomputable def o232 (P : Params) : Obj := Obj.mk (Value.type "getset_descriptor") none (Data.fields #[Value.str (ofString "__weakref__") 444, Value.ref 183, Value.builtin "ExceptionGroup.__weakref__", Value.none]) #[]
noncomputable def o233 (P : Params) : Obj := Obj.mk (Value.type "super") none (Data.fields #[Value.ref 183, Value.ref 183, Value.ref 183]) #[]
noncomputable def o234 (P : Params) : Obj := Obj.mk (Value.type "builtin_function_or_method") none (Data.fields #[Value.builtin "object.__init_subclass__", Value.ref 183]) #[]
noncomputable def o235 (P : Params) : Obj := Obj.mk (Value.type "dict") none (Data.dict #[DictEntry.mk (keyHash P (ofString "__name__")) (Value.str (ofString "__name__") 165) (Value.str (ofString "thinstack.ip_options") 524), DictEntry.mk (keyHash P (ofString "__doc__")) (Value.str (ofString "__doc__") 166) Value.none, DictEntry.mk (keyHash P (ofString "__package__")) (Value.str (ofString "__package__") 167) Value.none, DictEntry.mk (keyHash P (ofString "__loader__")) (Value.str (ofString "__loader__") 168) (Value.builtin "__main__.__loader__#opaque"), DictEntry.mk (keyHash P (ofString "__spec__")) (Value.str (ofString "__spec__") 169) Value.none, DictEntry.mk (keyHash P (ofString "__annotations__")) (Value.str (ofString "__annotations__") 170) (Value.ref 6), DictEntry.mk (keyHash P (ofString "__builtins__")) (Value.str (ofString "__builtins__") 171) (Value.ref 4), DictEntry.mk (keyHash P (ofString "__file__")) (Value.str (ofString "__file__") 173) (Value.str (ofString "/claim/cut.py") 172), DictEntry.mk (keyHash P (ofString "__cached__")) (Value.str (ofString "__cached__") 174) Value.none, DictEntry.mk (keyHash P (ofString "_wall")) (Value.str (ofString "_wall") 193) (Value.ref 21), DictEntry.mk (keyHash P (ofString "StackError")) (Value.str (ofString "StackError") 224) (Value.ref 38), DictEntry.mk (keyHash P (ofString "FormError")) (Value.str (ofString "FormError") 240) (Value.ref 51), DictEntry.mk (keyHash P (ofString "SizeError")) (Value.str (ofString "SizeError") 256) (Value.ref 63), DictEntry.mk (keyHash P (ofString "put16")) (Value.str (ofString "put16") 265) (Value.ref 72), DictEntry.mk (keyHash P (ofString "put32")) (Value.str (ofString "put32") 272) (Value.ref 79), DictEntry.mk (keyHash P (ofString "need")) (Value.str (ofString "need") 281) (Value.ref 86), DictEntry.mk (keyHash P (ofString "get16")) (Value.str (ofString "get16") 289) (Value.ref 93), DictEntry.mk (keyHash P (ofString "get32")) (Value.str (ofString "get32") 297) (Value.ref 100), DictEntry.mk (keyHash P (ofString "ALL_ONES")) (Value.str (ofString "ALL_ONES") 301) (Value.int 65535 300), DictEntry.mk (keyHash P (ofString "fold")) (Value.str (ofString "fold") 308) (Value.ref 107), DictEntry.mk (keyHash P (ofString "ones_sum")) (Value.str (ofString "ones_sum") 320) (Value.ref 115), DictEntry.mk (keyHash P (ofString "checksum")) (Value.str (ofString "checksum") 329) (Value.ref 123), DictEntry.mk (keyHash P (ofString "adjusted")) (Value.str (ofString "adjusted") 338) (Value.ref 130), DictEntry.mk (keyHash P (ofString "VERSION")) (Value.str (ofString "VERSION") 342) (Value.int 4 341), DictEntry.mk (keyHash P (ofString "LEAST_HEAD")) (Value.str (ofString "LEAST_HEAD") 344) (Value.int 20 343), DictEntry.mk (keyHash P (ofString "MOST_HEAD")) (Value.str (ofString "MOST_HEAD") 346) (Value.int 60 345), DictEntry.mk (keyHash P (ofString "MOST_TOTAL")) (Value.str (ofString "MOST_TOTAL") 348) (Value.int 65535 347), DictEntry.mk (keyHash P (ofString "DONT_BIT")) (Value.str (ofString "DONT_BIT") 350) (Value.int 16384 349), DictEntry.mk (keyHash P (ofString "MORE_BIT")) (Value.str (ofString "MORE_BIT") 352) (Value.int 8192 351), DictEntry.mk (keyHash P (ofString "PLACE_BITS")) (Value.str (ofString "PLACE_BITS") 354) (Value.int 8191 353), DictEntry.mk (keyHash P (ofString "TTL_PLACE")) (Value.str (ofString "TTL_PLACE") 356) (Value.int 8 355), DictEntry.mk (keyHash P (ofString "SUM_PLACE")) (Value.str (ofString "SUM_PLACE") 358) (Value.int 10 357), DictEntry.mk (keyHash P (ofString "IpHeader")) (Value.str (ofString "IpHeader") 448) (Value.ref 183), DictEntry.mk (keyHash P (ofString "is_within")) (Value.str (ofString "is_within") 456) (Value.ref 194), DictEntry.mk (keyHash P (ofString "check_fields")) (Value.str (ofString "check_fields") 464) (Value.ref 201), DictEntry.mk (keyHash P (ofString "check_size")) (Value.str (ofString "check_size") 472) (Value.ref 208), DictEntry.mk (keyHash P (ofString "flags_of")) (Value.str (ofString "flags_of") 480) (Value.ref 215), DictEntry.mk (keyHash P (ofString "pack_ip")) (Value.str (ofString "pack_ip") 493) (Value.ref 222), DictEntry.mk (keyHash P (ofString "head_size")) (Value.str (ofString "head_size") 501) (Value.ref 229), DictEntry.mk (keyHash P (ofString "unpack_ip")) (Value.str (ofString "unpack_ip") 513) (Value.ref 236), DictEntry.mk (keyHash P (ofString "lessened_octets")) (Value.str (ofString "lessened_octets") 523) (Value.ref 243), DictEntry.mk (keyHash P (ofString "END")) (Value.str (ofString "END") 527) (Value.int 0 526), DictEntry.mk (keyHash P (ofString "NOTHING")) (Value.str (ofString "NOTHING") 529) (Value.int 1 528), DictEntry.mk (keyHash P (ofString "MOST_OPTIONS")) (Value.str (ofString "MOST_OPTIONS") 531) (Value.int 40 530), DictEntry.mk (keyHash P (ofString "COPY_BIT")) (Value.str (ofString "COPY_BIT") 533) (Value.int 128 532), DictEntry.mk (keyHash P (ofString "is_single")) (Value.str (ofString "is_single") 540) (Value.ref 250), DictEntry.mk (keyHash P (ofString "read_options")) (Value.str (ofString "read_options") 551) (Value.ref 257), DictEntry.mk (keyHash P (ofString "size_at")) (Value.str (ofString "size_at") 560) (Value.ref 264)] 48) #[]
noncomputable def o236 (P : Params) : Obj := Obj.mk Value.none none (Data.fields #[Value.int 1 0, Value.int 0 0, Value.ref 20, Value.int 5 0, Value.int 0 0, Value.ref 27, Value.int 9 0, Value.int 0 0, Value.ref 47, Value.int 11 0, Value.int 0 0, Value.ref 59, Value.int 14 0, Value.int 0 0, Value.ref 71, Value.int 16 0, Value.int 0 0, Value.ref 78, Value.int 18 0, Value.int 0 0, Value.ref 85, Value.int 21 0, Value.int 0 0, Value.ref 92, Value.int 24 0, Value.int 0 0, Value.ref 99, Value.int 29 0, Value.int 0 0, Value.ref 106, Value.int 33 0, Value.int 0 0, Value.ref 114, Value.int 41 0, Value.int 0 0, Value.ref 122, Value.int 43 0, Value.int 0 0, Value.ref 129, Value.int 55 0, Value.int 0 0, Value.ref 136, Value.int 83 0, Value.int 0 0, Value.ref 193, Value.int 85 0, Value.int 0 0, Value.ref 200, Value.int 96 0, Value.int 0 0, Value.ref 207, Value.int 101 0, Value.int 0 0, Value.ref 214, Value.int 108 0, Value.int 0 0, Value.ref 221, Value.int 117 0, Value.int 0 0, Value.ref 228, Value.int 126 0, Value.int 0 0, Value.ref 235, Value.int 137 0, Value.int 0 0, Value.ref 242, Value.int 150 0, Value.int 0 0, Value.ref 249, Value.int 152 0, Value.int 0 0, Value.ref 256, Value.int 165 0, Value.int 0 0, Value.ref 263]) #[]
noncomputable def o237 (P : Params) : Obj := Obj.mk (Value.type "tuple") none (Data.seq #[]) #[]
noncomputable def o238 (P : Params) : Obj := Obj.mk Value.none none (Data.fields #[]) #[]
noncomputable def o239 (P : Params) : Obj := Obj.mk (Value.type "tuple") none (Data.seq #[Value.str (ofString "number") 452, Value.str (ofString "bits") 453]) #[]
noncomputable def o240 (P : Params) : Obj := Obj.mk (Value.type "tuple") none (Data.seq #[]) #[]
noncomputable def o241 (P : Params) : Obj := Obj.mk Value.none none (.func (fnO (topSt 28) (ofString "is_within") 0 [] Value.none Value.none Value.none Value.none none Value.none Value.none 0)) #[]
noncomputable def o242 (P : Params) : Obj := Obj.mk (Value.type "code") none (Data.fields #[Value.str (ofString "is_within") 449, Value.str (ofString "is_within") 450, Value.str (ofString "/claim/cut.py") 451, Value.int 83 0, Value.int 2 0, Value.int 0 0, Value.int 0 0, Value.int 3 0, Value.ref 188, Value.bool true, Value.int 181 0, Value.ref 189, Value.none, Value.ref 190, Value.ref 191, Value.ref 192, Value.int 454 0, Value.int 83 0, Value.str (ofString "/claim/cut.py") 455]) #[]
noncomputable def o243 (P : Params) : Obj := Obj.mk (Value.type "function") none (.func (fnO (topSt 28) (ofString "is_within") 3 [] Value.none Value.none Value.none (Value.str (ofString "thinstack.ip_header") 339) none (Value.ref 193) Value.none 0)) #[]
noncomputable def o244 (P : Params) : Obj := Obj.mk (Value.type "tuple") none (Data.seq #[]) #[]
noncomputable def o245 (P : Params) : Obj := Obj.mk Value.none none (Data.fields #[]) #[]
noncomputable def o246 (P : Params) : Obj := Obj.mk (Value.type "tuple") none (Data.seq #[Value.str (ofString "header") 460, Value.str (ofString "number") 461]) #[]
noncomputable def o247 (P : Params) : Obj := Obj.mk (Value.type "tuple") none (Data.seq #[]) #[]
noncomputable def o248 (P : Params) : Obj := Obj.mk Value.none none (.func (fnO (topSt 29) (ofString "check_fields") 0 [] Value.none Value.none Value.none Value.none none Value.none Value.none 0)) #[]
noncomputable def o249 (P : Params) : Obj := Obj.mk (Value.type "code") none (Data.fields #[Value.str (ofString "check_fields") 457, Value.str (ofString "check_fields") 458, Value.str (ofString "/claim/cut.py") 459, Value.int 85 0, Value.int 1 0, Value.int 0 0, Value.int 0 0, Value.int 3 0, Value.ref 195, Value.bool true, Value.int 181 0, Value.ref 196, Value.none, Value.ref 197, Value.ref 198, Value.ref 199, Value.int 462 0, Value.int 85 0, Value.str (ofString "/claim/cut.py") 463]) #[]
noncomputable def o250 (P : Params) : Obj := Obj.mk (Value.type "function") none (.func (fnO (topSt 29) (ofString "check_fields") 3 [] Value.none Value.none Value.none (Value.str (ofString "thinstack.ip_header") 339) none (Value.ref 200) Value.none 0)) #[]
noncomputable def o251 (P : Params) : Obj := Obj.mk (Value.type "tuple") none (Data.seq #[]) #[]
noncomputable def o252 (P : Params) : Obj := Obj.mk Value.none none (Data.fields #[]) #[]
noncomputable def o253 (P : Params) : Obj := Obj.mk (Value.type "tuple") none (Data.seq #[Value.str (ofString "header") 468, Value.str (ofString "payload") 469]) #[]
noncomputable def o254 (P : Params) : Obj := Obj.mk (Value.type "tuple") none (Data.seq #[]) #[]
noncomputable def o255 (P : Params) : Obj := Obj.mk Value.none none (.func (fnO (topSt 30) (ofString "check_size") 0 [] Value.none Value.none Value.none Value.none none Value.none Value.none 0)) #[]
noncomputable def o256 (P : Params) : Obj := Obj.mk (Value.type "code") none (Data.fields #[Value.str (ofString "check_size") 465, Value.str (ofString "check_size") 466, Value.str (ofString "/claim/cut.py") 467, Value.int 96 0, Value.int 2 0, Value.int 0 0, Value.int 0 0, Value.int 3 0, Value.ref 202, Value.bool true, Value.int 181 0, Value.ref 203, Value.none, Value.ref 204, Value.ref 205, Value.ref 206, Value.int 470 0, Value.int 96 0, Value.str (ofString "/claim/cut.py") 471]) #[]
noncomputable def o257 (P : Params) : Obj := Obj.mk (Value.type "function") none (.func (fnO (topSt 30) (ofString "check_size") 3 [] Value.none Value.none Value.none (Value.str (ofString "thinstack.ip_header") 339) none (Value.ref 207) Value.none 0)) #[]
noncomputable def o258 (P : Params) : Obj := Obj.mk (Value.type "tuple") none (Data.seq #[]) #[]
noncomputable def o259 (P : Params) : Obj := Obj.mk Value.none none (Data.fields #[]) #[]
noncomputable def o260 (P : Params) : Obj := Obj.mk (Value.type "tuple") none (Data.seq #[Value.str (ofString "header") 476, Value.str (ofString "found") 477]) #[]
noncomputable def o261 (P : Params) : Obj := Obj.mk (Value.type "tuple") none (Data.seq #[]) #[]
noncomputable def o262 (P : Params) : Obj := Obj.mk Value.none none (.func (fnO (topSt 31) (ofString "flags_of") 0 [] Value.none Value.none Value.none Value.none none Value.none Value.none 0)) #[]
noncomputable def o263 (P : Params) : Obj := Obj.mk (Value.type "code") none (Data.fields #[Value.str (ofString "flags_of") 473, Value.str (ofString "flags_of") 474, Value.str (ofString "/claim/cut.py") 475, Value.int 101 0, Value.int 1 0, Value.int 0 0, Value.int 0 0, Value.int 3 0, Value.ref 209, Value.bool true, Value.int 181 0, Value.ref 210, Value.none, Value.ref 211, Value.ref 212, Value.ref 213, Value.int 478 0, Value.int 101 0, Value.str (ofString "/claim/cut.py") 479]) #[]
noncomputable def o264 (P : Params) : Obj := Obj.mk (Value.type "function") none (.func (fnO (topSt 31) (ofString "flags_of") 3 [] Value.none Value.none Value.none (Value.str (ofString "thinstack.ip_header") 339) none (Value.ref 214) Value.none 0)) #[]
noncomputable def o265 (P : Params) : Obj := Obj.mk (Value.type "tuple") none (Data.seq #[]) #[]
noncomputable def o266 (P : Params) : Obj := Obj.mk Value.none none (Data.fields #[]) #[]
noncomputable def o267 (P : Params) : Obj := Obj.mk (Value.type "tuple") none (Data.seq #[Value.str (ofString "header") 484, Value.str (ofString "payload") 485, Value.str (ofString "first") 486, Value.str (ofString "second") 487, Value.str (ofString "third") 488, Value.str (ofString "behind") 489, Value.str (ofString "check") 490]) #[]
noncomputable def o268 (P : Params) : Obj := Obj.mk (Value.type "tuple") none (Data.seq #[]) #[]
noncomputable def o269 (P : Params) : Obj := Obj.mk Value.none none (.func (fnO (topSt 32) (ofString "pack_ip") 0 [] Value.none Value.none Value.none Value.none none Value.none Value.none 0)) #[]
noncomputable def o270 (P : Params) : Obj := Obj.mk (Value.type "code") none (Data.fields #[Value.str (ofString "pack_ip") 481, Value.str (ofString "pack_ip") 482, Value.str (ofString "/claim/cut.py") 483, Value.int 108 0, Value.int 2 0, Value.int 0 0, Value.int 0 0, Value.int 3 0, Value.ref 216, Value.bool true, Value.int 181 0, Value.ref 217, Value.none, Value.ref 218, Value.ref 219, Value.ref 220, Value.int 491 0, Value.int 108 0, Value.str (ofString "/claim/cut.py") 492]) #[]
noncomputable def o271 (P : Params) : Obj := Obj.mk (Value.type "function") none (.func (fnO (topSt 32) (ofString "pack_ip") 3 [] Value.none Value.none Value.none (Value.str (ofString "thinstack.ip_header") 339) none (Value.ref 221) Value.none 0)) #[]
noncomputable def o272 (P : Params) : Obj := Obj.mk (Value.type "tuple") none (Data.seq #[]) #[]
noncomputable def o273 (P : Params) : Obj := Obj.mk Value.none none (Data.fields #[]) #[]
noncomputable def o274 (P : Params) : Obj := Obj.mk (Value.type "tuple") none (Data.seq #[Value.str (ofString "octets") 497, Value.str (ofString "size") 498]) #[]
noncomputable def o275 (P : Params) : Obj := Obj.mk (Value.type "tuple") none (Data.seq #[]) #[]
noncomputable def o276 (P : Params) : Obj := Obj.mk Value.none none (.func (fnO (topSt 33) (ofString "head_size") 0 [] Value.none Value.none Value.none Value.none none Value.none Value.none 0)) #[]
noncomputable def o277 (P : Params) : Obj := Obj.mk (Value.type "code") none (Data.fields #[Value.str (ofString "head_size") 494, Value.str (ofString "head_size") 495, Value.str (ofString "/claim/cut.py") 496, Value.int 117 0, Value.int 1 0, Value.int 0 0, Value.int 0 0, Value.int 3 0, Value.ref 223, Value.bool true, Value.int 181 0, Value.ref 224, Value.none, Value.ref 225, Value.ref 226, Value.ref 227, Value.int 499 0, Value.int 117 0, Value.str (ofString "/claim/cut.py") 500]) #[]
noncomputable def o278 (P : Params) : Obj := Obj.mk (Value.type "function") none (.func (fnO (topSt 33) (ofString "head_size") 3 [] Value.none Value.none Value.none (Value.str (ofString "thinstack.ip_header") 339) none (Value.ref 228) Value.none 0)) #[]
noncomputable def o279 (P : Params) : Obj := Obj.mk (Value.type "tuple") none (Data.seq #[]) #[]
noncomputable def o280 (P : Params) : Obj := Obj.mk Value.none none (Data.fields #[]) #[]
noncomputable def o281 (P : Params) : Obj := Obj.mk (Value.type "tuple") none (Data.seq #[Value.str (ofString "octets") 505, Value.str (ofString "size") 506, Value.str (ofString "total") 507, Value.str (ofString "flags") 508, Value.str (ofString "options") 509, Value.str (ofString "header") 510]) #[]
noncomputable def o282 (P : Params) : Obj := Obj.mk (Value.type "tuple") none (Data.seq #[]) #[]
noncomputable def o283 (P : Params) : Obj := Obj.mk Value.none none (.func (fnO (topSt 34) (ofString "unpack_ip") 0 [] Value.none Value.none Value.none Value.none none Value.none Value.none 0)) #[]
noncomputable def o284 (P : Params) : Obj := Obj.mk (Value.type "code") none (Data.fields #[Value.str (ofString "unpack_ip") 502, Value.str (ofString "unpack_ip") 503, Value.str (ofString "/claim/cut.py") 504, Value.int 126 0, Value.int 1 0, Value.int 0 0, Value.int 0 0, Value.int 3 0, Value.ref 230, Value.bool true, Value.int 181 0, Value.ref 231, Value.none, Value.ref 232, Value.ref 233, Value.ref 234, Value.int 511 0, Value.int 126 0, Value.str (ofString "/claim/cut.py") 512]) #[]
noncomputable def o285 (P : Params) : Obj := Obj.mk (Value.type "function") none (.func (fnO (topSt 34) (ofString "unpack_ip") 3 [] Value.none Value.none Value.none (Value.str (ofString "thinstack.ip_header") 339) none (Value.ref 235) Value.none 0)) #[]
noncomputable def o286 (P : Params) : Obj := Obj.mk (Value.type "tuple") none (Data.seq #[]) #[]
noncomputable def o287 (P : Params) : Obj := Obj.mk Value.none none (Data.fields #[]) #[]
noncomputable def o288 (P : Params) : Obj := Obj.mk (Value.type "tuple") none (Data.seq #[Value.str (ofString "octets") 517, Value.str (ofString "old") 518, Value.str (ofString "new") 519, Value.str (ofString "check") 520]) #[]
noncomputable def o289 (P : Params) : Obj := Obj.mk (Value.type "tuple") none (Data.seq #[]) #[]
noncomputable def o290 (P : Params) : Obj := Obj.mk Value.none none (.func (fnO (topSt 35) (ofString "lessened_octets") 0 [] Value.none Value.none Value.none Value.none none Value.none Value.none 0)) #[]
noncomputable def o291 (P : Params) : Obj := Obj.mk (Value.type "code") none (Data.fields #[Value.str (ofString "lessened_octets") 514, Value.str (ofString "lessened_octets") 515, Value.str (ofString "/claim/cut.py") 516, Value.int 137 0, Value.int 1 0, Value.int 0 0, Value.int 0 0, Value.int 3 0, Value.ref 237, Value.bool true, Value.int 181 0, Value.ref 238, Value.none, Value.ref 239, Value.ref 240, Value.ref 241, Value.int 521 0, Value.int 137 0, Value.str (ofString "/claim/cut.py") 522]) #[]
noncomputable def o292 (P : Params) : Obj := Obj.mk (Value.type "function") none (.func (fnO (topSt 35) (ofString "lessened_octets") 3 [] Value.none Value.none Value.none (Value.str (ofString "thinstack.ip_header") 339) none (Value.ref 242) Value.none 0)) #[]
noncomputable def o293 (P : Params) : Obj := Obj.mk (Value.type "tuple") none (Data.seq #[]) #[]
noncomputable def o294 (P : Params) : Obj := Obj.mk Value.none none (Data.fields #[]) #[]
noncomputable def o295 (P : Params) : Obj := Obj.mk (Value.type "tuple") none (Data.seq #[Value.str (ofString "kind") 537]) #[]
noncomputable def o296 (P : Params) : Obj := Obj.mk (Value.type "tuple") none (Data.seq #[]) #[]
noncomputable def o297 (P : Params) : Obj := Obj.mk Value.none none (.func (fnO (topSt 41) (ofString "is_single") 0 [] Value.none Value.none Value.none Value.none none Value.none Value.none 0)) #[]
noncomputable def o298 (P : Params) : Obj := Obj.mk (Value.type "code") none (Data.fields #[Value.str (ofString "is_single") 534, Value.str (ofString "is_single") 535, Value.str (ofString "/claim/cut.py") 536, Value.int 150 0, Value.int 1 0, Value.int 0 0, Value.int 0 0, Value.int 3 0, Value.ref 244, Value.bool true, Value.int 181 0, Value.ref 245, Value.none, Value.ref 246, Value.ref 247, Value.ref 248, Value.int 538 0, Value.int 150 0, Value.str (ofString "/claim/cut.py") 539]) #[]
noncomputable def o299 (P : Params) : Obj := Obj.mk (Value.type "function") none (.func (fnO (topSt 41) (ofString "is_single") 3 [] Value.none Value.none Value.none (Value.str (ofString "thinstack.ip_options") 524) none (Value.ref 249) Value.none 0)) #[]
noncomputable def o300 (P : Params) : Obj := Obj.mk (Value.type "tuple") none (Data.seq #[]) #[]
noncomputable def o301 (P : Params) : Obj := Obj.mk Value.none none (Data.fields #[]) #[]
noncomputable def o302 (P : Params) : Obj := Obj.mk (Value.type "tuple") none (Data.seq #[Value.str (ofString "octets") 544, Value.str (ofString "found") 545, Value.str (ofString "at") 546, Value.str (ofString "kind") 547, Value.str (ofString "size") 548]) #[]
noncomputable def o303 (P : Params) : Obj := Obj.mk (Value.type "tuple") none (Data.seq #[]) #[]
noncomputable def o304 (P : Params) : Obj := Obj.mk Value.none none (.func (fnO (topSt 42) (ofString "read_options") 0 [] Value.none Value.none Value.none Value.none none Value.none Value.none 0)) #[]
noncomputable def o305 (P : Params) : Obj := Obj.mk (Value.type "code") none (Data.fields #[Value.str (ofString "read_options") 541, Value.str (ofString "read_options") 542, Value.str (ofString "/claim/cut.py") 543, Value.int 152 0, Value.int 1 0, Value.int 0 0, Value.int 0 0, Value.int 3 0, Value.ref 251, Value.bool true, Value.int 181 0, Value.ref 252, Value.none, Value.ref 253, Value.ref 254, Value.ref 255, Value.int 549 0, Value.int 152 0, Value.str (ofString "/claim/cut.py") 550]) #[]
noncomputable def o306 (P : Params) : Obj := Obj.mk (Value.type "function") none (.func (fnO (topSt 42) (ofString "read_options") 3 [] Value.none Value.none Value.none (Value.str (ofString "thinstack.ip_options") 524) none (Value.ref 256) Value.none 0)) #[]
noncomputable def o307 (P : Params) : Obj := Obj.mk (Value.type "tuple") none (Data.seq #[]) #[]
noncomputable def o308 (P : Params) : Obj := Obj.mk Value.none none (Data.fields #[]) #[]
noncomputable def o309 (P : Params) : Obj := Obj.mk (Value.type "tuple") none (Data.seq #[Value.str (ofString "octets") 555, Value.str (ofString "at") 556, Value.str (ofString "size") 557]) #[]
noncomputable def o310 (P : Params) : Obj := Obj.mk (Value.type "tuple") none (Data.seq #[]) #[]
noncomputable def o311 (P : Params) : Obj := Obj.mk Value.none none (.func (fnO (topSt 43) (ofString "size_at") 0 [] Value.none Value.none Value.none Value.none none Value.none Value.none 0)) #[]
noncomputable def o312 (P : Params) : Obj := Obj.mk (Value.type "code") none (Data.fields #[Value.str (ofString "size_at") 552, Value.str (ofString "size_at") 553, Value.str (ofString "/claim/cut.py") 554, Value.int 165 0, Value.int 2 0, Value.int 0 0, Value.int 0 0, Value.int 3 0, Value.ref 258, Value.bool true, Value.int 181 0, Value.ref 259, Value.none, Value.ref 260, Value.ref 261, Value.ref 262, Value.int 558 0, Value.int 165 0, Value.str (ofString "/claim/cut.py") 559]) #[]
noncomputable def o313 (P : Params) : Obj := Obj.mk (Value.type "function") none (.func (fnO (topSt 43) (ofString "size_at") 3 [] Value.none Value.none Value.none (Value.str (ofString "thinstack.ip_options") 524) none (Value.ref 263) Value.none 0)) #[]
noncomputable def o314 (P : Params) : Obj := Obj.mk (Value.type "dict") none (Data.dict #[DictEntry.mk (keyHash P (ofString "__name__")) (Value.str (ofString "__name__") 165) (Value.str (ofString "thinstack.reassembly") 638), DictEntry.mk (keyHash P (ofString "__doc__")) (Value.str (ofString "__doc__") 166) Value.none, DictEntry.mk (keyHash P (ofString "__package__")) (Value.str (ofString "__package__") 167) Value.none, DictEntry.mk (keyHash P (ofString "__loader__")) (Value.str (ofString "__loader__") 168) (Value.builtin "__main__.__loader__#opaque"), DictEntry.mk (keyHash P (ofString "__spec__")) (Value.str (ofString "__spec__") 169) Value.none, DictEntry.mk (keyHash P (ofString "__annotations__")) (Value.str (ofString "__annotations__") 170) (Value.ref 6), DictEntry.mk (keyHash P (ofString "__builtins__")) (Value.str (ofString "__builtins__") 171) (Value.ref 4), DictEntry.mk (keyHash P (ofString "__file__")) (Value.str (ofString "__file__") 173) (Value.str (ofString "/claim/cut.py") 172), DictEntry.mk (keyHash P (ofString "__cached__")) (Value.str (ofString "__cached__") 174) Value.none, DictEntry.mk (keyHash P (ofString "_wall")) (Value.str (ofString "_wall") 193) (Value.ref 21), DictEntry.mk (keyHash P (ofString "StackError")) (Value.str (ofString "StackError") 224) (Value.ref 38), DictEntry.mk (keyHash P (ofString "FormError")) (Value.str (ofString "FormError") 240) (Value.ref 51), DictEntry.mk (keyHash P (ofString "SizeError")) (Value.str (ofString "SizeError") 256) (Value.ref 63), DictEntry.mk (keyHash P (ofString "put16")) (Value.str (ofString "put16") 265) (Value.ref 72), DictEntry.mk (keyHash P (ofString "put32")) (Value.str (ofString "put32") 272) (Value.ref 79), DictEntry.mk (keyHash P (ofString "need")) (Value.str (ofString "need") 281) (Value.ref 86), DictEntry.mk (keyHash P (ofString "get16")) (Value.str (ofString "get16") 289) (Value.ref 93), DictEntry.mk (keyHash P (ofString "get32")) (Value.str (ofString "get32") 297) (Value.ref 100), DictEntry.mk (keyHash P (ofString "ALL_ONES")) (Value.str (ofString "ALL_ONES") 301) (Value.int 65535 300), DictEntry.mk (keyHash P (ofString "fold")) (Value.str (ofString "fold") 308) (Value.ref 107), DictEntry.mk (keyHash P (ofString "ones_sum")) (Value.str (ofString "ones_sum") 320) (Value.ref 115), DictEntry.mk (keyHash P (ofString "checksum")) (Value.str (ofString "checksum") 329) (Value.ref 123), DictEntry.mk (keyHash P (ofString "adjusted")) (Value.str (ofString "adjusted") 338) (Value.ref 130), DictEntry.mk (keyHash P (ofString "VERSION")) (Value.str (ofString "VERSION") 342) (Value.int 4 341), DictEntry.mk (keyHash P (ofString "LEAST_HEAD")) (Value.str (ofString "LEAST_HEAD") 344) (Value.int 20 343), DictEntry.mk (keyHash P (ofString "MOST_HEAD")) (Value.str (ofString "MOST_HEAD") 346) (Value.int 60 345), DictEntry.mk (keyHash P (ofString "MOST_TOTAL")) (Value.str (ofString "MOST_TOTAL") 348) (Value.int 65535 347), DictEntry.mk (keyHash P (ofString "DONT_BIT")) (Value.str (ofString "DONT_BIT") 350) (Value.int 16384 349), DictEntry.mk (keyHash P (ofString "MORE_BIT")) (Value.str (ofString "MORE_BIT") 352) (Value.int 8192 351), DictEntry.mk (keyHash P (ofString "PLACE_BITS")) (Value.str (ofString "PLACE_BITS") 354) (Value.int 8191 353), DictEntry.mk (keyHash P (ofString "TTL_PLACE")) (Value.str (ofString "TTL_PLACE") 356) (Value.int 8 355), DictEntry.mk (keyHash P (ofString "SUM_PLACE")) (Value.str (ofString "SUM_PLACE") 358) (Value.int 10 357), DictEntry.mk (keyHash P (ofString "IpHeader")) (Value.str (ofString "IpHeader") 448) (Value.ref 183), DictEntry.mk (keyHash P (ofString "is_within")) (Value.str (ofString "is_within") 456) (Value.ref 194), DictEntry.mk (keyHash P (ofString "check_fields")) (Value.str (ofString "check_fields") 464) (Value.ref 201), DictEntry.mk (keyHash P (ofString "check_size")) (Value.str (ofString "check_size") 472) (Value.ref 208), DictEntry.mk (keyHash P (ofString "flags_of")) (Value.str (ofString "flags_of") 480) (Value.ref 215), DictEntry.mk (keyHash P (ofString "pack_ip")) (Value.str (ofString "pack_ip") 493) (Value.ref 222), DictEntry.mk (keyHash P (ofString "head_size")) (Value.str (ofString "head_size") 501) (Value.ref 229), DictEntry.mk (keyHash P (ofString "unpack_ip")) (Value.str (ofString "unpack_ip") 513) (Value.ref 236), DictEntry.mk (keyHash P (ofString "lessened_octets")) (Value.str (ofString "lessened_octets") 523) (Value.ref 243), DictEntry.mk (keyHash P (ofString "END")) (Value.str (ofString "END") 527) (Value.int 0 526), DictEntry.mk (keyHash P (ofString "NOTHING")) (Value.str (ofString "NOTHING") 529) (Value.int 1 528), DictEntry.mk (keyHash P (ofString "MOST_OPTIONS")) (Value.str (ofString "MOST_OPTIONS") 531) (Value.int 40 530), DictEntry.mk (keyHash P (ofString "COPY_BIT")) (Value.str (ofString "COPY_BIT") 533) (Value.int 128 532), DictEntry.mk (keyHash P (ofString "is_single")) (Value.str (ofString "is_single") 540) (Value.ref 250), DictEntry.mk (keyHash P (ofString "read_options")) (Value.str (ofString "read_options") 551) (Value.ref 257), DictEntry.mk (keyHash P (ofString "size_at")) (Value.str (ofString "size_at") 560) (Value.ref 264), DictEntry.mk (keyHash P (ofString "write_options")) (Value.str (ofString "write_options") 570) (Value.ref 271), DictEntry.mk (keyHash P (ofString "option_octets")) (Value.str (ofString "option_octets") 578) (Value.ref 278), DictEntry.mk (keyHash P (ofString "is_copied")) (Value.str (ofString "is_copied") 585) (Value.ref 285), DictEntry.mk (keyHash P (ofString "copied")) (Value.str (ofString "copied") 591) (Value.ref 290), DictEntry.mk (keyHash P (ofString "STEP_fragments")) (Value.str (ofString "STEP_fragments") 595) (Value.int 8 594), DictEntry.mk (keyHash P (ofString "later_options")) (Value.str (ofString "later_options") 602) (Value.ref 297), DictEntry.mk (keyHash P (ofString "part_header")) (Value.str (ofString "part_header") 612) (Value.ref 304), DictEntry.mk (keyHash P (ofString "room_of")) (Value.str (ofString "room_of") 621) (Value.ref 311), DictEntry.mk (keyHash P (ofString "cut")) (Value.str (ofString "cut") 637) (Value.ref 318), DictEntry.mk (keyHash P (ofString "STEP_reassembly")) (Value.str (ofString "STEP_reassembly") 641) (Value.int 8 640)] 58) #[]
noncomputable def o315 (P : Params) : Obj := Obj.mk Value.none none (Data.fields #[Value.int 1 0, Value.int 0 0, Value.ref 20, Value.int 5 0, Value.int 0 0, Value.ref 27, Value.int 9 0, Value.int 0 0, Value.ref 47, Value.int 11 0, Value.int 0 0, Value.ref 59, Value.int 14 0, Value.int 0 0, Value.ref 71, Value.int 16 0, Value.int 0 0, Value.ref 78, Value.int 18 0, Value.int 0 0, Value.ref 85, Value.int 21 0, Value.int 0 0, Value.ref 92, Value.int 24 0, Value.int 0 0, Value.ref 99, Value.int 29 0, Value.int 0 0, Value.ref 106, Value.int 33 0, Value.int 0 0, Value.ref 114, Value.int 41 0, Value.int 0 0, Value.ref 122, Value.int 43 0, Value.int 0 0, Value.ref 129, Value.int 55 0, Value.int 0 0, Value.ref 136, Value.int 83 0, Value.int 0 0, Value.ref 193, Value.int 85 0, Value.int 0 0, Value.ref 200, Value.int 96 0, Value.int 0 0, Value.ref 207, Value.int 101 0, Value.int 0 0, Value.ref 214, Value.int 108 0, Value.int 0 0, Value.ref 221, Value.int 117 0, Value.int 0 0, Value.ref 228, Value.int 126 0, Value.int 0 0, Value.ref 235, Value.int 137 0, Value.int 0 0, Value.ref 242, Value.int 150 0, Value.int 0 0, Value.ref 249, Value.int 152 0, Value.int 0 0, Value.ref 256, Value.int 165 0, Value.int 0 0, Value.ref 263, Value.int 172 0, Value.int 0 0, Value.ref 270, Value.int 180 0, Value.int 0 0, Value.ref 277, Value.int 190 0, Value.int 0 0, Value.ref 284, Value.int 192 0, Value.int 0 0, Value.ref 289, Value.int 196 0, Value.int 0 0, Value.ref 296, Value.int 201 0, Value.int 0 0, Value.ref 303, Value.int 203 0, Value.int 0 0, Value.ref 310, Value.int 208 0, Value.int 0 0, Value.ref 317]) #[]
noncomputable def o316 (P : Params) : Obj := Obj.mk (Value.type "tuple") none (Data.seq #[]) #[]
noncomputable def o317 (P : Params) : Obj := Obj.mk Value.none none (Data.fields #[]) #[]
noncomputable def o318 (P : Params) : Obj := Obj.mk (Value.type "tuple") none (Data.seq #[Value.str (ofString "options") 564, Value.str (ofString "found") 565, Value.str (ofString "kind") 566, Value.str (ofString "octets") 567]) #[]
noncomputable def o319 (P : Params) : Obj := Obj.mk (Value.type "tuple") none (Data.seq #[]) #[]
noncomputable def o320 (P : Params) : Obj := Obj.mk Value.none none (.func (fnO (topSt 44) (ofString "write_options") 0 [] Value.none Value.none Value.none Value.none none Value.none Value.none 0)) #[]
noncomputable def o321 (P : Params) : Obj := Obj.mk (Value.type "code") none (Data.fields #[Value.str (ofString "write_options") 561, Value.str (ofString "write_options") 562, Value.str (ofString "/claim/cut.py") 563, Value.int 172 0, Value.int 1 0, Value.int 0 0, Value.int 0 0, Value.int 3 0, Value.ref 265, Value.bool true, Value.int 181 0, Value.ref 266, Value.none, Value.ref 267, Value.ref 268, Value.ref 269, Value.int 568 0, Value.int 172 0, Value.str (ofString "/claim/cut.py") 569]) #[]
noncomputable def o322 (P : Params) : Obj := Obj.mk (Value.type "function") none (.func (fnO (topSt 44) (ofString "write_options") 3 [] Value.none Value.none Value.none (Value.str (ofString "thinstack.ip_options") 524) none (Value.ref 270) Value.none 0)) #[]
noncomputable def o323 (P : Params) : Obj := Obj.mk (Value.type "tuple") none (Data.seq #[]) #[]
noncomputable def o324 (P : Params) : Obj := Obj.mk Value.none none (Data.fields #[]) #[]
noncomputable def o325 (P : Params) : Obj := Obj.mk (Value.type "tuple") none (Data.seq #[Value.str (ofString "kind") 574, Value.str (ofString "octets") 575]) #[]
noncomputable def o326 (P : Params) : Obj := Obj.mk (Value.type "tuple") none (Data.seq #[]) #[]
noncomputable def o327 (P : Params) : Obj := Obj.mk Value.none none (.func (fnO (topSt 45) (ofString "option_octets") 0 [] Value.none Value.none Value.none Value.none none Value.none Value.none 0)) #[]
noncomputable def o328 (P : Params) : Obj := Obj.mk (Value.type "code") none (Data.fields #[Value.str (ofString "option_octets") 571, Value.str (ofString "option_octets") 572, Value.str (ofString "/claim/cut.py") 573, Value.int 180 0, Value.int 2 0, Value.int 0 0, Value.int 0 0, Value.int 3 0, Value.ref 272, Value.bool true, Value.int 181 0, Value.ref 273, Value.none, Value.ref 274, Value.ref 275, Value.ref 276, Value.int 576 0, Value.int 180 0, Value.str (ofString "/claim/cut.py") 577]) #[]
noncomputable def o329 (P : Params) : Obj := Obj.mk (Value.type "function") none (.func (fnO (topSt 45) (ofString "option_octets") 3 [] Value.none Value.none Value.none (Value.str (ofString "thinstack.ip_options") 524) none (Value.ref 277) Value.none 0)) #[]
noncomputable def o330 (P : Params) : Obj := Obj.mk (Value.type "tuple") none (Data.seq #[]) #[]
noncomputable def o331 (P : Params) : Obj := Obj.mk Value.none none (Data.fields #[]) #[]
noncomputable def o332 (P : Params) : Obj := Obj.mk (Value.type "tuple") none (Data.seq #[Value.str (ofString "kind") 582]) #[]
noncomputable def o333 (P : Params) : Obj := Obj.mk (Value.type "tuple") none (Data.seq #[]) #[]
noncomputable def o334 (P : Params) : Obj := Obj.mk Value.none none (.func (fnO (topSt 46) (ofString "is_copied") 0 [] Value.none Value.none Value.none Value.none none Value.none Value.none 0)) #[]
noncomputable def o335 (P : Params) : Obj := Obj.mk (Value.type "code") none (Data.fields #[Value.str (ofString "is_copied") 579, Value.str (ofString "is_copied") 580, Value.str (ofString "/claim/cut.py") 581, Value.int 190 0, Value.int 1 0, Value.int 0 0, Value.int 0 0, Value.int 3 0, Value.ref 279, Value.bool true, Value.int 181 0, Value.ref 280, Value.none, Value.ref 281, Value.ref 282, Value.ref 283, Value.int 583 0, Value.int 190 0, Value.str (ofString "/claim/cut.py") 584]) #[]
noncomputable def o336 (P : Params) : Obj := Obj.mk (Value.type "function") none (.func (fnO (topSt 46) (ofString "is_copied") 3 [] Value.none Value.none Value.none (Value.str (ofString "thinstack.ip_options") 524) none (Value.ref 284) Value.none 0)) #[]
noncomputable def o337 (P : Params) : Obj := Obj.mk (Value.type "tuple") none (Data.seq #[]) #[]
noncomputable def o338 (P : Params) : Obj := Obj.mk Value.none none (Data.fields #[]) #[]
noncomputable def o339 (P : Params) : Obj := Obj.mk Value.none none (.func (fnO (topSt 47) (ofString "copied") 0 [] Value.none Value.none Value.none Value.none none Value.none Value.none 0)) #[]
noncomputable def o340 (P : Params) : Obj := Obj.mk (Value.type "code") none (Data.fields #[Value.str (ofString "copied") 586, Value.str (ofString "copied") 587, Value.str (ofString "/claim/cut.py") 588, Value.int 192 0, Value.int 1 0, Value.int 0 0, Value.int 0 0, Value.int 3 0, Value.ref 286, Value.bool true, Value.int 181 0, Value.ref 287, Value.none, Value.none, Value.none, Value.ref 288, Value.int 589 0, Value.int 192 0, Value.str (ofString "/claim/cut.py") 590]) #[]
noncomputable def o341 (P : Params) : Obj := Obj.mk (Value.type "function") none (.func (fnO (topSt 47) (ofString "copied") 3 [] Value.none Value.none Value.none (Value.str (ofString "thinstack.ip_options") 524) none (Value.ref 289) Value.none 0)) #[]
noncomputable def o342 (P : Params) : Obj := Obj.mk (Value.type "tuple") none (Data.seq #[]) #[]
noncomputable def o343 (P : Params) : Obj := Obj.mk Value.none none (Data.fields #[]) #[]
noncomputable def o344 (P : Params) : Obj := Obj.mk (Value.type "tuple") none (Data.seq #[Value.str (ofString "options") 599]) #[]
noncomputable def o345 (P : Params) : Obj := Obj.mk (Value.type "tuple") none (Data.seq #[]) #[]
noncomputable def o346 (P : Params) : Obj := Obj.mk Value.none none (.func (fnO (topSt 50) (ofString "later_options") 0 [] Value.none Value.none Value.none Value.none none Value.none Value.none 0)) #[]
noncomputable def o347 (P : Params) : Obj := Obj.mk (Value.type "code") none (Data.fields #[Value.str (ofString "later_options") 596, Value.str (ofString "later_options") 597, Value.str (ofString "/claim/cut.py") 598, Value.int 196 0, Value.int 1 0, Value.int 0 0, Value.int 0 0, Value.int 3 0, Value.ref 291, Value.bool true, Value.int 181 0, Value.ref 292, Value.none, Value.ref 293, Value.ref 294, Value.ref 295, Value.int 600 0, Value.int 196 0, Value.str (ofString "/claim/cut.py") 601]) #[]
noncomputable def o348 (P : Params) : Obj := Obj.mk (Value.type "function") none (.func (fnO (topSt 50) (ofString "later_options") 3 [] Value.none Value.none Value.none (Value.str (ofString "thinstack.fragments") 592) none (Value.ref 296) Value.none 0)) #[]
noncomputable def o349 (P : Params) : Obj := Obj.mk (Value.type "tuple") none (Data.seq #[]) #[]
noncomputable def o350 (P : Params) : Obj := Obj.mk Value.none none (Data.fields #[]) #[]
noncomputable def o351 (P : Params) : Obj := Obj.mk (Value.type "tuple") none (Data.seq #[Value.str (ofString "header") 606, Value.str (ofString "offset") 607, Value.str (ofString "more") 608, Value.str (ofString "options") 609]) #[]
noncomputable def o352 (P : Params) : Obj := Obj.mk (Value.type "tuple") none (Data.seq #[]) #[]
noncomputable def o353 (P : Params) : Obj := Obj.mk Value.none none (.func (fnO (topSt 51) (ofString "part_header") 0 [] Value.none Value.none Value.none Value.none none Value.none Value.none 0)) #[]
noncomputable def o354 (P : Params) : Obj := Obj.mk (Value.type "code") none (Data.fields #[Value.str (ofString "part_header") 603, Value.str (ofString "part_header") 604, Value.str (ofString "/claim/cut.py") 605, Value.int 201 0, Value.int 4 0, Value.int 0 0, Value.int 0 0, Value.int 3 0, Value.ref 298, Value.bool true, Value.int 181 0, Value.ref 299, Value.none, Value.ref 300, Value.ref 301, Value.ref 302, Value.int 610 0, Value.int 201 0, Value.str (ofString "/claim/cut.py") 611]) #[]
noncomputable def o355 (P : Params) : Obj := Obj.mk (Value.type "function") none (.func (fnO (topSt 51) (ofString "part_header") 3 [] Value.none Value.none Value.none (Value.str (ofString "thinstack.fragments") 592) none (Value.ref 303) Value.none 0)) #[]
noncomputable def o356 (P : Params) : Obj := Obj.mk (Value.type "tuple") none (Data.seq #[]) #[]
noncomputable def o357 (P : Params) : Obj := Obj.mk Value.none none (Data.fields #[]) #[]
noncomputable def o358 (P : Params) : Obj := Obj.mk (Value.type "tuple") none (Data.seq #[Value.str (ofString "mtu") 616, Value.str (ofString "header_size") 617, Value.str (ofString "room") 618]) #[]
noncomputable def o359 (P : Params) : Obj := Obj.mk (Value.type "tuple") none (Data.seq #[]) #[]
noncomputable def o360 (P : Params) : Obj := Obj.mk Value.none none (.func (fnO (topSt 52) (ofString "room_of") 0 [] Value.none Value.none Value.none Value.none none Value.none Value.none 0)) #[]
noncomputable def o361 (P : Params) : Obj := Obj.mk (Value.type "code") none (Data.fields #[Value.str (ofString "room_of") 613, Value.str (ofString "room_of") 614, Value.str (ofString "/claim/cut.py") 615, Value.int 203 0, Value.int 2 0, Value.int 0 0, Value.int 0 0, Value.int 3 0, Value.ref 305, Value.bool true, Value.int 181 0, Value.ref 306, Value.none, Value.ref 307, Value.ref 308, Value.ref 309, Value.int 619 0, Value.int 203 0, Value.str (ofString "/claim/cut.py") 620]) #[]
noncomputable def o362 (P : Params) : Obj := Obj.mk (Value.type "function") none (.func (fnO (topSt 52) (ofString "room_of") 3 [] Value.none Value.none Value.none (Value.str (ofString "thinstack.fragments") 592) none (Value.ref 310) Value.none 0)) #[]
noncomputable def o363 (P : Params) : Obj := Obj.mk (Value.type "tuple") none (Data.seq #[]) #[]
noncomputable def o364 (P : Params) : Obj := Obj.mk Value.none none (Data.fields #[]) #[]
noncomputable def o365 (P : Params) : Obj := Obj.mk (Value.type "tuple") none (Data.seq #[Value.str (ofString "header") 625, Value.str (ofString "payload") 626, Value.str (ofString "mtu") 627, Value.str (ofString "found") 628, Value.str (ofString "at") 629, Value.str (ofString "options") 630, Value.str (ofString "later") 631, Value.str (ofString "head") 632, Value.str (ofString "left") 633, Value.str (ofString "room") 634]) #[]
noncomputable def o366 (P : Params) : Obj := Obj.mk (Value.type "tuple") none (Data.seq #[]) #[]
noncomputable def o367 (P : Params) : Obj := Obj.mk Value.none none (.func (fnO (topSt 53) (ofString "cut") 0 [] Value.none Value.none Value.none Value.none none Value.none Value.none 0)) #[]
noncomputable def o368 (P : Params) : Obj := Obj.mk (Value.type "code") none (Data.fields #[Value.str (ofString "cut") 622, Value.str (ofString "cut") 623, Value.str (ofString "/claim/cut.py") 624, Value.int 208 0, Value.int 3 0, Value.int 0 0, Value.int 0 0, Value.int 3 0, Value.ref 312, Value.bool true, Value.int 181 0, Value.ref 313, Value.none, Value.ref 314, Value.ref 315, Value.ref 316, Value.int 635 0, Value.int 208 0, Value.str (ofString "/claim/cut.py") 636]) #[]
noncomputable def o369 (P : Params) : Obj := Obj.mk (Value.type "function") none (.func (fnO (topSt 53) (ofString "cut") 3 [] Value.none Value.none Value.none (Value.str (ofString "thinstack.fragments") 592) none (Value.ref 317) Value.none 0)) #[]
noncomputable def o370 (P : Params) : Obj := Obj.mk (Value.type "dict") none (Data.dict #[DictEntry.mk (keyHash P (ofString "__name__")) (Value.str (ofString "__name__") 165) (Value.str (ofString "thinstack.reassembly") 638), DictEntry.mk (keyHash P (ofString "__doc__")) (Value.str (ofString "__doc__") 166) Value.none, DictEntry.mk (keyHash P (ofString "__package__")) (Value.str (ofString "__package__") 167) Value.none, DictEntry.mk (keyHash P (ofString "__loader__")) (Value.str (ofString "__loader__") 168) (Value.builtin "__main__.__loader__#opaque"), DictEntry.mk (keyHash P (ofString "__spec__")) (Value.str (ofString "__spec__") 169) Value.none, DictEntry.mk (keyHash P (ofString "__annotations__")) (Value.str (ofString "__annotations__") 170) (Value.ref 6), DictEntry.mk (keyHash P (ofString "__builtins__")) (Value.str (ofString "__builtins__") 171) (Value.ref 4), DictEntry.mk (keyHash P (ofString "__file__")) (Value.str (ofString "__file__") 173) (Value.str (ofString "/claim/cut.py") 172), DictEntry.mk (keyHash P (ofString "__cached__")) (Value.str (ofString "__cached__") 174) Value.none, DictEntry.mk (keyHash P (ofString "_wall")) (Value.str (ofString "_wall") 193) (Value.ref 21), DictEntry.mk (keyHash P (ofString "StackError")) (Value.str (ofString "StackError") 224) (Value.ref 38), DictEntry.mk (keyHash P (ofString "FormError")) (Value.str (ofString "FormError") 240) (Value.ref 51), DictEntry.mk (keyHash P (ofString "SizeError")) (Value.str (ofString "SizeError") 256) (Value.ref 63), DictEntry.mk (keyHash P (ofString "put16")) (Value.str (ofString "put16") 265) (Value.ref 72), DictEntry.mk (keyHash P (ofString "put32")) (Value.str (ofString "put32") 272) (Value.ref 79), DictEntry.mk (keyHash P (ofString "need")) (Value.str (ofString "need") 281) (Value.ref 86), DictEntry.mk (keyHash P (ofString "get16")) (Value.str (ofString "get16") 289) (Value.ref 93), DictEntry.mk (keyHash P (ofString "get32")) (Value.str (ofString "get32") 297) (Value.ref 100), DictEntry.mk (keyHash P (ofString "ALL_ONES")) (Value.str (ofString "ALL_ONES") 301) (Value.int 65535 300), DictEntry.mk (keyHash P (ofString "fold")) (Value.str (ofString "fold") 308) (Value.ref 107), DictEntry.mk (keyHash P (ofString "ones_sum")) (Value.str (ofString "ones_sum") 320) (Value.ref 115), DictEntry.mk (keyHash P (ofString "checksum")) (Value.str (ofString "checksum") 329) (Value.ref 123), DictEntry.mk (keyHash P (ofString "adjusted")) (Value.str (ofString "adjusted") 338) (Value.ref 130), DictEntry.mk (keyHash P (ofString "VERSION")) (Value.str (ofString "VERSION") 342) (Value.int 4 341), DictEntry.mk (keyHash P (ofString "LEAST_HEAD")) (Value.str (ofString "LEAST_HEAD") 344) (Value.int 20 343), DictEntry.mk (keyHash P (ofString "MOST_HEAD")) (Value.str (ofString "MOST_HEAD") 346) (Value.int 60 345), DictEntry.mk (keyHash P (ofString "MOST_TOTAL")) (Value.str (ofString "MOST_TOTAL") 348) (Value.int 65535 347), DictEntry.mk (keyHash P (ofString "DONT_BIT")) (Value.str (ofString "DONT_BIT") 350) (Value.int 16384 349), DictEntry.mk (keyHash P (ofString "MORE_BIT")) (Value.str (ofString "MORE_BIT") 352) (Value.int 8192 351), DictEntry.mk (keyHash P (ofString "PLACE_BITS")) (Value.str (ofString "PLACE_BITS") 354) (Value.int 8191 353), DictEntry.mk (keyHash P (ofString "TTL_PLACE")) (Value.str (ofString "TTL_PLACE") 356) (Value.int 8 355), DictEntry.mk (keyHash P (ofString "SUM_PLACE")) (Value.str (ofString "SUM_PLACE") 358) (Value.int 10 357), DictEntry.mk (keyHash P (ofString "IpHeader")) (Value.str (ofString "IpHeader") 448) (Value.ref 183), DictEntry.mk (keyHash P (ofString "is_within")) (Value.str (ofString "is_within") 456) (Value.ref 194), DictEntry.mk (keyHash P (ofString "check_fields")) (Value.str (ofString "check_fields") 464) (Value.ref 201), DictEntry.mk (keyHash P (ofString "check_size")) (Value.str (ofString "check_size") 472) (Value.ref 208), DictEntry.mk (keyHash P (ofString "flags_of")) (Value.str (ofString "flags_of") 480) (Value.ref 215), DictEntry.mk (keyHash P (ofString "pack_ip")) (Value.str (ofString "pack_ip") 493) (Value.ref 222), DictEntry.mk (keyHash P (ofString "head_size")) (Value.str (ofString "head_size") 501) (Value.ref 229), DictEntry.mk (keyHash P (ofString "unpack_ip")) (Value.str (ofString "unpack_ip") 513) (Value.ref 236), DictEntry.mk (keyHash P (ofString "lessened_octets")) (Value.str (ofString "lessened_octets") 523) (Value.ref 243), DictEntry.mk (keyHash P (ofString "END")) (Value.str (ofString "END") 527) (Value.int 0 526), DictEntry.mk (keyHash P (ofString "NOTHING")) (Value.str (ofString "NOTHING") 529) (Value.int 1 528), DictEntry.mk (keyHash P (ofString "MOST_OPTIONS")) (Value.str (ofString "MOST_OPTIONS") 531) (Value.int 40 530), DictEntry.mk (keyHash P (ofString "COPY_BIT")) (Value.str (ofString "COPY_BIT") 533) (Value.int 128 532), DictEntry.mk (keyHash P (ofString "is_single")) (Value.str (ofString "is_single") 540) (Value.ref 250), DictEntry.mk (keyHash P (ofString "read_options")) (Value.str (ofString "read_options") 551) (Value.ref 257), DictEntry.mk (keyHash P (ofString "size_at")) (Value.str (ofString "size_at") 560) (Value.ref 264), DictEntry.mk (keyHash P (ofString "write_options")) (Value.str (ofString "write_options") 570) (Value.ref 271), DictEntry.mk (keyHash P (ofString "option_octets")) (Value.str (ofString "option_octets") 578) (Value.ref 278), DictEntry.mk (keyHash P (ofString "is_copied")) (Value.str (ofString "is_copied") 585) (Value.ref 285), DictEntry.mk (keyHash P (ofString "copied")) (Value.str (ofString "copied") 591) (Value.ref 290), DictEntry.mk (keyHash P (ofString "STEP_fragments")) (Value.str (ofString "STEP_fragments") 595) (Value.int 8 594), DictEntry.mk (keyHash P (ofString "later_options")) (Value.str (ofString "later_options") 602) (Value.ref 297), DictEntry.mk (keyHash P (ofString "part_header")) (Value.str (ofString "part_header") 612) (Value.ref 304), DictEntry.mk (keyHash P (ofString "room_of")) (Value.str (ofString "room_of") 621) (Value.ref 311), DictEntry.mk (keyHash P (ofString "cut")) (Value.str (ofString "cut") 637) (Value.ref 318), DictEntry.mk (keyHash P (ofString "STEP_reassembly")) (Value.str (ofString "STEP_reassembly") 641) (Value.int 8 640), DictEntry.mk (keyHash P (ofString "Holes")) (Value.str (ofString "Holes") 708) (Value.ref 363)] 59) #[]
noncomputable def o371 (P : Params) : Obj := Obj.mk Value.none none (Data.fields #[Value.int 1 0, Value.int 0 0, Value.ref 20, Value.int 5 0, Value.int 0 0, Value.ref 27, Value.int 9 0, Value.int 0 0, Value.ref 47, Value.int 11 0, Value.int 0 0, Value.ref 59, Value.int 14 0, Value.int 0 0, Value.ref 71, Value.int 16 0, Value.int 0 0, Value.ref 78, Value.int 18 0, Value.int 0 0, Value.ref 85, Value.int 21 0, Value.int 0 0, Value.ref 92, Value.int 24 0, Value.int 0 0, Value.ref 99, Value.int 29 0, Value.int 0 0, Value.ref 106, Value.int 33 0, Value.int 0 0, Value.ref 114, Value.int 41 0, Value.int 0 0, Value.ref 122, Value.int 43 0, Value.int 0 0, Value.ref 129, Value.int 55 0, Value.int 0 0, Value.ref 136, Value.int 83 0, Value.int 0 0, Value.ref 193, Value.int 85 0, Value.int 0 0, Value.ref 200, Value.int 96 0, Value.int 0 0, Value.ref 207, Value.int 101 0, Value.int 0 0, Value.ref 214, Value.int 108 0, Value.int 0 0, Value.ref 221, Value.int 117 0, Value.int 0 0, Value.ref 228, Value.int 126 0, Value.int 0 0, Value.ref 235, Value.int 137 0, Value.int 0 0, Value.ref 242, Value.int 150 0, Value.int 0 0, Value.ref 249, Value.int 152 0, Value.int 0 0, Value.ref 256, Value.int 165 0, Value.int 0 0, Value.ref 263, Value.int 172 0, Value.int 0 0, Value.ref 270, Value.int 180 0, Value.int 0 0, Value.ref 277, Value.int 190 0, Value.int 0 0, Value.ref 284, Value.int 192 0, Value.int 0 0, Value.ref 289, Value.int 196 0, Value.int 0 0, Value.ref 296, Value.int 201 0, Value.int 0 0, Value.ref 303, Value.int 203 0, Value.int 0 0, Value.ref 310, Value.int 208 0, Value.int 0 0, Value.ref 317, Value.int 229 0, Value.int 0 0, Value.ref 324]) #[]
noncomputable def o372 (P : Params) : Obj := Obj.mk (Value.type "tuple") none (Data.seq #[]) #[]
noncomputable def o373 (P : Params) : Obj := Obj.mk (Value.type "builtin_function_or_method") none (Data.fields #[Value.builtin "type.__prepare__", Value.type "type"]) #[]
noncomputable def o374 (P : Params) : Obj := Obj.mk (Value.type "dict") none (Data.dict #[DictEntry.mk (keyHash P (ofString "__module__")) (Value.str (ofString "__module__") 649) (Value.str (ofString "thinstack.reassembly") 638), DictEntry.mk (keyHash P (ofString "__qualname__")) (Value.str (ofString "__qualname__") 651) (Value.str (ofString "Holes") 650), DictEntry.mk (keyHash P (ofString "__firstlineno__")) (Value.str (ofString "__firstlineno__") 653) (Value.int 229 652), DictEntry.mk (keyHash P (ofString "__init__")) (Value.str (ofString "__init__") 661) (Value.ref 332), DictEntry.mk (keyHash P (ofString "fill")) (Value.str (ofString "fill") 676) (Value.ref 339), DictEntry.mk (keyHash P (ofString "end_at")) (Value.str (ofString "end_at") 684) (Value.ref 346), DictEntry.mk (keyHash P (ofString "reach")) (Value.str (ofString "reach") 691) (Value.ref 353), DictEntry.mk (keyHash P (ofString "is_whole")) (Value.str (ofString "is_whole") 698) (Value.ref 360), DictEntry.mk (keyHash P (ofString "__static_attributes__")) (Value.str (ofString "__static_attributes__") 701) (Value.ref 361)] 9) #[]
noncomputable def o375 (P : Params) : Obj := Obj.mk (Value.type "tuple") none (Data.seq #[]) #[]
noncomputable def o376 (P : Params) : Obj := Obj.mk Value.none none (Data.fields #[Value.int 231 0, Value.int 4 0, Value.ref 331, Value.int 235 0, Value.int 4 0, Value.ref 338, Value.int 252 0, Value.int 4 0, Value.ref 345, Value.int 255 0, Value.int 4 0, Value.ref 352, Value.int 260 0, Value.int 4 0, Value.ref 359]) #[]
noncomputable def o377 (P : Params) : Obj := Obj.mk (Value.type "code") none (Data.fields #[Value.str (ofString "Holes") 644, Value.str (ofString "Holes") 645, Value.str (ofString "/claim/cut.py") 646, Value.int 229 0, Value.int 0 0, Value.int 0 0, Value.int 0 0, Value.int 0 0, Value.ref 322, Value.bool false, Value.int 181 0, Value.ref 323, Value.none, Value.none, Value.none, Value.none, Value.int 647 0, Value.int 229 0, Value.str (ofString "/claim/cut.py") 648]) #[]
noncomputable def o378 (P : Params) : Obj := Obj.mk (Value.type "frame") none Data.plain #[some (Value.ref 324), some (Value.ref 3), some (Value.ref 321), none, some (Value.str (ofString "thinstack.reassembly") 638), none, some (Value.ref 0)]
noncomputable def o379 (P : Params) : Obj := Obj.mk (Value.type "tuple") none (Data.seq #[]) #[]
noncomputable def o380 (P : Params) : Obj := Obj.mk Value.none none (Data.fields #[]) #[]
noncomputable def o381 (P : Params) : Obj := Obj.mk (Value.type "tuple") none (Data.seq #[Value.str (ofString "self") 657, Value.str (ofString "most") 658]) #[]
noncomputable def o382 (P : Params) : Obj := Obj.mk (Value.type "tuple") none (Data.seq #[]) #[]
noncomputable def o383 (P : Params) : Obj := Obj.mk Value.none none (.func (fnO (clsSt 56 0) (ofString "Holes.__init__") 0 [] Value.none Value.none Value.none Value.none none Value.none Value.none 0)) #[]
noncomputable def o384 (P : Params) : Obj := Obj.mk (Value.type "code") none (Data.fields #[Value.str (ofString "__init__") 654, Value.str (ofString "Holes.__init__") 655, Value.str (ofString "/claim/cut.py") 656, Value.int 231 0, Value.int 2 0, Value.int 0 0, Value.int 0 0, Value.int 3 0, Value.ref 326, Value.bool true, Value.int 181 0, Value.ref 327, Value.none, Value.ref 328, Value.ref 329, Value.ref 330, Value.int 659 0, Value.int 231 0, Value.str (ofString "/claim/cut.py") 660]) #[]
noncomputable def o385 (P : Params) : Obj := Obj.mk (Value.type "function") none (.func (fnO (clsSt 56 0) (ofString "Holes.__init__") 3 [] Value.none Value.none Value.none (Value.str (ofString "thinstack.reassembly") 638) none (Value.ref 331) Value.none 0)) #[]
noncomputable def o386 (P : Params) : Obj := Obj.mk (Value.type "tuple") none (Data.seq #[]) #[]
noncomputable def o387 (P : Params) : Obj := Obj.mk Value.none none (Data.fields #[]) #[]
noncomputable def o388 (P : Params) : Obj := Obj.mk (Value.type "tuple") none (Data.seq #[Value.str (ofString "self") 665, Value.str (ofString "begin") 666, Value.str (ofString "end") 667, Value.str (ofString "found") 668, Value.str (ofString "rows") 669, Value.str (ofString "low") 670, Value.str (ofString "high") 671, Value.str (ofString "first") 672, Value.str (ofString "last") 673]) #[]
noncomputable def o389 (P : Params) : Obj := Obj.mk (Value.type "tuple") none (Data.seq #[]) #[]
noncomputable def o390 (P : Params) : Obj := Obj.mk Value.none none (.func (fnO (clsSt 56 1) (ofString "Holes.fill") 0 [] Value.none Value.none Value.none Value.none none Value.none Value.none 0)) #[]
noncomputable def o391 (P : Params) : Obj := Obj.mk (Value.type "code") none (Data.fields #[Value.str (ofString "fill") 662, Value.str (ofString "Holes.fill") 663, Value.str (ofString "/claim/cut.py") 664, Value.int 235 0, Value.int 3 0, Value.int 0 0, Value.int 0 0, Value.int 3 0, Value.ref 333, Value.bool true, Value.int 181 0, Value.ref 334, Value.none, Value.ref 335, Value.ref 336, Value.ref 337, Value.int 674 0, Value.int 235 0, Value.str (ofString "/claim/cut.py") 675]) #[]
noncomputable def o392 (P : Params) : Obj := Obj.mk (Value.type "function") none (.func (fnO (clsSt 56 1) (ofString "Holes.fill") 3 [] Value.none Value.none Value.none (Value.str (ofString "thinstack.reassembly") 638) none (Value.ref 338) Value.none 0)) #[]
noncomputable def o393 (P : Params) : Obj := Obj.mk (Value.type "tuple") none (Data.seq #[]) #[]
noncomputable def o394 (P : Params) : Obj := Obj.mk Value.none none (Data.fields #[]) #[]
noncomputable def o395 (P : Params) : Obj := Obj.mk (Value.type "tuple") none (Data.seq #[Value.str (ofString "self") 680, Value.str (ofString "end") 681]) #[]
noncomputable def o396 (P : Params) : Obj := Obj.mk (Value.type "tuple") none (Data.seq #[]) #[]
noncomputable def o397 (P : Params) : Obj := Obj.mk Value.none none (.func (fnO (clsSt 56 2) (ofString "Holes.end_at") 0 [] Value.none Value.none Value.none Value.none none Value.none Value.none 0)) #[]
noncomputable def o398 (P : Params) : Obj := Obj.mk (Value.type "code") none (Data.fields #[Value.str (ofString "end_at") 677, Value.str (ofString "Holes.end_at") 678, Value.str (ofString "/claim/cut.py") 679, Value.int 252 0, Value.int 2 0, Value.int 0 0, Value.int 0 0, Value.int 3 0, Value.ref 340, Value.bool true, Value.int 181 0, Value.ref 341, Value.none, Value.ref 342, Value.ref 343, Value.ref 344, Value.int 682 0, Value.int 252 0, Value.str (ofString "/claim/cut.py") 683]) #[]
noncomputable def o399 (P : Params) : Obj := Obj.mk (Value.type "function") none (.func (fnO (clsSt 56 2) (ofString "Holes.end_at") 3 [] Value.none Value.none Value.none (Value.str (ofString "thinstack.reassembly") 638) none (Value.ref 345) Value.none 0)) #[]
noncomputable def o400 (P : Params) : Obj := Obj.mk (Value.type "tuple") none (Data.seq #[]) #[]
noncomputable def o401 (P : Params) : Obj := Obj.mk Value.none none (Data.fields #[]) #[]
noncomputable def o402 (P : Params) : Obj := Obj.mk (Value.type "tuple") none (Data.seq #[Value.str (ofString "self") 688]) #[]
noncomputable def o403 (P : Params) : Obj := Obj.mk (Value.type "tuple") none (Data.seq #[]) #[]
noncomputable def o404 (P : Params) : Obj := Obj.mk Value.none none (.func (fnO (clsSt 56 3) (ofString "Holes.reach") 0 [] Value.none Value.none Value.none Value.none none Value.none Value.none 0)) #[]
noncomputable def o405 (P : Params) : Obj := Obj.mk (Value.type "code") none (Data.fields #[Value.str (ofString "reach") 685, Value.str (ofString "Holes.reach") 686, Value.str (ofString "/claim/cut.py") 687, Value.int 255 0, Value.int 1 0, Value.int 0 0, Value.int 0 0, Value.int 3 0, Value.ref 347, Value.bool true, Value.int 181 0, Value.ref 348, Value.none, Value.ref 349, Value.ref 350, Value.ref 351, Value.int 689 0, Value.int 255 0, Value.str (ofString "/claim/cut.py") 690]) #[]
noncomputable def o406 (P : Params) : Obj := Obj.mk (Value.type "function") none (.func (fnO (clsSt 56 3) (ofString "Holes.reach") 3 [] Value.none Value.none Value.none (Value.str (ofString "thinstack.reassembly") 638) none (Value.ref 352) Value.none 0)) #[]
noncomputable def o407 (P : Params) : Obj := Obj.mk (Value.type "tuple") none (Data.seq #[]) #[]
noncomputable def o408 (P : Params) : Obj := Obj.mk Value.none none (Data.fields #[]) #[]
noncomputable def o409 (P : Params) : Obj := Obj.mk (Value.type "tuple") none (Data.seq #[Value.str (ofString "self") 695]) #[]
noncomputable def o410 (P : Params) : Obj := Obj.mk (Value.type "tuple") none (Data.seq #[]) #[]
noncomputable def o411 (P : Params) : Obj := Obj.mk Value.none none (.func (fnO (clsSt 56 4) (ofString "Holes.is_whole") 0 [] Value.none Value.none Value.none Value.none none Value.none Value.none 0)) #[]
noncomputable def o412 (P : Params) : Obj := Obj.mk (Value.type "code") none (Data.fields #[Value.str (ofString "is_whole") 692, Value.str (ofString "Holes.is_whole") 693, Value.str (ofString "/claim/cut.py") 694, Value.int 260 0, Value.int 1 0, Value.int 0 0, Value.int 0 0, Value.int 3 0, Value.ref 354, Value.bool true, Value.int 181 0, Value.ref 355, Value.none, Value.ref 356, Value.ref 357, Value.ref 358, Value.int 696 0, Value.int 260 0, Value.str (ofString "/claim/cut.py") 697]) #[]
noncomputable def o413 (P : Params) : Obj := Obj.mk (Value.type "function") none (.func (fnO (clsSt 56 4) (ofString "Holes.is_whole") 3 [] Value.none Value.none Value.none (Value.str (ofString "thinstack.reassembly") 638) none (Value.ref 359) Value.none 0)) #[]
noncomputable def o414 (P : Params) : Obj := Obj.mk (Value.type "tuple") none (Data.seq #[Value.str (ofString "most") 699, Value.str (ofString "rows") 700]) #[]
noncomputable def o415 (P : Params) : Obj := Obj.mk (Value.type "dict") none (Data.dict #[DictEntry.mk (keyHash P (ofString "__module__")) (Value.str (ofString "__module__") 649) (Value.str (ofString "thinstack.reassembly") 638), DictEntry.mk (keyHash P (ofString "__firstlineno__")) (Value.str (ofString "__firstlineno__") 653) (Value.int 229 652), DictEntry.mk (keyHash P (ofString "__init__")) (Value.str (ofString "__init__") 661) (Value.ref 332), DictEntry.mk (keyHash P (ofString "fill")) (Value.str (ofString "fill") 676) (Value.ref 339), DictEntry.mk (keyHash P (ofString "end_at")) (Value.str (ofString "end_at") 684) (Value.ref 346), DictEntry.mk (keyHash P (ofString "reach")) (Value.str (ofString "reach") 691) (Value.ref 353), DictEntry.mk (keyHash P (ofString "is_whole")) (Value.str (ofString "is_whole") 698) (Value.ref 360), DictEntry.mk (keyHash P (ofString "__static_attributes__")) (Value.str (ofString "__static_attributes__") 701) (Value.ref 361), DictEntry.mk (keyHash P (ofString "__dict__")) (Value.str (ofString "__dict__") 703) (Value.ref 364), DictEntry.mk (keyHash P (ofString "__weakref__")) (Value.str (ofString "__weakref__") 705) (Value.ref 365), DictEntry.mk (keyHash P (ofString "__doc__")) (Value.str (ofString "__doc__") 706) Value.none] 4) #[]
noncomputable def o416 (P : Params) : Obj := Obj.mk (Value.type "type") none (Data.cls (ClassData.mk (ofString "Holes") [Value.type "object"] [Value.ref 363, Value.type "object"] 362 (ofString "Holes") true [] [] false none false)) #[none, none, some (Value.str (ofString "Holes") 642), some (Value.str (ofString "Holes") 650), some (Value.builtin "object.__new__"), some (Value.bool true)]
noncomputable def o417 (P : Params) : Obj := Obj.mk (Value.type "getset_descriptor") none (Data.fields #[Value.str (ofString "__dict__") 702, Value.ref 363, Value.builtin "function.__dict__", Value.builtin "function.__dict__#set"]) #[]
noncomputable def o418 (P : Params) : Obj := Obj.mk (Value.type "getset_descriptor") none (Data.fields #[Value.str (ofString "__weakref__") 704, Value.ref 363, Value.builtin "ExceptionGroup.__weakref__", Value.none]) #[]
noncomputable def o419 (P : Params) : Obj := Obj.mk (Value.type "super") none (Data.fields #[Value.ref 363, Value.ref 363, Value.ref 363]) #[]
noncomputable def o420 (P : Params) : Obj := Obj.mk (Value.type "builtin_function_or_method") none (Data.fields #[Value.builtin "object.__init_subclass__", Value.ref 363]) #[]
noncomputable def o421 (P : Params) : Obj := Obj.mk (Value.type "dict") none (Data.dict #[DictEntry.mk (keyHash P (ofString "__name__")) (Value.str (ofString "__name__") 165) (Value.str (ofString "thinstack.reassembly") 638), DictEntry.mk (keyHash P (ofString "__doc__")) (Value.str (ofString "__doc__") 166) Value.none, DictEntry.mk (keyHash P (ofString "__package__")) (Value.str (ofString "__package__") 167) Value.none, DictEntry.mk (keyHash P (ofString "__loader__")) (Value.str (ofString "__loader__") 168) (Value.builtin "__main__.__loader__#opaque"), DictEntry.mk (keyHash P (ofString "__spec__")) (Value.str (ofString "__spec__") 169) Value.none, DictEntry.mk (keyHash P (ofString "__annotations__")) (Value.str (ofString "__annotations__") 170) (Value.ref 6), DictEntry.mk (keyHash P (ofString "__builtins__")) (Value.str (ofString "__builtins__") 171) (Value.ref 4), DictEntry.mk (keyHash P (ofString "__file__")) (Value.str (ofString "__file__") 173) (Value.str (ofString "/claim/cut.py") 172), DictEntry.mk (keyHash P (ofString "__cached__")) (Value.str (ofString "__cached__") 174) Value.none, DictEntry.mk (keyHash P (ofString "_wall")) (Value.str (ofString "_wall") 193) (Value.ref 21), DictEntry.mk (keyHash P (ofString "StackError")) (Value.str (ofString "StackError") 224) (Value.ref 38), DictEntry.mk (keyHash P (ofString "FormError")) (Value.str (ofString "FormError") 240) (Value.ref 51), DictEntry.mk (keyHash P (ofString "SizeError")) (Value.str (ofString "SizeError") 256) (Value.ref 63), DictEntry.mk (keyHash P (ofString "put16")) (Value.str (ofString "put16") 265) (Value.ref 72), DictEntry.mk (keyHash P (ofString "put32")) (Value.str (ofString "put32") 272) (Value.ref 79), DictEntry.mk (keyHash P (ofString "need")) (Value.str (ofString "need") 281) (Value.ref 86), DictEntry.mk (keyHash P (ofString "get16")) (Value.str (ofString "get16") 289) (Value.ref 93), DictEntry.mk (keyHash P (ofString "get32")) (Value.str (ofString "get32") 297) (Value.ref 100), DictEntry.mk (keyHash P (ofString "ALL_ONES")) (Value.str (ofString "ALL_ONES") 301) (Value.int 65535 300), DictEntry.mk (keyHash P (ofString "fold")) (Value.str (ofString "fold") 308) (Value.ref 107), DictEntry.mk (keyHash P (ofString "ones_sum")) (Value.str (ofString "ones_sum") 320) (Value.ref 115), DictEntry.mk (keyHash P (ofString "checksum")) (Value.str (ofString "checksum") 329) (Value.ref 123), DictEntry.mk (keyHash P (ofString "adjusted")) (Value.str (ofString "adjusted") 338) (Value.ref 130), DictEntry.mk (keyHash P (ofString "VERSION")) (Value.str (ofString "VERSION") 342) (Value.int 4 341), DictEntry.mk (keyHash P (ofString "LEAST_HEAD")) (Value.str (ofString "LEAST_HEAD") 344) (Value.int 20 343), DictEntry.mk (keyHash P (ofString "MOST_HEAD")) (Value.str (ofString "MOST_HEAD") 346) (Value.int 60 345), DictEntry.mk (keyHash P (ofString "MOST_TOTAL")) (Value.str (ofString "MOST_TOTAL") 348) (Value.int 65535 347), DictEntry.mk (keyHash P (ofString "DONT_BIT")) (Value.str (ofString "DONT_BIT") 350) (Value.int 16384 349), DictEntry.mk (keyHash P (ofString "MORE_BIT")) (Value.str (ofString "MORE_BIT") 352) (Value.int 8192 351), DictEntry.mk (keyHash P (ofString "PLACE_BITS")) (Value.str (ofString "PLACE_BITS") 354) (Value.int 8191 353), DictEntry.mk (keyHash P (ofString "TTL_PLACE")) (Value.str (ofString "TTL_PLACE") 356) (Value.int 8 355), DictEntry.mk (keyHash P (ofString "SUM_PLACE")) (Value.str (ofString "SUM_PLACE") 358) (Value.int 10 357), DictEntry.mk (keyHash P (ofString "IpHeader")) (Value.str (ofString "IpHeader") 448) (Value.ref 183), DictEntry.mk (keyHash P (ofString "is_within")) (Value.str (ofString "is_within") 456) (Value.ref 194), DictEntry.mk (keyHash P (ofString "check_fields")) (Value.str (ofString "check_fields") 464) (Value.ref 201), DictEntry.mk (keyHash P (ofString "check_size")) (Value.str (ofString "check_size") 472) (Value.ref 208), DictEntry.mk (keyHash P (ofString "flags_of")) (Value.str (ofString "flags_of") 480) (Value.ref 215), DictEntry.mk (keyHash P (ofString "pack_ip")) (Value.str (ofString "pack_ip") 493) (Value.ref 222), DictEntry.mk (keyHash P (ofString "head_size")) (Value.str (ofString "head_size") 501) (Value.ref 229), DictEntry.mk (keyHash P (ofString "unpack_ip")) (Value.str (ofString "unpack_ip") 513) (Value.ref 236), DictEntry.mk (keyHash P (ofString "lessened_octets")) (Value.str (ofString "lessened_octets") 523) (Value.ref 243), DictEntry.mk (keyHash P (ofString "END")) (Value.str (ofString "END") 527) (Value.int 0 526), DictEntry.mk (keyHash P (ofString "NOTHING")) (Value.str (ofString "NOTHING") 529) (Value.int 1 528), DictEntry.mk (keyHash P (ofString "MOST_OPTIONS")) (Value.str (ofString "MOST_OPTIONS") 531) (Value.int 40 530), DictEntry.mk (keyHash P (ofString "COPY_BIT")) (Value.str (ofString "COPY_BIT") 533) (Value.int 128 532), DictEntry.mk (keyHash P (ofString "is_single")) (Value.str (ofString "is_single") 540) (Value.ref 250), DictEntry.mk (keyHash P (ofString "read_options")) (Value.str (ofString "read_options") 551) (Value.ref 257), DictEntry.mk (keyHash P (ofString "size_at")) (Value.str (ofString "size_at") 560) (Value.ref 264), DictEntry.mk (keyHash P (ofString "write_options")) (Value.str (ofString "write_options") 570) (Value.ref 271), DictEntry.mk (keyHash P (ofString "option_octets")) (Value.str (ofString "option_octets") 578) (Value.ref 278), DictEntry.mk (keyHash P (ofString "is_copied")) (Value.str (ofString "is_copied") 585) (Value.ref 285), DictEntry.mk (keyHash P (ofString "copied")) (Value.str (ofString "copied") 591) (Value.ref 290), DictEntry.mk (keyHash P (ofString "STEP_fragments")) (Value.str (ofString "STEP_fragments") 595) (Value.int 8 594), DictEntry.mk (keyHash P (ofString "later_options")) (Value.str (ofString "later_options") 602) (Value.ref 297), DictEntry.mk (keyHash P (ofString "part_header")) (Value.str (ofString "part_header") 612) (Value.ref 304), DictEntry.mk (keyHash P (ofString "room_of")) (Value.str (ofString "room_of") 621) (Value.ref 311), DictEntry.mk (keyHash P (ofString "cut")) (Value.str (ofString "cut") 637) (Value.ref 318), DictEntry.mk (keyHash P (ofString "STEP_reassembly")) (Value.str (ofString "STEP_reassembly") 641) (Value.int 8 640), DictEntry.mk (keyHash P (ofString "Holes")) (Value.str (ofString "Holes") 708) (Value.ref 363), DictEntry.mk (keyHash P (ofString "Datagram")) (Value.str (ofString "Datagram") 788) (Value.ref 417)] 60) #[]
noncomputable def o422 (P : Params) : Obj := Obj.mk Value.none none (Data.fields #[Value.int 1 0, Value.int 0 0, Value.ref 20, Value.int 5 0, Value.int 0 0, Value.ref 27, Value.int 9 0, Value.int 0 0, Value.ref 47, Value.int 11 0, Value.int 0 0, Value.ref 59, Value.int 14 0, Value.int 0 0, Value.ref 71, Value.int 16 0, Value.int 0 0, Value.ref 78, Value.int 18 0, Value.int 0 0, Value.ref 85, Value.int 21 0, Value.int 0 0, Value.ref 92, Value.int 24 0, Value.int 0 0, Value.ref 99, Value.int 29 0, Value.int 0 0, Value.ref 106, Value.int 33 0, Value.int 0 0, Value.ref 114, Value.int 41 0, Value.int 0 0, Value.ref 122, Value.int 43 0, Value.int 0 0, Value.ref 129, Value.int 55 0, Value.int 0 0, Value.ref 136, Value.int 83 0, Value.int 0 0, Value.ref 193, Value.int 85 0, Value.int 0 0, Value.ref 200, Value.int 96 0, Value.int 0 0, Value.ref 207, Value.int 101 0, Value.int 0 0, Value.ref 214, Value.int 108 0, Value.int 0 0, Value.ref 221, Value.int 117 0, Value.int 0 0, Value.ref 228, Value.int 126 0, Value.int 0 0, Value.ref 235, Value.int 137 0, Value.int 0 0, Value.ref 242, Value.int 150 0, Value.int 0 0, Value.ref 249, Value.int 152 0, Value.int 0 0, Value.ref 256, Value.int 165 0, Value.int 0 0, Value.ref 263, Value.int 172 0, Value.int 0 0, Value.ref 270, Value.int 180 0, Value.int 0 0, Value.ref 277, Value.int 190 0, Value.int 0 0, Value.ref 284, Value.int 192 0, Value.int 0 0, Value.ref 289, Value.int 196 0, Value.int 0 0, Value.ref 296, Value.int 201 0, Value.int 0 0, Value.ref 303, Value.int 203 0, Value.int 0 0, Value.ref 310, Value.int 208 0, Value.int 0 0, Value.ref 317, Value.int 229 0, Value.int 0 0, Value.ref 324, Value.int 262 0, Value.int 0 0, Value.ref 373]) #[]
noncomputable def o423 (P : Params) : Obj := Obj.mk (Value.type "tuple") none (Data.seq #[]) #[]
noncomputable def o424 (P : Params) : Obj := Obj.mk (Value.type "builtin_function_or_method") none (Data.fields #[Value.builtin "type.__prepare__", Value.type "type"]) #[]
noncomputable def o425 (P : Params) : Obj := Obj.mk (Value.type "dict") none (Data.dict #[DictEntry.mk (keyHash P (ofString "__module__")) (Value.str (ofString "__module__") 716) (Value.str (ofString "thinstack.reassembly") 638), DictEntry.mk (keyHash P (ofString "__qualname__")) (Value.str (ofString "__qualname__") 718) (Value.str (ofString "Datagram") 717), DictEntry.mk (keyHash P (ofString "__firstlineno__")) (Value.str (ofString "__firstlineno__") 720) (Value.int 262 719), DictEntry.mk (keyHash P (ofString "__init__")) (Value.str (ofString "__init__") 729) (Value.ref 381), DictEntry.mk (keyHash P (ofString "is_against")) (Value.str (ofString "is_against") 739) (Value.ref 388), DictEntry.mk (keyHash P (ofString "put")) (Value.str (ofString "put") 752) (Value.ref 395), DictEntry.mk (keyHash P (ofString "is_whole")) (Value.str (ofString "is_whole") 759) (Value.ref 402), DictEntry.mk (keyHash P (ofString "octets")) (Value.str (ofString "octets") 765) (Value.ref 407), DictEntry.mk (keyHash P (ofString "told_octets")) (Value.str (ofString "told_octets") 772) (Value.ref 414), DictEntry.mk (keyHash P (ofString "__static_attributes__")) (Value.str (ofString "__static_attributes__") 781) (Value.ref 415)] 10) #[]
noncomputable def o426 (P : Params) : Obj := Obj.mk (Value.type "tuple") none (Data.seq #[]) #[]
noncomputable def o427 (P : Params) : Obj := Obj.mk Value.none none (Data.fields #[Value.int 264 0, Value.int 4 0, Value.ref 380, Value.int 274 0, Value.int 4 0, Value.ref 387, Value.int 283 0, Value.int 4 0, Value.ref 394, Value.int 300 0, Value.int 4 0, Value.ref 401, Value.int 303 0, Value.int 4 0, Value.ref 406, Value.int 306 0, Value.int 4 0, Value.ref 413]) #[]
noncomputable def o428 (P : Params) : Obj := Obj.mk (Value.type "code") none (Data.fields #[Value.str (ofString "Datagram") 711, Value.str (ofString "Datagram") 712, Value.str (ofString "/claim/cut.py") 713, Value.int 262 0, Value.int 0 0, Value.int 0 0, Value.int 0 0, Value.int 0 0, Value.ref 371, Value.bool false, Value.int 181 0, Value.ref 372, Value.none, Value.none, Value.none, Value.none, Value.int 714 0, Value.int 262 0, Value.str (ofString "/claim/cut.py") 715]) #[]
noncomputable def o429 (P : Params) : Obj := Obj.mk (Value.type "frame") none Data.plain #[some (Value.ref 373), some (Value.ref 3), some (Value.ref 370), none, some (Value.str (ofString "thinstack.reassembly") 638), none, some (Value.ref 0)]
noncomputable def o430 (P : Params) : Obj := Obj.mk (Value.type "tuple") none (Data.seq #[]) #[]
noncomputable def o431 (P : Params) : Obj := Obj.mk Value.none none (Data.fields #[]) #[]
noncomputable def o432 (P : Params) : Obj := Obj.mk (Value.type "tuple") none (Data.seq #[Value.str (ofString "self") 724, Value.str (ofString "began") 725, Value.str (ofString "most") 726]) #[]
noncomputable def o433 (P : Params) : Obj := Obj.mk (Value.type "tuple") none (Data.seq #[]) #[]
noncomputable def o434 (P : Params) : Obj := Obj.mk Value.none none (.func (fnO (clsSt 57 0) (ofString "Datagram.__init__") 0 [] Value.none Value.none Value.none Value.none none Value.none Value.none 0)) #[]
noncomputable def o435 (P : Params) : Obj := Obj.mk (Value.type "code") none (Data.fields #[Value.str (ofString "__init__") 721, Value.str (ofString "Datagram.__init__") 722, Value.str (ofString "/claim/cut.py") 723, Value.int 264 0, Value.int 3 0, Value.int 0 0, Value.int 0 0, Value.int 3 0, Value.ref 375, Value.bool true, Value.int 181 0, Value.ref 376, Value.none, Value.ref 377, Value.ref 378, Value.ref 379, Value.int 727 0, Value.int 264 0, Value.str (ofString "/claim/cut.py") 728]) #[]
noncomputable def o436 (P : Params) : Obj := Obj.mk (Value.type "function") none (.func (fnO (clsSt 57 0) (ofString "Datagram.__init__") 3 [] Value.none Value.none Value.none (Value.str (ofString "thinstack.reassembly") 638) none (Value.ref 380) Value.none 0)) #[]
noncomputable def o437 (P : Params) : Obj := Obj.mk (Value.type "tuple") none (Data.seq #[]) #[]
noncomputable def o438 (P : Params) : Obj := Obj.mk Value.none none (Data.fields #[]) #[]
noncomputable def o439 (P : Params) : Obj := Obj.mk (Value.type "tuple") none (Data.seq #[Value.str (ofString "self") 733, Value.str (ofString "begin") 734, Value.str (ofString "end") 735, Value.str (ofString "more") 736]) #[]
noncomputable def o440 (P : Params) : Obj := Obj.mk (Value.type "tuple") none (Data.seq #[]) #[]
noncomputable def o441 (P : Params) : Obj := Obj.mk Value.none none (.func (fnO (clsSt 57 1) (ofString "Datagram.is_against") 0 [] Value.none Value.none Value.none Value.none none Value.none Value.none 0)) #[]
noncomputable def o442 (P : Params) : Obj := Obj.mk (Value.type "code") none (Data.fields #[Value.str (ofString "is_against") 730, Value.str (ofString "Datagram.is_against") 731, Value.str (ofString "/claim/cut.py") 732, Value.int 274 0, Value.int 4 0, Value.int 0 0, Value.int 0 0, Value.int 3 0, Value.ref 382, Value.bool true, Value.int 181 0, Value.ref 383, Value.none, Value.ref 384, Value.ref 385, Value.ref 386, Value.int 737 0, Value.int 274 0, Value.str (ofString "/claim/cut.py") 738]) #[]
noncomputable def o443 (P : Params) : Obj := Obj.mk (Value.type "function") none (.func (fnO (clsSt 57 1) (ofString "Datagram.is_against") 3 [] Value.none Value.none Value.none (Value.str (ofString "thinstack.reassembly") 638) none (Value.ref 387) Value.none 0)) #[]
noncomputable def o444 (P : Params) : Obj := Obj.mk (Value.type "tuple") none (Data.seq #[]) #[]
noncomputable def o445 (P : Params) : Obj := Obj.mk Value.none none (Data.fields #[]) #[]
noncomputable def o446 (P : Params) : Obj := Obj.mk (Value.type "tuple") none (Data.seq #[Value.str (ofString "self") 743, Value.str (ofString "header") 744, Value.str (ofString "payload") 745, Value.str (ofString "begin") 746, Value.str (ofString "end") 747, Value.str (ofString "low") 748, Value.str (ofString "high") 749]) #[]
noncomputable def o447 (P : Params) : Obj := Obj.mk (Value.type "tuple") none (Data.seq #[]) #[]
noncomputable def o448 (P : Params) : Obj := Obj.mk Value.none none (.func (fnO (clsSt 57 2) (ofString "Datagram.put") 0 [] Value.none Value.none Value.none Value.none none Value.none Value.none 0)) #[]
noncomputable def o449 (P : Params) : Obj := Obj.mk (Value.type "code") none (Data.fields #[Value.str (ofString "put") 740, Value.str (ofString "Datagram.put") 741, Value.str (ofString "/claim/cut.py") 742, Value.int 283 0, Value.int 3 0, Value.int 0 0, Value.int 0 0, Value.int 3 0, Value.ref 389, Value.bool true, Value.int 181 0, Value.ref 390, Value.none, Value.ref 391, Value.ref 392, Value.ref 393, Value.int 750 0, Value.int 283 0, Value.str (ofString "/claim/cut.py") 751]) #[]
noncomputable def o450 (P : Params) : Obj := Obj.mk (Value.type "function") none (.func (fnO (clsSt 57 2) (ofString "Datagram.put") 3 [] Value.none Value.none Value.none (Value.str (ofString "thinstack.reassembly") 638) none (Value.ref 394) Value.none 0)) #[]
noncomputable def o451 (P : Params) : Obj := Obj.mk (Value.type "tuple") none (Data.seq #[]) #[]
noncomputable def o452 (P : Params) : Obj := Obj.mk Value.none none (Data.fields #[]) #[]
noncomputable def o453 (P : Params) : Obj := Obj.mk (Value.type "tuple") none (Data.seq #[Value.str (ofString "self") 756]) #[]
noncomputable def o454 (P : Params) : Obj := Obj.mk (Value.type "tuple") none (Data.seq #[]) #[]
noncomputable def o455 (P : Params) : Obj := Obj.mk Value.none none (.func (fnO (clsSt 57 3) (ofString "Datagram.is_whole") 0 [] Value.none Value.none Value.none Value.none none Value.none Value.none 0)) #[]
noncomputable def o456 (P : Params) : Obj := Obj.mk (Value.type "code") none (Data.fields #[Value.str (ofString "is_whole") 753, Value.str (ofString "Datagram.is_whole") 754, Value.str (ofString "/claim/cut.py") 755, Value.int 300 0, Value.int 1 0, Value.int 0 0, Value.int 0 0, Value.int 3 0, Value.ref 396, Value.bool true, Value.int 181 0, Value.ref 397, Value.none, Value.ref 398, Value.ref 399, Value.ref 400, Value.int 757 0, Value.int 300 0, Value.str (ofString "/claim/cut.py") 758]) #[]
noncomputable def o457 (P : Params) : Obj := Obj.mk (Value.type "function") none (.func (fnO (clsSt 57 3) (ofString "Datagram.is_whole") 3 [] Value.none Value.none Value.none (Value.str (ofString "thinstack.reassembly") 638) none (Value.ref 401) Value.none 0)) #[]
noncomputable def o458 (P : Params) : Obj := Obj.mk (Value.type "tuple") none (Data.seq #[]) #[]
noncomputable def o459 (P : Params) : Obj := Obj.mk Value.none none (Data.fields #[]) #[]
noncomputable def o460 (P : Params) : Obj := Obj.mk Value.none none (.func (fnO (clsSt 57 4) (ofString "Datagram.octets") 0 [] Value.none Value.none Value.none Value.none none Value.none Value.none 0)) #[]
noncomputable def o461 (P : Params) : Obj := Obj.mk (Value.type "code") none (Data.fields #[Value.str (ofString "octets") 760, Value.str (ofString "Datagram.octets") 761, Value.str (ofString "/claim/cut.py") 762, Value.int 303 0, Value.int 1 0, Value.int 0 0, Value.int 0 0, Value.int 3 0, Value.ref 403, Value.bool true, Value.int 181 0, Value.ref 404, Value.none, Value.none, Value.none, Value.ref 405, Value.int 763 0, Value.int 303 0, Value.str (ofString "/claim/cut.py") 764]) #[]
noncomputable def o462 (P : Params) : Obj := Obj.mk (Value.type "function") none (.func (fnO (clsSt 57 4) (ofString "Datagram.octets") 3 [] Value.none Value.none Value.none (Value.str (ofString "thinstack.reassembly") 638) none (Value.ref 406) Value.none 0)) #[]
noncomputable def o463 (P : Params) : Obj := Obj.mk (Value.type "tuple") none (Data.seq #[]) #[]
noncomputable def o464 (P : Params) : Obj := Obj.mk Value.none none (Data.fields #[]) #[]
noncomputable def o465 (P : Params) : Obj := Obj.mk (Value.type "tuple") none (Data.seq #[Value.str (ofString "self") 769]) #[]
noncomputable def o466 (P : Params) : Obj := Obj.mk (Value.type "tuple") none (Data.seq #[]) #[]
noncomputable def o467 (P : Params) : Obj := Obj.mk Value.none none (.func (fnO (clsSt 57 5) (ofString "Datagram.told_octets") 0 [] Value.none Value.none Value.none Value.none none Value.none Value.none 0)) #[]
noncomputable def o468 (P : Params) : Obj := Obj.mk (Value.type "code") none (Data.fields #[Value.str (ofString "told_octets") 766, Value.str (ofString "Datagram.told_octets") 767, Value.str (ofString "/claim/cut.py") 768, Value.int 306 0, Value.int 1 0, Value.int 0 0, Value.int 0 0, Value.int 3 0, Value.ref 408, Value.bool true, Value.int 181 0, Value.ref 409, Value.none, Value.ref 410, Value.ref 411, Value.ref 412, Value.int 770 0, Value.int 306 0, Value.str (ofString "/claim/cut.py") 771]) #[]
noncomputable def o469 (P : Params) : Obj := Obj.mk (Value.type "function") none (.func (fnO (clsSt 57 5) (ofString "Datagram.told_octets") 3 [] Value.none Value.none Value.none (Value.str (ofString "thinstack.reassembly") 638) none (Value.ref 413) Value.none 0)) #[]
noncomputable def o470 (P : Params) : Obj := Obj.mk (Value.type "tuple") none (Data.seq #[Value.str (ofString "ahead") 773, Value.str (ofString "began") 774, Value.str (ofString "end") 775, Value.str (ofString "first") 776, Value.str (ofString "holes") 777, Value.str (ofString "most") 778, Value.str (ofString "parts") 779, Value.str (ofString "size") 780]) #[]
noncomputable def o471 (P : Params) : Obj := Obj.mk (Value.type "dict") none (Data.dict #[DictEntry.mk (keyHash P (ofString "__module__")) (Value.str (ofString "__module__") 716) (Value.str (ofString "thinstack.reassembly") 638), DictEntry.mk (keyHash P (ofString "__firstlineno__")) (Value.str (ofString "__firstlineno__") 720) (Value.int 262 719), DictEntry.mk (keyHash P (ofString "__init__")) (Value.str (ofString "__init__") 729) (Value.ref 381), DictEntry.mk (keyHash P (ofString "is_against")) (Value.str (ofString "is_against") 739) (Value.ref 388), DictEntry.mk (keyHash P (ofString "put")) (Value.str (ofString "put") 752) (Value.ref 395), DictEntry.mk (keyHash P (ofString "is_whole")) (Value.str (ofString "is_whole") 759) (Value.ref 402), DictEntry.mk (keyHash P (ofString "octets")) (Value.str (ofString "octets") 765) (Value.ref 407), DictEntry.mk (keyHash P (ofString "told_octets")) (Value.str (ofString "told_octets") 772) (Value.ref 414), DictEntry.mk (keyHash P (ofString "__static_attributes__")) (Value.str (ofString "__static_attributes__") 781) (Value.ref 415), DictEntry.mk (keyHash P (ofString "__dict__")) (Value.str (ofString "__dict__") 783) (Value.ref 418), DictEntry.mk (keyHash P (ofString "__weakref__")) (Value.str (ofString "__weakref__") 785) (Value.ref 419), DictEntry.mk (keyHash P (ofString "__doc__")) (Value.str (ofString "__doc__") 786) Value.none] 4) #[]
noncomputable def o472 (P : Params) : Obj := Obj.mk (Value.type "type") none (Data.cls (ClassData.mk (ofString "Datagram") [Value.type "object"] [Value.ref 417, Value.type "object"] 416 (ofString "Datagram") true [] [] false none false)) #[none, none, some (Value.str (ofString "Datagram") 709), some (Value.str (ofString "Datagram") 717), some (Value.builtin "object.__new__"), some (Value.bool true)]
noncomputable def o473 (P : Params) : Obj := Obj.mk (Value.type "getset_descriptor") none (Data.fields #[Value.str (ofString "__dict__") 782, Value.ref 417, Value.builtin "function.__dict__", Value.builtin "function.__dict__#set"]) #[]
noncomputable def o474 (P : Params) : Obj := Obj.mk (Value.type "getset_descriptor") none (Data.fields #[Value.str (ofString "__weakref__") 784, Value.ref 417, Value.builtin "ExceptionGroup.__weakref__", Value.none]) #[]
noncomputable def o475 (P : Params) : Obj := Obj.mk (Value.type "super") none (Data.fields #[Value.ref 417, Value.ref 417, Value.ref 417]) #[]
noncomputable def o476 (P : Params) : Obj := Obj.mk (Value.type "builtin_function_or_method") none (Data.fields #[Value.builtin "object.__init_subclass__", Value.ref 417]) #[]
noncomputable def o477 (P : Params) : Obj := Obj.mk (Value.type "dict") none (Data.dict #[DictEntry.mk (keyHash P (ofString "__name__")) (Value.str (ofString "__name__") 165) (Value.str (ofString "thinstack.reassembly") 638), DictEntry.mk (keyHash P (ofString "__doc__")) (Value.str (ofString "__doc__") 166) Value.none, DictEntry.mk (keyHash P (ofString "__package__")) (Value.str (ofString "__package__") 167) Value.none, DictEntry.mk (keyHash P (ofString "__loader__")) (Value.str (ofString "__loader__") 168) (Value.builtin "__main__.__loader__#opaque"), DictEntry.mk (keyHash P (ofString "__spec__")) (Value.str (ofString "__spec__") 169) Value.none, DictEntry.mk (keyHash P (ofString "__annotations__")) (Value.str (ofString "__annotations__") 170) (Value.ref 6), DictEntry.mk (keyHash P (ofString "__builtins__")) (Value.str (ofString "__builtins__") 171) (Value.ref 4), DictEntry.mk (keyHash P (ofString "__file__")) (Value.str (ofString "__file__") 173) (Value.str (ofString "/claim/cut.py") 172), DictEntry.mk (keyHash P (ofString "__cached__")) (Value.str (ofString "__cached__") 174) Value.none, DictEntry.mk (keyHash P (ofString "_wall")) (Value.str (ofString "_wall") 193) (Value.ref 21), DictEntry.mk (keyHash P (ofString "StackError")) (Value.str (ofString "StackError") 224) (Value.ref 38), DictEntry.mk (keyHash P (ofString "FormError")) (Value.str (ofString "FormError") 240) (Value.ref 51), DictEntry.mk (keyHash P (ofString "SizeError")) (Value.str (ofString "SizeError") 256) (Value.ref 63), DictEntry.mk (keyHash P (ofString "put16")) (Value.str (ofString "put16") 265) (Value.ref 72), DictEntry.mk (keyHash P (ofString "put32")) (Value.str (ofString "put32") 272) (Value.ref 79), DictEntry.mk (keyHash P (ofString "need")) (Value.str (ofString "need") 281) (Value.ref 86), DictEntry.mk (keyHash P (ofString "get16")) (Value.str (ofString "get16") 289) (Value.ref 93), DictEntry.mk (keyHash P (ofString "get32")) (Value.str (ofString "get32") 297) (Value.ref 100), DictEntry.mk (keyHash P (ofString "ALL_ONES")) (Value.str (ofString "ALL_ONES") 301) (Value.int 65535 300), DictEntry.mk (keyHash P (ofString "fold")) (Value.str (ofString "fold") 308) (Value.ref 107), DictEntry.mk (keyHash P (ofString "ones_sum")) (Value.str (ofString "ones_sum") 320) (Value.ref 115), DictEntry.mk (keyHash P (ofString "checksum")) (Value.str (ofString "checksum") 329) (Value.ref 123), DictEntry.mk (keyHash P (ofString "adjusted")) (Value.str (ofString "adjusted") 338) (Value.ref 130), DictEntry.mk (keyHash P (ofString "VERSION")) (Value.str (ofString "VERSION") 342) (Value.int 4 341), DictEntry.mk (keyHash P (ofString "LEAST_HEAD")) (Value.str (ofString "LEAST_HEAD") 344) (Value.int 20 343), DictEntry.mk (keyHash P (ofString "MOST_HEAD")) (Value.str (ofString "MOST_HEAD") 346) (Value.int 60 345), DictEntry.mk (keyHash P (ofString "MOST_TOTAL")) (Value.str (ofString "MOST_TOTAL") 348) (Value.int 65535 347), DictEntry.mk (keyHash P (ofString "DONT_BIT")) (Value.str (ofString "DONT_BIT") 350) (Value.int 16384 349), DictEntry.mk (keyHash P (ofString "MORE_BIT")) (Value.str (ofString "MORE_BIT") 352) (Value.int 8192 351), DictEntry.mk (keyHash P (ofString "PLACE_BITS")) (Value.str (ofString "PLACE_BITS") 354) (Value.int 8191 353), DictEntry.mk (keyHash P (ofString "TTL_PLACE")) (Value.str (ofString "TTL_PLACE") 356) (Value.int 8 355), DictEntry.mk (keyHash P (ofString "SUM_PLACE")) (Value.str (ofString "SUM_PLACE") 358) (Value.int 10 357), DictEntry.mk (keyHash P (ofString "IpHeader")) (Value.str (ofString "IpHeader") 448) (Value.ref 183), DictEntry.mk (keyHash P (ofString "is_within")) (Value.str (ofString "is_within") 456) (Value.ref 194), DictEntry.mk (keyHash P (ofString "check_fields")) (Value.str (ofString "check_fields") 464) (Value.ref 201), DictEntry.mk (keyHash P (ofString "check_size")) (Value.str (ofString "check_size") 472) (Value.ref 208), DictEntry.mk (keyHash P (ofString "flags_of")) (Value.str (ofString "flags_of") 480) (Value.ref 215), DictEntry.mk (keyHash P (ofString "pack_ip")) (Value.str (ofString "pack_ip") 493) (Value.ref 222), DictEntry.mk (keyHash P (ofString "head_size")) (Value.str (ofString "head_size") 501) (Value.ref 229), DictEntry.mk (keyHash P (ofString "unpack_ip")) (Value.str (ofString "unpack_ip") 513) (Value.ref 236), DictEntry.mk (keyHash P (ofString "lessened_octets")) (Value.str (ofString "lessened_octets") 523) (Value.ref 243), DictEntry.mk (keyHash P (ofString "END")) (Value.str (ofString "END") 527) (Value.int 0 526), DictEntry.mk (keyHash P (ofString "NOTHING")) (Value.str (ofString "NOTHING") 529) (Value.int 1 528), DictEntry.mk (keyHash P (ofString "MOST_OPTIONS")) (Value.str (ofString "MOST_OPTIONS") 531) (Value.int 40 530), DictEntry.mk (keyHash P (ofString "COPY_BIT")) (Value.str (ofString "COPY_BIT") 533) (Value.int 128 532), DictEntry.mk (keyHash P (ofString "is_single")) (Value.str (ofString "is_single") 540) (Value.ref 250), DictEntry.mk (keyHash P (ofString "read_options")) (Value.str (ofString "read_options") 551) (Value.ref 257), DictEntry.mk (keyHash P (ofString "size_at")) (Value.str (ofString "size_at") 560) (Value.ref 264), DictEntry.mk (keyHash P (ofString "write_options")) (Value.str (ofString "write_options") 570) (Value.ref 271), DictEntry.mk (keyHash P (ofString "option_octets")) (Value.str (ofString "option_octets") 578) (Value.ref 278), DictEntry.mk (keyHash P (ofString "is_copied")) (Value.str (ofString "is_copied") 585) (Value.ref 285), DictEntry.mk (keyHash P (ofString "copied")) (Value.str (ofString "copied") 591) (Value.ref 290), DictEntry.mk (keyHash P (ofString "STEP_fragments")) (Value.str (ofString "STEP_fragments") 595) (Value.int 8 594), DictEntry.mk (keyHash P (ofString "later_options")) (Value.str (ofString "later_options") 602) (Value.ref 297), DictEntry.mk (keyHash P (ofString "part_header")) (Value.str (ofString "part_header") 612) (Value.ref 304), DictEntry.mk (keyHash P (ofString "room_of")) (Value.str (ofString "room_of") 621) (Value.ref 311), DictEntry.mk (keyHash P (ofString "cut")) (Value.str (ofString "cut") 637) (Value.ref 318), DictEntry.mk (keyHash P (ofString "STEP_reassembly")) (Value.str (ofString "STEP_reassembly") 641) (Value.int 8 640), DictEntry.mk (keyHash P (ofString "Holes")) (Value.str (ofString "Holes") 708) (Value.ref 363), DictEntry.mk (keyHash P (ofString "Datagram")) (Value.str (ofString "Datagram") 788) (Value.ref 417), DictEntry.mk (keyHash P (ofString "whole_header")) (Value.str (ofString "whole_header") 795) (Value.ref 428), DictEntry.mk (keyHash P (ofString "key_of")) (Value.str (ofString "key_of") 802) (Value.ref 435), DictEntry.mk (keyHash P (ofString "is_bad_piece")) (Value.str (ofString "is_bad_piece") 810) (Value.ref 442)] 63) #[]
noncomputable def o478 (P : Params) : Obj := Obj.mk Value.none none (Data.fields #[Value.int 1 0, Value.int 0 0, Value.ref 20, Value.int 5 0, Value.int 0 0, Value.ref 27, Value.int 9 0, Value.int 0 0, Value.ref 47, Value.int 11 0, Value.int 0 0, Value.ref 59, Value.int 14 0, Value.int 0 0, Value.ref 71, Value.int 16 0, Value.int 0 0, Value.ref 78, Value.int 18 0, Value.int 0 0, Value.ref 85, Value.int 21 0, Value.int 0 0, Value.ref 92, Value.int 24 0, Value.int 0 0, Value.ref 99, Value.int 29 0, Value.int 0 0, Value.ref 106, Value.int 33 0, Value.int 0 0, Value.ref 114, Value.int 41 0, Value.int 0 0, Value.ref 122, Value.int 43 0, Value.int 0 0, Value.ref 129, Value.int 55 0, Value.int 0 0, Value.ref 136, Value.int 83 0, Value.int 0 0, Value.ref 193, Value.int 85 0, Value.int 0 0, Value.ref 200, Value.int 96 0, Value.int 0 0, Value.ref 207, Value.int 101 0, Value.int 0 0, Value.ref 214, Value.int 108 0, Value.int 0 0, Value.ref 221, Value.int 117 0, Value.int 0 0, Value.ref 228, Value.int 126 0, Value.int 0 0, Value.ref 235, Value.int 137 0, Value.int 0 0, Value.ref 242, Value.int 150 0, Value.int 0 0, Value.ref 249, Value.int 152 0, Value.int 0 0, Value.ref 256, Value.int 165 0, Value.int 0 0, Value.ref 263, Value.int 172 0, Value.int 0 0, Value.ref 270, Value.int 180 0, Value.int 0 0, Value.ref 277, Value.int 190 0, Value.int 0 0, Value.ref 284, Value.int 192 0, Value.int 0 0, Value.ref 289, Value.int 196 0, Value.int 0 0, Value.ref 296, Value.int 201 0, Value.int 0 0, Value.ref 303, Value.int 203 0, Value.int 0 0, Value.ref 310, Value.int 208 0, Value.int 0 0, Value.ref 317, Value.int 229 0, Value.int 0 0, Value.ref 324, Value.int 262 0, Value.int 0 0, Value.ref 373, Value.int 308 0, Value.int 0 0, Value.ref 427, Value.int 310 0, Value.int 0 0, Value.ref 434, Value.int 312 0, Value.int 0 0, Value.ref 441]) #[]
noncomputable def o479 (P : Params) : Obj := Obj.mk (Value.type "tuple") none (Data.seq #[]) #[]
noncomputable def o480 (P : Params) : Obj := Obj.mk Value.none none (Data.fields #[]) #[]
noncomputable def o481 (P : Params) : Obj := Obj.mk (Value.type "tuple") none (Data.seq #[Value.str (ofString "header") 792]) #[]
noncomputable def o482 (P : Params) : Obj := Obj.mk (Value.type "tuple") none (Data.seq #[]) #[]
noncomputable def o483 (P : Params) : Obj := Obj.mk Value.none none (.func (fnO (topSt 58) (ofString "whole_header") 0 [] Value.none Value.none Value.none Value.none none Value.none Value.none 0)) #[]
noncomputable def o484 (P : Params) : Obj := Obj.mk (Value.type "code") none (Data.fields #[Value.str (ofString "whole_header") 789, Value.str (ofString "whole_header") 790, Value.str (ofString "/claim/cut.py") 791, Value.int 308 0, Value.int 1 0, Value.int 0 0, Value.int 0 0, Value.int 3 0, Value.ref 422, Value.bool true, Value.int 181 0, Value.ref 423, Value.none, Value.ref 424, Value.ref 425, Value.ref 426, Value.int 793 0, Value.int 308 0, Value.str (ofString "/claim/cut.py") 794]) #[]
noncomputable def o485 (P : Params) : Obj := Obj.mk (Value.type "function") none (.func (fnO (topSt 58) (ofString "whole_header") 3 [] Value.none Value.none Value.none (Value.str (ofString "thinstack.reassembly") 638) none (Value.ref 427) Value.none 0)) #[]
noncomputable def o486 (P : Params) : Obj := Obj.mk (Value.type "tuple") none (Data.seq #[]) #[]
noncomputable def o487 (P : Params) : Obj := Obj.mk Value.none none (Data.fields #[]) #[]
noncomputable def o488 (P : Params) : Obj := Obj.mk (Value.type "tuple") none (Data.seq #[Value.str (ofString "header") 799]) #[]
noncomputable def o489 (P : Params) : Obj := Obj.mk (Value.type "tuple") none (Data.seq #[]) #[]
noncomputable def o490 (P : Params) : Obj := Obj.mk Value.none none (.func (fnO (topSt 59) (ofString "key_of") 0 [] Value.none Value.none Value.none Value.none none Value.none Value.none 0)) #[]
noncomputable def o491 (P : Params) : Obj := Obj.mk (Value.type "code") none (Data.fields #[Value.str (ofString "key_of") 796, Value.str (ofString "key_of") 797, Value.str (ofString "/claim/cut.py") 798, Value.int 310 0, Value.int 1 0, Value.int 0 0, Value.int 0 0, Value.int 3 0, Value.ref 429, Value.bool true, Value.int 181 0, Value.ref 430, Value.none, Value.ref 431, Value.ref 432, Value.ref 433, Value.int 800 0, Value.int 310 0, Value.str (ofString "/claim/cut.py") 801]) #[]
noncomputable def o492 (P : Params) : Obj := Obj.mk (Value.type "function") none (.func (fnO (topSt 59) (ofString "key_of") 3 [] Value.none Value.none Value.none (Value.str (ofString "thinstack.reassembly") 638) none (Value.ref 434) Value.none 0)) #[]
noncomputable def o493 (P : Params) : Obj := Obj.mk (Value.type "tuple") none (Data.seq #[]) #[]
noncomputable def o494 (P : Params) : Obj := Obj.mk Value.none none (Data.fields #[]) #[]
noncomputable def o495 (P : Params) : Obj := Obj.mk (Value.type "tuple") none (Data.seq #[Value.str (ofString "header") 806, Value.str (ofString "payload") 807]) #[]
noncomputable def o496 (P : Params) : Obj := Obj.mk (Value.type "tuple") none (Data.seq #[]) #[]
noncomputable def o497 (P : Params) : Obj := Obj.mk Value.none none (.func (fnO (topSt 60) (ofString "is_bad_piece") 0 [] Value.none Value.none Value.none Value.none none Value.none Value.none 0)) #[]
noncomputable def o498 (P : Params) : Obj := Obj.mk (Value.type "code") none (Data.fields #[Value.str (ofString "is_bad_piece") 803, Value.str (ofString "is_bad_piece") 804, Value.str (ofString "/claim/cut.py") 805, Value.int 312 0, Value.int 2 0, Value.int 0 0, Value.int 0 0, Value.int 3 0, Value.ref 436, Value.bool true, Value.int 181 0, Value.ref 437, Value.none, Value.ref 438, Value.ref 439, Value.ref 440, Value.int 808 0, Value.int 312 0, Value.str (ofString "/claim/cut.py") 809]) #[]
noncomputable def o499 (P : Params) : Obj := Obj.mk (Value.type "function") none (.func (fnO (topSt 60) (ofString "is_bad_piece") 3 [] Value.none Value.none Value.none (Value.str (ofString "thinstack.reassembly") 638) none (Value.ref 441) Value.none 0)) #[]
noncomputable def o500 (P : Params) : Obj := Obj.mk (Value.type "dict") none (Data.dict #[DictEntry.mk (keyHash P (ofString "__name__")) (Value.str (ofString "__name__") 165) (Value.str (ofString "thinstack.reassembly") 638), DictEntry.mk (keyHash P (ofString "__doc__")) (Value.str (ofString "__doc__") 166) Value.none, DictEntry.mk (keyHash P (ofString "__package__")) (Value.str (ofString "__package__") 167) Value.none, DictEntry.mk (keyHash P (ofString "__loader__")) (Value.str (ofString "__loader__") 168) (Value.builtin "__main__.__loader__#opaque"), DictEntry.mk (keyHash P (ofString "__spec__")) (Value.str (ofString "__spec__") 169) Value.none, DictEntry.mk (keyHash P (ofString "__annotations__")) (Value.str (ofString "__annotations__") 170) (Value.ref 6), DictEntry.mk (keyHash P (ofString "__builtins__")) (Value.str (ofString "__builtins__") 171) (Value.ref 4), DictEntry.mk (keyHash P (ofString "__file__")) (Value.str (ofString "__file__") 173) (Value.str (ofString "/claim/cut.py") 172), DictEntry.mk (keyHash P (ofString "__cached__")) (Value.str (ofString "__cached__") 174) Value.none, DictEntry.mk (keyHash P (ofString "_wall")) (Value.str (ofString "_wall") 193) (Value.ref 21), DictEntry.mk (keyHash P (ofString "StackError")) (Value.str (ofString "StackError") 224) (Value.ref 38), DictEntry.mk (keyHash P (ofString "FormError")) (Value.str (ofString "FormError") 240) (Value.ref 51), DictEntry.mk (keyHash P (ofString "SizeError")) (Value.str (ofString "SizeError") 256) (Value.ref 63), DictEntry.mk (keyHash P (ofString "put16")) (Value.str (ofString "put16") 265) (Value.ref 72), DictEntry.mk (keyHash P (ofString "put32")) (Value.str (ofString "put32") 272) (Value.ref 79), DictEntry.mk (keyHash P (ofString "need")) (Value.str (ofString "need") 281) (Value.ref 86), DictEntry.mk (keyHash P (ofString "get16")) (Value.str (ofString "get16") 289) (Value.ref 93), DictEntry.mk (keyHash P (ofString "get32")) (Value.str (ofString "get32") 297) (Value.ref 100), DictEntry.mk (keyHash P (ofString "ALL_ONES")) (Value.str (ofString "ALL_ONES") 301) (Value.int 65535 300), DictEntry.mk (keyHash P (ofString "fold")) (Value.str (ofString "fold") 308) (Value.ref 107), DictEntry.mk (keyHash P (ofString "ones_sum")) (Value.str (ofString "ones_sum") 320) (Value.ref 115), DictEntry.mk (keyHash P (ofString "checksum")) (Value.str (ofString "checksum") 329) (Value.ref 123), DictEntry.mk (keyHash P (ofString "adjusted")) (Value.str (ofString "adjusted") 338) (Value.ref 130), DictEntry.mk (keyHash P (ofString "VERSION")) (Value.str (ofString "VERSION") 342) (Value.int 4 341), DictEntry.mk (keyHash P (ofString "LEAST_HEAD")) (Value.str (ofString "LEAST_HEAD") 344) (Value.int 20 343), DictEntry.mk (keyHash P (ofString "MOST_HEAD")) (Value.str (ofString "MOST_HEAD") 346) (Value.int 60 345), DictEntry.mk (keyHash P (ofString "MOST_TOTAL")) (Value.str (ofString "MOST_TOTAL") 348) (Value.int 65535 347), DictEntry.mk (keyHash P (ofString "DONT_BIT")) (Value.str (ofString "DONT_BIT") 350) (Value.int 16384 349), DictEntry.mk (keyHash P (ofString "MORE_BIT")) (Value.str (ofString "MORE_BIT") 352) (Value.int 8192 351), DictEntry.mk (keyHash P (ofString "PLACE_BITS")) (Value.str (ofString "PLACE_BITS") 354) (Value.int 8191 353), DictEntry.mk (keyHash P (ofString "TTL_PLACE")) (Value.str (ofString "TTL_PLACE") 356) (Value.int 8 355), DictEntry.mk (keyHash P (ofString "SUM_PLACE")) (Value.str (ofString "SUM_PLACE") 358) (Value.int 10 357), DictEntry.mk (keyHash P (ofString "IpHeader")) (Value.str (ofString "IpHeader") 448) (Value.ref 183), DictEntry.mk (keyHash P (ofString "is_within")) (Value.str (ofString "is_within") 456) (Value.ref 194), DictEntry.mk (keyHash P (ofString "check_fields")) (Value.str (ofString "check_fields") 464) (Value.ref 201), DictEntry.mk (keyHash P (ofString "check_size")) (Value.str (ofString "check_size") 472) (Value.ref 208), DictEntry.mk (keyHash P (ofString "flags_of")) (Value.str (ofString "flags_of") 480) (Value.ref 215), DictEntry.mk (keyHash P (ofString "pack_ip")) (Value.str (ofString "pack_ip") 493) (Value.ref 222), DictEntry.mk (keyHash P (ofString "head_size")) (Value.str (ofString "head_size") 501) (Value.ref 229), DictEntry.mk (keyHash P (ofString "unpack_ip")) (Value.str (ofString "unpack_ip") 513) (Value.ref 236), DictEntry.mk (keyHash P (ofString "lessened_octets")) (Value.str (ofString "lessened_octets") 523) (Value.ref 243), DictEntry.mk (keyHash P (ofString "END")) (Value.str (ofString "END") 527) (Value.int 0 526), DictEntry.mk (keyHash P (ofString "NOTHING")) (Value.str (ofString "NOTHING") 529) (Value.int 1 528), DictEntry.mk (keyHash P (ofString "MOST_OPTIONS")) (Value.str (ofString "MOST_OPTIONS") 531) (Value.int 40 530), DictEntry.mk (keyHash P (ofString "COPY_BIT")) (Value.str (ofString "COPY_BIT") 533) (Value.int 128 532), DictEntry.mk (keyHash P (ofString "is_single")) (Value.str (ofString "is_single") 540) (Value.ref 250), DictEntry.mk (keyHash P (ofString "read_options")) (Value.str (ofString "read_options") 551) (Value.ref 257), DictEntry.mk (keyHash P (ofString "size_at")) (Value.str (ofString "size_at") 560) (Value.ref 264), DictEntry.mk (keyHash P (ofString "write_options")) (Value.str (ofString "write_options") 570) (Value.ref 271), DictEntry.mk (keyHash P (ofString "option_octets")) (Value.str (ofString "option_octets") 578) (Value.ref 278), DictEntry.mk (keyHash P (ofString "is_copied")) (Value.str (ofString "is_copied") 585) (Value.ref 285), DictEntry.mk (keyHash P (ofString "copied")) (Value.str (ofString "copied") 591) (Value.ref 290), DictEntry.mk (keyHash P (ofString "STEP_fragments")) (Value.str (ofString "STEP_fragments") 595) (Value.int 8 594), DictEntry.mk (keyHash P (ofString "later_options")) (Value.str (ofString "later_options") 602) (Value.ref 297), DictEntry.mk (keyHash P (ofString "part_header")) (Value.str (ofString "part_header") 612) (Value.ref 304), DictEntry.mk (keyHash P (ofString "room_of")) (Value.str (ofString "room_of") 621) (Value.ref 311), DictEntry.mk (keyHash P (ofString "cut")) (Value.str (ofString "cut") 637) (Value.ref 318), DictEntry.mk (keyHash P (ofString "STEP_reassembly")) (Value.str (ofString "STEP_reassembly") 641) (Value.int 8 640), DictEntry.mk (keyHash P (ofString "Holes")) (Value.str (ofString "Holes") 708) (Value.ref 363), DictEntry.mk (keyHash P (ofString "Datagram")) (Value.str (ofString "Datagram") 788) (Value.ref 417), DictEntry.mk (keyHash P (ofString "whole_header")) (Value.str (ofString "whole_header") 795) (Value.ref 428), DictEntry.mk (keyHash P (ofString "key_of")) (Value.str (ofString "key_of") 802) (Value.ref 435), DictEntry.mk (keyHash P (ofString "is_bad_piece")) (Value.str (ofString "is_bad_piece") 810) (Value.ref 442), DictEntry.mk (keyHash P (ofString "Reassembly")) (Value.str (ofString "Reassembly") 892) (Value.ref 500)] 64) #[]
noncomputable def o501 (P : Params) : Obj := Obj.mk Value.none none (Data.fields #[Value.int 1 0, Value.int 0 0, Value.ref 20, Value.int 5 0, Value.int 0 0, Value.ref 27, Value.int 9 0, Value.int 0 0, Value.ref 47, Value.int 11 0, Value.int 0 0, Value.ref 59, Value.int 14 0, Value.int 0 0, Value.ref 71, Value.int 16 0, Value.int 0 0, Value.ref 78, Value.int 18 0, Value.int 0 0, Value.ref 85, Value.int 21 0, Value.int 0 0, Value.ref 92, Value.int 24 0, Value.int 0 0, Value.ref 99, Value.int 29 0, Value.int 0 0, Value.ref 106, Value.int 33 0, Value.int 0 0, Value.ref 114, Value.int 41 0, Value.int 0 0, Value.ref 122, Value.int 43 0, Value.int 0 0, Value.ref 129, Value.int 55 0, Value.int 0 0, Value.ref 136, Value.int 83 0, Value.int 0 0, Value.ref 193, Value.int 85 0, Value.int 0 0, Value.ref 200, Value.int 96 0, Value.int 0 0, Value.ref 207, Value.int 101 0, Value.int 0 0, Value.ref 214, Value.int 108 0, Value.int 0 0, Value.ref 221, Value.int 117 0, Value.int 0 0, Value.ref 228, Value.int 126 0, Value.int 0 0, Value.ref 235, Value.int 137 0, Value.int 0 0, Value.ref 242, Value.int 150 0, Value.int 0 0, Value.ref 249, Value.int 152 0, Value.int 0 0, Value.ref 256, Value.int 165 0, Value.int 0 0, Value.ref 263, Value.int 172 0, Value.int 0 0, Value.ref 270, Value.int 180 0, Value.int 0 0, Value.ref 277, Value.int 190 0, Value.int 0 0, Value.ref 284, Value.int 192 0, Value.int 0 0, Value.ref 289, Value.int 196 0, Value.int 0 0, Value.ref 296, Value.int 201 0, Value.int 0 0, Value.ref 303, Value.int 203 0, Value.int 0 0, Value.ref 310, Value.int 208 0, Value.int 0 0, Value.ref 317, Value.int 229 0, Value.int 0 0, Value.ref 324, Value.int 262 0, Value.int 0 0, Value.ref 373, Value.int 308 0, Value.int 0 0, Value.ref 427, Value.int 310 0, Value.int 0 0, Value.ref 434, Value.int 312 0, Value.int 0 0, Value.ref 441, Value.int 314 0, Value.int 0 0, Value.ref 448]) #[]
noncomputable def o502 (P : Params) : Obj := Obj.mk (Value.type "tuple") none (Data.seq #[]) #[]
noncomputable def o503 (P : Params) : Obj := Obj.mk (Value.type "builtin_function_or_method") none (Data.fields #[Value.builtin "type.__prepare__", Value.type "type"]) #[]
noncomputable def o504 (P : Params) : Obj := Obj.mk (Value.type "dict") none (Data.dict #[DictEntry.mk (keyHash P (ofString "__module__")) (Value.str (ofString "__module__") 818) (Value.str (ofString "thinstack.reassembly") 638), DictEntry.mk (keyHash P (ofString "__qualname__")) (Value.str (ofString "__qualname__") 820) (Value.str (ofString "Reassembly") 819), DictEntry.mk (keyHash P (ofString "__firstlineno__")) (Value.str (ofString "__firstlineno__") 822) (Value.int 314 821), DictEntry.mk (keyHash P (ofString "__init__")) (Value.str (ofString "__init__") 833) (Value.ref 457), DictEntry.mk (keyHash P (ofString "put")) (Value.str (ofString "put") 845) (Value.ref 464), DictEntry.mk (keyHash P (ofString "stored")) (Value.str (ofString "stored") 851) (Value.ref 469), DictEntry.mk (keyHash P (ofString "count")) (Value.str (ofString "count") 858) (Value.ref 476), DictEntry.mk (keyHash P (ofString "make_room")) (Value.str (ofString "make_room") 865) (Value.ref 483), DictEntry.mk (keyHash P (ofString "expire")) (Value.str (ofString "expire") 873) (Value.ref 490), DictEntry.mk (keyHash P (ofString "next_time")) (Value.str (ofString "next_time") 880) (Value.ref 497), DictEntry.mk (keyHash P (ofString "__static_attributes__")) (Value.str (ofString "__static_attributes__") 885) (Value.ref 498)] 11) #[]
noncomputable def o505 (P : Params) : Obj := Obj.mk (Value.type "tuple") none (Data.seq #[]) #[]
noncomputable def o506 (P : Params) : Obj := Obj.mk Value.none none (Data.fields #[Value.int 316 0, Value.int 4 0, Value.ref 456, Value.int 322 0, Value.int 4 0, Value.ref 463, Value.int 340 0, Value.int 4 0, Value.ref 468, Value.int 343 0, Value.int 4 0, Value.ref 475, Value.int 346 0, Value.int 4 0, Value.ref 482, Value.int 350 0, Value.int 4 0, Value.ref 489, Value.int 353 0, Value.int 4 0, Value.ref 496]) #[]
noncomputable def o507 (P : Params) : Obj := Obj.mk (Value.type "code") none (Data.fields #[Value.str (ofString "Reassembly") 813, Value.str (ofString "Reassembly") 814, Value.str (ofString "/claim/cut.py") 815, Value.int 314 0, Value.int 0 0, Value.int 0 0, Value.int 0 0, Value.int 0 0, Value.ref 446, Value.bool false, Value.int 181 0, Value.ref 447, Value.none, Value.none, Value.none, Value.none, Value.int 816 0, Value.int 314 0, Value.str (ofString "/claim/cut.py") 817]) #[]
noncomputable def o508 (P : Params) : Obj := Obj.mk (Value.type "frame") none Data.plain #[some (Value.ref 448), some (Value.ref 3), some (Value.ref 445), none, some (Value.str (ofString "thinstack.reassembly") 638), none, some (Value.ref 0)]
noncomputable def o509 (P : Params) : Obj := Obj.mk (Value.type "tuple") none (Data.seq #[Value.int 65535 823]) #[]
noncomputable def o510 (P : Params) : Obj := Obj.mk (Value.type "tuple") none (Data.seq #[]) #[]
noncomputable def o511 (P : Params) : Obj := Obj.mk Value.none none (Data.fields #[]) #[]
noncomputable def o512 (P : Params) : Obj := Obj.mk (Value.type "tuple") none (Data.seq #[Value.str (ofString "self") 827, Value.str (ofString "time_limit") 828, Value.str (ofString "most_octets") 829, Value.str (ofString "most") 830]) #[]
noncomputable def o513 (P : Params) : Obj := Obj.mk (Value.type "tuple") none (Data.seq #[]) #[]
noncomputable def o514 (P : Params) : Obj := Obj.mk Value.none none (.func (fnO (clsSt 61 0) (ofString "Reassembly.__init__") 0 [] Value.none Value.none Value.none Value.none none Value.none Value.none 0)) #[]
noncomputable def o515 (P : Params) : Obj := Obj.mk (Value.type "code") none (Data.fields #[Value.str (ofString "__init__") 824, Value.str (ofString "Reassembly.__init__") 825, Value.str (ofString "/claim/cut.py") 826, Value.int 316 0, Value.int 4 0, Value.int 0 0, Value.int 0 0, Value.int 3 0, Value.ref 451, Value.bool true, Value.int 181 0, Value.ref 452, Value.none, Value.ref 453, Value.ref 454, Value.ref 455, Value.int 831 0, Value.int 316 0, Value.str (ofString "/claim/cut.py") 832]) #[]
noncomputable def o516 (P : Params) : Obj := Obj.mk (Value.type "function") none (.func (fnO (clsSt 61 0) (ofString "Reassembly.__init__") 3 [] (Value.ref 450) Value.none Value.none (Value.str (ofString "thinstack.reassembly") 638) none (Value.ref 456) Value.none 0)) #[]
noncomputable def o517 (P : Params) : Obj := Obj.mk (Value.type "tuple") none (Data.seq #[]) #[]
noncomputable def o518 (P : Params) : Obj := Obj.mk Value.none none (Data.fields #[]) #[]
noncomputable def o519 (P : Params) : Obj := Obj.mk (Value.type "tuple") none (Data.seq #[Value.str (ofString "self") 837, Value.str (ofString "header") 838, Value.str (ofString "payload") 839, Value.str (ofString "now") 840, Value.str (ofString "key") 841, Value.str (ofString "found") 842]) #[]
noncomputable def o520 (P : Params) : Obj := Obj.mk (Value.type "tuple") none (Data.seq #[]) #[]
noncomputable def o521 (P : Params) : Obj := Obj.mk Value.none none (.func (fnO (clsSt 61 1) (ofString "Reassembly.put") 0 [] Value.none Value.none Value.none Value.none none Value.none Value.none 0)) #[]
noncomputable def o522 (P : Params) : Obj := Obj.mk (Value.type "code") none (Data.fields #[Value.str (ofString "put") 834, Value.str (ofString "Reassembly.put") 835, Value.str (ofString "/claim/cut.py") 836, Value.int 322 0, Value.int 4 0, Value.int 0 0, Value.int 0 0, Value.int 3 0, Value.ref 458, Value.bool true, Value.int 181 0, Value.ref 459, Value.none, Value.ref 460, Value.ref 461, Value.ref 462, Value.int 843 0, Value.int 322 0, Value.str (ofString "/claim/cut.py") 844]) #[]
noncomputable def o523 (P : Params) : Obj := Obj.mk (Value.type "function") none (.func (fnO (clsSt 61 1) (ofString "Reassembly.put") 3 [] Value.none Value.none Value.none (Value.str (ofString "thinstack.reassembly") 638) none (Value.ref 463) Value.none 0)) #[]
noncomputable def o524 (P : Params) : Obj := Obj.mk (Value.type "tuple") none (Data.seq #[]) #[]
noncomputable def o525 (P : Params) : Obj := Obj.mk Value.none none (Data.fields #[]) #[]
noncomputable def o526 (P : Params) : Obj := Obj.mk Value.none none (.func (fnO (clsSt 61 2) (ofString "Reassembly.stored") 0 [] Value.none Value.none Value.none Value.none none Value.none Value.none 0)) #[]
noncomputable def o527 (P : Params) : Obj := Obj.mk (Value.type "code") none (Data.fields #[Value.str (ofString "stored") 846, Value.str (ofString "Reassembly.stored") 847, Value.str (ofString "/claim/cut.py") 848, Value.int 340 0, Value.int 1 0, Value.int 0 0, Value.int 0 0, Value.int 3 0, Value.ref 465, Value.bool true, Value.int 181 0, Value.ref 466, Value.none, Value.none, Value.none, Value.ref 467, Value.int 849 0, Value.int 340 0, Value.str (ofString "/claim/cut.py") 850]) #[]
noncomputable def o528 (P : Params) : Obj := Obj.mk (Value.type "function") none (.func (fnO (clsSt 61 2) (ofString "Reassembly.stored") 3 [] Value.none Value.none Value.none (Value.str (ofString "thinstack.reassembly") 638) none (Value.ref 468) Value.none 0)) #[]
noncomputable def o529 (P : Params) : Obj := Obj.mk (Value.type "tuple") none (Data.seq #[]) #[]
noncomputable def o530 (P : Params) : Obj := Obj.mk Value.none none (Data.fields #[]) #[]
noncomputable def o531 (P : Params) : Obj := Obj.mk (Value.type "tuple") none (Data.seq #[Value.str (ofString "self") 855]) #[]
noncomputable def o532 (P : Params) : Obj := Obj.mk (Value.type "tuple") none (Data.seq #[]) #[]
noncomputable def o533 (P : Params) : Obj := Obj.mk Value.none none (.func (fnO (clsSt 61 3) (ofString "Reassembly.count") 0 [] Value.none Value.none Value.none Value.none none Value.none Value.none 0)) #[]
noncomputable def o534 (P : Params) : Obj := Obj.mk (Value.type "code") none (Data.fields #[Value.str (ofString "count") 852, Value.str (ofString "Reassembly.count") 853, Value.str (ofString "/claim/cut.py") 854, Value.int 343 0, Value.int 1 0, Value.int 0 0, Value.int 0 0, Value.int 3 0, Value.ref 470, Value.bool true, Value.int 181 0, Value.ref 471, Value.none, Value.ref 472, Value.ref 473, Value.ref 474, Value.int 856 0, Value.int 343 0, Value.str (ofString "/claim/cut.py") 857]) #[]
noncomputable def o535 (P : Params) : Obj := Obj.mk (Value.type "function") none (.func (fnO (clsSt 61 3) (ofString "Reassembly.count") 3 [] Value.none Value.none Value.none (Value.str (ofString "thinstack.reassembly") 638) none (Value.ref 475) Value.none 0)) #[]
noncomputable def o536 (P : Params) : Obj := Obj.mk (Value.type "tuple") none (Data.seq #[]) #[]
noncomputable def o537 (P : Params) : Obj := Obj.mk Value.none none (Data.fields #[]) #[]
noncomputable def o538 (P : Params) : Obj := Obj.mk (Value.type "tuple") none (Data.seq #[Value.str (ofString "self") 862]) #[]
noncomputable def o539 (P : Params) : Obj := Obj.mk (Value.type "tuple") none (Data.seq #[]) #[]
noncomputable def o540 (P : Params) : Obj := Obj.mk Value.none none (.func (fnO (clsSt 61 4) (ofString "Reassembly.make_room") 0 [] Value.none Value.none Value.none Value.none none Value.none Value.none 0)) #[]
noncomputable def o541 (P : Params) : Obj := Obj.mk (Value.type "code") none (Data.fields #[Value.str (ofString "make_room") 859, Value.str (ofString "Reassembly.make_room") 860, Value.str (ofString "/claim/cut.py") 861, Value.int 346 0, Value.int 1 0, Value.int 0 0, Value.int 0 0, Value.int 3 0, Value.ref 477, Value.bool true, Value.int 181 0, Value.ref 478, Value.none, Value.ref 479, Value.ref 480, Value.ref 481, Value.int 863 0, Value.int 346 0, Value.str (ofString "/claim/cut.py") 864]) #[]
noncomputable def o542 (P : Params) : Obj := Obj.mk (Value.type "function") none (.func (fnO (clsSt 61 4) (ofString "Reassembly.make_room") 3 [] Value.none Value.none Value.none (Value.str (ofString "thinstack.reassembly") 638) none (Value.ref 482) Value.none 0)) #[]
noncomputable def o543 (P : Params) : Obj := Obj.mk (Value.type "tuple") none (Data.seq #[]) #[]
noncomputable def o544 (P : Params) : Obj := Obj.mk Value.none none (Data.fields #[]) #[]
noncomputable def o545 (P : Params) : Obj := Obj.mk (Value.type "tuple") none (Data.seq #[Value.str (ofString "self") 869, Value.str (ofString "now") 870]) #[]
noncomputable def o546 (P : Params) : Obj := Obj.mk (Value.type "tuple") none (Data.seq #[]) #[]
noncomputable def o547 (P : Params) : Obj := Obj.mk Value.none none (.func (fnO (clsSt 61 5) (ofString "Reassembly.expire") 0 [] Value.none Value.none Value.none Value.none none Value.none Value.none 0)) #[]
noncomputable def o548 (P : Params) : Obj := Obj.mk (Value.type "code") none (Data.fields #[Value.str (ofString "expire") 866, Value.str (ofString "Reassembly.expire") 867, Value.str (ofString "/claim/cut.py") 868, Value.int 350 0, Value.int 2 0, Value.int 0 0, Value.int 0 0, Value.int 3 0, Value.ref 484, Value.bool true, Value.int 181 0, Value.ref 485, Value.none, Value.ref 486, Value.ref 487, Value.ref 488, Value.int 871 0, Value.int 350 0, Value.str (ofString "/claim/cut.py") 872]) #[]
noncomputable def o549 (P : Params) : Obj := Obj.mk (Value.type "function") none (.func (fnO (clsSt 61 5) (ofString "Reassembly.expire") 3 [] Value.none Value.none Value.none (Value.str (ofString "thinstack.reassembly") 638) none (Value.ref 489) Value.none 0)) #[]
noncomputable def o550 (P : Params) : Obj := Obj.mk (Value.type "tuple") none (Data.seq #[]) #[]
noncomputable def o551 (P : Params) : Obj := Obj.mk Value.none none (Data.fields #[]) #[]
noncomputable def o552 (P : Params) : Obj := Obj.mk (Value.type "tuple") none (Data.seq #[Value.str (ofString "self") 877]) #[]
noncomputable def o553 (P : Params) : Obj := Obj.mk (Value.type "tuple") none (Data.seq #[]) #[]
noncomputable def o554 (P : Params) : Obj := Obj.mk Value.none none (.func (fnO (clsSt 61 6) (ofString "Reassembly.next_time") 0 [] Value.none Value.none Value.none Value.none none Value.none Value.none 0)) #[]
noncomputable def o555 (P : Params) : Obj := Obj.mk (Value.type "code") none (Data.fields #[Value.str (ofString "next_time") 874, Value.str (ofString "Reassembly.next_time") 875, Value.str (ofString "/claim/cut.py") 876, Value.int 353 0, Value.int 1 0, Value.int 0 0, Value.int 0 0, Value.int 3 0, Value.ref 491, Value.bool true, Value.int 181 0, Value.ref 492, Value.none, Value.ref 493, Value.ref 494, Value.ref 495, Value.int 878 0, Value.int 353 0, Value.str (ofString "/claim/cut.py") 879]) #[]
noncomputable def o556 (P : Params) : Obj := Obj.mk (Value.type "function") none (.func (fnO (clsSt 61 6) (ofString "Reassembly.next_time") 3 [] Value.none Value.none Value.none (Value.str (ofString "thinstack.reassembly") 638) none (Value.ref 496) Value.none 0)) #[]
noncomputable def o557 (P : Params) : Obj := Obj.mk (Value.type "tuple") none (Data.seq #[Value.str (ofString "most") 881, Value.str (ofString "most_octets") 882, Value.str (ofString "time_limit") 883, Value.str (ofString "waiting") 884]) #[]
noncomputable def o558 (P : Params) : Obj := Obj.mk (Value.type "dict") none (Data.dict #[DictEntry.mk (keyHash P (ofString "__module__")) (Value.str (ofString "__module__") 818) (Value.str (ofString "thinstack.reassembly") 638), DictEntry.mk (keyHash P (ofString "__firstlineno__")) (Value.str (ofString "__firstlineno__") 822) (Value.int 314 821), DictEntry.mk (keyHash P (ofString "__init__")) (Value.str (ofString "__init__") 833) (Value.ref 457), DictEntry.mk (keyHash P (ofString "put")) (Value.str (ofString "put") 845) (Value.ref 464), DictEntry.mk (keyHash P (ofString "stored")) (Value.str (ofString "stored") 851) (Value.ref 469), DictEntry.mk (keyHash P (ofString "count")) (Value.str (ofString "count") 858) (Value.ref 476), DictEntry.mk (keyHash P (ofString "make_room")) (Value.str (ofString "make_room") 865) (Value.ref 483), DictEntry.mk (keyHash P (ofString "expire")) (Value.str (ofString "expire") 873) (Value.ref 490), DictEntry.mk (keyHash P (ofString "next_time")) (Value.str (ofString "next_time") 880) (Value.ref 497), DictEntry.mk (keyHash P (ofString "__static_attributes__")) (Value.str (ofString "__static_attributes__") 885) (Value.ref 498), DictEntry.mk (keyHash P (ofString "__dict__")) (Value.str (ofString "__dict__") 887) (Value.ref 501), DictEntry.mk (keyHash P (ofString "__weakref__")) (Value.str (ofString "__weakref__") 889) (Value.ref 502), DictEntry.mk (keyHash P (ofString "__doc__")) (Value.str (ofString "__doc__") 890) Value.none] 4) #[]
noncomputable def o559 (P : Params) : Obj := Obj.mk (Value.type "type") none (Data.cls (ClassData.mk (ofString "Reassembly") [Value.type "object"] [Value.ref 500, Value.type "object"] 499 (ofString "Reassembly") true [] [] false none false)) #[none, none, some (Value.str (ofString "Reassembly") 811), some (Value.str (ofString "Reassembly") 819), some (Value.builtin "object.__new__"), some (Value.bool true)]
noncomputable def o560 (P : Params) : Obj := Obj.mk (Value.type "getset_descriptor") none (Data.fields #[Value.str (ofString "__dict__") 886, Value.ref 500, Value.builtin "function.__dict__", Value.builtin "function.__dict__#set"]) #[]
noncomputable def o561 (P : Params) : Obj := Obj.mk (Value.type "getset_descriptor") none (Data.fields #[Value.str (ofString "__weakref__") 888, Value.ref 500, Value.builtin "ExceptionGroup.__weakref__", Value.none]) #[]
noncomputable def o562 (P : Params) : Obj := Obj.mk (Value.type "super") none (Data.fields #[Value.ref 500, Value.ref 500, Value.ref 500]) #[]
noncomputable def o563 (P : Params) : Obj := Obj.mk (Value.type "builtin_function_or_method") none (Data.fields #[Value.builtin "object.__init_subclass__", Value.ref 500]) #[]
noncomputable def o564 (P : Params) : Obj := Obj.mk (Value.type "dict") none (Data.dict #[DictEntry.mk (keyHash P (ofString "__name__")) (Value.str (ofString "__name__") 165) (Value.str (ofString "law_nu0136_01") 893), DictEntry.mk (keyHash P (ofString "__doc__")) (Value.str (ofString "__doc__") 166) Value.none, DictEntry.mk (keyHash P (ofString "__package__")) (Value.str (ofString "__package__") 167) Value.none, DictEntry.mk (keyHash P (ofString "__loader__")) (Value.str (ofString "__loader__") 168) (Value.builtin "__main__.__loader__#opaque"), DictEntry.mk (keyHash P (ofString "__spec__")) (Value.str (ofString "__spec__") 169) Value.none, DictEntry.mk (keyHash P (ofString "__annotations__")) (Value.str (ofString "__annotations__") 170) (Value.ref 6), DictEntry.mk (keyHash P (ofString "__builtins__")) (Value.str (ofString "__builtins__") 171) (Value.ref 4), DictEntry.mk (keyHash P (ofString "__file__")) (Value.str (ofString "__file__") 173) (Value.str (ofString "/claim/cut.py") 172), DictEntry.mk (keyHash P (ofString "__cached__")) (Value.str (ofString "__cached__") 174) Value.none, DictEntry.mk (keyHash P (ofString "_wall")) (Value.str (ofString "_wall") 193) (Value.ref 21), DictEntry.mk (keyHash P (ofString "StackError")) (Value.str (ofString "StackError") 224) (Value.ref 38), DictEntry.mk (keyHash P (ofString "FormError")) (Value.str (ofString "FormError") 240) (Value.ref 51), DictEntry.mk (keyHash P (ofString "SizeError")) (Value.str (ofString "SizeError") 256) (Value.ref 63), DictEntry.mk (keyHash P (ofString "put16")) (Value.str (ofString "put16") 265) (Value.ref 72), DictEntry.mk (keyHash P (ofString "put32")) (Value.str (ofString "put32") 272) (Value.ref 79), DictEntry.mk (keyHash P (ofString "need")) (Value.str (ofString "need") 281) (Value.ref 86), DictEntry.mk (keyHash P (ofString "get16")) (Value.str (ofString "get16") 289) (Value.ref 93), DictEntry.mk (keyHash P (ofString "get32")) (Value.str (ofString "get32") 297) (Value.ref 100), DictEntry.mk (keyHash P (ofString "ALL_ONES")) (Value.str (ofString "ALL_ONES") 301) (Value.int 65535 300), DictEntry.mk (keyHash P (ofString "fold")) (Value.str (ofString "fold") 308) (Value.ref 107), DictEntry.mk (keyHash P (ofString "ones_sum")) (Value.str (ofString "ones_sum") 320) (Value.ref 115), DictEntry.mk (keyHash P (ofString "checksum")) (Value.str (ofString "checksum") 329) (Value.ref 123), DictEntry.mk (keyHash P (ofString "adjusted")) (Value.str (ofString "adjusted") 338) (Value.ref 130), DictEntry.mk (keyHash P (ofString "VERSION")) (Value.str (ofString "VERSION") 342) (Value.int 4 341), DictEntry.mk (keyHash P (ofString "LEAST_HEAD")) (Value.str (ofString "LEAST_HEAD") 344) (Value.int 20 343), DictEntry.mk (keyHash P (ofString "MOST_HEAD")) (Value.str (ofString "MOST_HEAD") 346) (Value.int 60 345), DictEntry.mk (keyHash P (ofString "MOST_TOTAL")) (Value.str (ofString "MOST_TOTAL") 348) (Value.int 65535 347), DictEntry.mk (keyHash P (ofString "DONT_BIT")) (Value.str (ofString "DONT_BIT") 350) (Value.int 16384 349), DictEntry.mk (keyHash P (ofString "MORE_BIT")) (Value.str (ofString "MORE_BIT") 352) (Value.int 8192 351), DictEntry.mk (keyHash P (ofString "PLACE_BITS")) (Value.str (ofString "PLACE_BITS") 354) (Value.int 8191 353), DictEntry.mk (keyHash P (ofString "TTL_PLACE")) (Value.str (ofString "TTL_PLACE") 356) (Value.int 8 355), DictEntry.mk (keyHash P (ofString "SUM_PLACE")) (Value.str (ofString "SUM_PLACE") 358) (Value.int 10 357), DictEntry.mk (keyHash P (ofString "IpHeader")) (Value.str (ofString "IpHeader") 448) (Value.ref 183), DictEntry.mk (keyHash P (ofString "is_within")) (Value.str (ofString "is_within") 456) (Value.ref 194), DictEntry.mk (keyHash P (ofString "check_fields")) (Value.str (ofString "check_fields") 464) (Value.ref 201), DictEntry.mk (keyHash P (ofString "check_size")) (Value.str (ofString "check_size") 472) (Value.ref 208), DictEntry.mk (keyHash P (ofString "flags_of")) (Value.str (ofString "flags_of") 480) (Value.ref 215), DictEntry.mk (keyHash P (ofString "pack_ip")) (Value.str (ofString "pack_ip") 493) (Value.ref 222), DictEntry.mk (keyHash P (ofString "head_size")) (Value.str (ofString "head_size") 501) (Value.ref 229), DictEntry.mk (keyHash P (ofString "unpack_ip")) (Value.str (ofString "unpack_ip") 513) (Value.ref 236), DictEntry.mk (keyHash P (ofString "lessened_octets")) (Value.str (ofString "lessened_octets") 523) (Value.ref 243), DictEntry.mk (keyHash P (ofString "END")) (Value.str (ofString "END") 527) (Value.int 0 526), DictEntry.mk (keyHash P (ofString "NOTHING")) (Value.str (ofString "NOTHING") 529) (Value.int 1 528), DictEntry.mk (keyHash P (ofString "MOST_OPTIONS")) (Value.str (ofString "MOST_OPTIONS") 531) (Value.int 40 530), DictEntry.mk (keyHash P (ofString "COPY_BIT")) (Value.str (ofString "COPY_BIT") 533) (Value.int 128 532), DictEntry.mk (keyHash P (ofString "is_single")) (Value.str (ofString "is_single") 540) (Value.ref 250), DictEntry.mk (keyHash P (ofString "read_options")) (Value.str (ofString "read_options") 551) (Value.ref 257), DictEntry.mk (keyHash P (ofString "size_at")) (Value.str (ofString "size_at") 560) (Value.ref 264), DictEntry.mk (keyHash P (ofString "write_options")) (Value.str (ofString "write_options") 570) (Value.ref 271), DictEntry.mk (keyHash P (ofString "option_octets")) (Value.str (ofString "option_octets") 578) (Value.ref 278), DictEntry.mk (keyHash P (ofString "is_copied")) (Value.str (ofString "is_copied") 585) (Value.ref 285), DictEntry.mk (keyHash P (ofString "copied")) (Value.str (ofString "copied") 591) (Value.ref 290), DictEntry.mk (keyHash P (ofString "STEP_fragments")) (Value.str (ofString "STEP_fragments") 595) (Value.int 8 594), DictEntry.mk (keyHash P (ofString "later_options")) (Value.str (ofString "later_options") 602) (Value.ref 297), DictEntry.mk (keyHash P (ofString "part_header")) (Value.str (ofString "part_header") 612) (Value.ref 304), DictEntry.mk (keyHash P (ofString "room_of")) (Value.str (ofString "room_of") 621) (Value.ref 311), DictEntry.mk (keyHash P (ofString "cut")) (Value.str (ofString "cut") 637) (Value.ref 318), DictEntry.mk (keyHash P (ofString "STEP_reassembly")) (Value.str (ofString "STEP_reassembly") 641) (Value.int 8 640), DictEntry.mk (keyHash P (ofString "Holes")) (Value.str (ofString "Holes") 708) (Value.ref 363), DictEntry.mk (keyHash P (ofString "Datagram")) (Value.str (ofString "Datagram") 788) (Value.ref 417), DictEntry.mk (keyHash P (ofString "whole_header")) (Value.str (ofString "whole_header") 795) (Value.ref 428), DictEntry.mk (keyHash P (ofString "key_of")) (Value.str (ofString "key_of") 802) (Value.ref 435), DictEntry.mk (keyHash P (ofString "is_bad_piece")) (Value.str (ofString "is_bad_piece") 810) (Value.ref 442), DictEntry.mk (keyHash P (ofString "Reassembly")) (Value.str (ofString "Reassembly") 892) (Value.ref 500), DictEntry.mk (keyHash P (ofString "_law_pool")) (Value.str (ofString "_law_pool") 905) (Value.ref 511), DictEntry.mk (keyHash P (ofString "_law_take")) (Value.str (ofString "_law_take") 914) (Value.ref 518), DictEntry.mk (keyHash P (ofString "_law_one")) (Value.str (ofString "_law_one") 922) (Value.ref 525), DictEntry.mk (keyHash P (ofString "_law_filled")) (Value.str (ofString "_law_filled") 929) (Value.ref 532), DictEntry.mk (keyHash P (ofString "_law_options")) (Value.str (ofString "_law_options") 935) (Value.ref 537), DictEntry.mk (keyHash P (ofString "_law_sum_right")) (Value.str (ofString "_law_sum_right") 944) (Value.ref 544), DictEntry.mk (keyHash P (ofString "_law_over")) (Value.str (ofString "_law_over") 960) (Value.ref 551), DictEntry.mk (keyHash P (ofString "_law_read")) (Value.str (ofString "_law_read") 969) (Value.ref 558), DictEntry.mk (keyHash P (ofString "_law_side_by_side")) (Value.str (ofString "_law_side_by_side") 975) (Value.ref 563), DictEntry.mk (keyHash P (ofString "_law_joined")) (Value.str (ofString "_law_joined") 991) (Value.ref 570), DictEntry.mk (keyHash P (ofString "_law_told_right")) (Value.str (ofString "_law_told_right") 1004) (Value.ref 577), DictEntry.mk (keyHash P (ofString "law")) (Value.str (ofString "law") 1010) (Value.ref 582)] 76) #[]
noncomputable def o565 (P : Params) : Obj := Obj.mk Value.none none (Data.fields #[Value.int 1 0, Value.int 0 0, Value.ref 20, Value.int 5 0, Value.int 0 0, Value.ref 27, Value.int 9 0, Value.int 0 0, Value.ref 47, Value.int 11 0, Value.int 0 0, Value.ref 59, Value.int 14 0, Value.int 0 0, Value.ref 71, Value.int 16 0, Value.int 0 0, Value.ref 78, Value.int 18 0, Value.int 0 0, Value.ref 85, Value.int 21 0, Value.int 0 0, Value.ref 92, Value.int 24 0, Value.int 0 0, Value.ref 99, Value.int 29 0, Value.int 0 0, Value.ref 106, Value.int 33 0, Value.int 0 0, Value.ref 114, Value.int 41 0, Value.int 0 0, Value.ref 122, Value.int 43 0, Value.int 0 0, Value.ref 129, Value.int 55 0, Value.int 0 0, Value.ref 136, Value.int 83 0, Value.int 0 0, Value.ref 193, Value.int 85 0, Value.int 0 0, Value.ref 200, Value.int 96 0, Value.int 0 0, Value.ref 207, Value.int 101 0, Value.int 0 0, Value.ref 214, Value.int 108 0, Value.int 0 0, Value.ref 221, Value.int 117 0, Value.int 0 0, Value.ref 228, Value.int 126 0, Value.int 0 0, Value.ref 235, Value.int 137 0, Value.int 0 0, Value.ref 242, Value.int 150 0, Value.int 0 0, Value.ref 249, Value.int 152 0, Value.int 0 0, Value.ref 256, Value.int 165 0, Value.int 0 0, Value.ref 263, Value.int 172 0, Value.int 0 0, Value.ref 270, Value.int 180 0, Value.int 0 0, Value.ref 277, Value.int 190 0, Value.int 0 0, Value.ref 284, Value.int 192 0, Value.int 0 0, Value.ref 289, Value.int 196 0, Value.int 0 0, Value.ref 296, Value.int 201 0, Value.int 0 0, Value.ref 303, Value.int 203 0, Value.int 0 0, Value.ref 310, Value.int 208 0, Value.int 0 0, Value.ref 317, Value.int 229 0, Value.int 0 0, Value.ref 324, Value.int 262 0, Value.int 0 0, Value.ref 373, Value.int 308 0, Value.int 0 0, Value.ref 427, Value.int 310 0, Value.int 0 0, Value.ref 434, Value.int 312 0, Value.int 0 0, Value.ref 441, Value.int 314 0, Value.int 0 0, Value.ref 448, Value.int 356 0, Value.int 0 0, Value.ref 510, Value.int 363 0, Value.int 0 0, Value.ref 517, Value.int 370 0, Value.int 0 0, Value.ref 524, Value.int 372 0, Value.int 0 0, Value.ref 531, Value.int 374 0, Value.int 0 0, Value.ref 536, Value.int 380 0, Value.int 0 0, Value.ref 543, Value.int 385 0, Value.int 0 0, Value.ref 550, Value.int 397 0, Value.int 0 0, Value.ref 557, Value.int 400 0, Value.int 0 0, Value.ref 562, Value.int 408 0, Value.int 0 0, Value.ref 569, Value.int 421 0, Value.int 0 0, Value.ref 576, Value.int 431 0, Value.int 0 0, Value.ref 581]) #[]
noncomputable def o566 (P : Params) : Obj := Obj.mk (Value.type "tuple") none (Data.seq #[]) #[]
noncomputable def o567 (P : Params) : Obj := Obj.mk Value.none none (Data.fields #[]) #[]
noncomputable def o568 (P : Params) : Obj := Obj.mk (Value.type "tuple") none (Data.seq #[Value.str (ofString "script") 898, Value.str (ofString "k") 899, Value.str (ofString "cell") 900, Value.str (ofString "big") 901, Value.str (ofString "mixed") 902]) #[]
noncomputable def o569 (P : Params) : Obj := Obj.mk (Value.type "tuple") none (Data.seq #[]) #[]
noncomputable def o570 (P : Params) : Obj := Obj.mk Value.none none (.func (fnO (topSt 63) (ofString "_law_pool") 0 [] Value.none Value.none Value.none Value.none none Value.none Value.none 0)) #[]
noncomputable def o571 (P : Params) : Obj := Obj.mk (Value.type "code") none (Data.fields #[Value.str (ofString "_law_pool") 895, Value.str (ofString "_law_pool") 896, Value.str (ofString "/claim/cut.py") 897, Value.int 356 0, Value.int 2 0, Value.int 0 0, Value.int 0 0, Value.int 3 0, Value.ref 505, Value.bool true, Value.int 181 0, Value.ref 506, Value.none, Value.ref 507, Value.ref 508, Value.ref 509, Value.int 903 0, Value.int 356 0, Value.str (ofString "/claim/cut.py") 904]) #[]
noncomputable def o572 (P : Params) : Obj := Obj.mk (Value.type "function") none (.func (fnO (topSt 63) (ofString "_law_pool") 3 [] Value.none Value.none Value.none (Value.str (ofString "law_nu0136_01") 893) none (Value.ref 510) Value.none 0)) #[]
noncomputable def o573 (P : Params) : Obj := Obj.mk (Value.type "tuple") none (Data.seq #[]) #[]
noncomputable def o574 (P : Params) : Obj := Obj.mk Value.none none (Data.fields #[]) #[]
noncomputable def o575 (P : Params) : Obj := Obj.mk (Value.type "tuple") none (Data.seq #[Value.str (ofString "source") 909, Value.str (ofString "top") 910, Value.str (ofString "drawn") 911]) #[]
noncomputable def o576 (P : Params) : Obj := Obj.mk (Value.type "tuple") none (Data.seq #[]) #[]
noncomputable def o577 (P : Params) : Obj := Obj.mk Value.none none (.func (fnO (topSt 64) (ofString "_law_take") 0 [] Value.none Value.none Value.none Value.none none Value.none Value.none 0)) #[]
noncomputable def o578 (P : Params) : Obj := Obj.mk (Value.type "code") none (Data.fields #[Value.str (ofString "_law_take") 906, Value.str (ofString "_law_take") 907, Value.str (ofString "/claim/cut.py") 908, Value.int 363 0, Value.int 2 0, Value.int 0 0, Value.int 0 0, Value.int 3 0, Value.ref 512, Value.bool true, Value.int 181 0, Value.ref 513, Value.none, Value.ref 514, Value.ref 515, Value.ref 516, Value.int 912 0, Value.int 363 0, Value.str (ofString "/claim/cut.py") 913]) #[]
noncomputable def o579 (P : Params) : Obj := Obj.mk (Value.type "function") none (.func (fnO (topSt 64) (ofString "_law_take") 3 [] Value.none Value.none Value.none (Value.str (ofString "law_nu0136_01") 893) none (Value.ref 517) Value.none 0)) #[]
noncomputable def o580 (P : Params) : Obj := Obj.mk (Value.type "tuple") none (Data.seq #[]) #[]
noncomputable def o581 (P : Params) : Obj := Obj.mk Value.none none (Data.fields #[]) #[]
noncomputable def o582 (P : Params) : Obj := Obj.mk (Value.type "tuple") none (Data.seq #[Value.str (ofString "source") 918, Value.str (ofString "things") 919]) #[]
noncomputable def o583 (P : Params) : Obj := Obj.mk (Value.type "tuple") none (Data.seq #[]) #[]
noncomputable def o584 (P : Params) : Obj := Obj.mk Value.none none (.func (fnO (topSt 65) (ofString "_law_one") 0 [] Value.none Value.none Value.none Value.none none Value.none Value.none 0)) #[]
noncomputable def o585 (P : Params) : Obj := Obj.mk (Value.type "code") none (Data.fields #[Value.str (ofString "_law_one") 915, Value.str (ofString "_law_one") 916, Value.str (ofString "/claim/cut.py") 917, Value.int 370 0, Value.int 2 0, Value.int 0 0, Value.int 0 0, Value.int 3 0, Value.ref 519, Value.bool true, Value.int 181 0, Value.ref 520, Value.none, Value.ref 521, Value.ref 522, Value.ref 523, Value.int 920 0, Value.int 370 0, Value.str (ofString "/claim/cut.py") 921]) #[]
noncomputable def o586 (P : Params) : Obj := Obj.mk (Value.type "function") none (.func (fnO (topSt 65) (ofString "_law_one") 3 [] Value.none Value.none Value.none (Value.str (ofString "law_nu0136_01") 893) none (Value.ref 524) Value.none 0)) #[]
noncomputable def o587 (P : Params) : Obj := Obj.mk (Value.type "tuple") none (Data.seq #[]) #[]
noncomputable def o588 (P : Params) : Obj := Obj.mk Value.none none (Data.fields #[]) #[]
noncomputable def o589 (P : Params) : Obj := Obj.mk (Value.type "tuple") none (Data.seq #[Value.str (ofString "octets") 926]) #[]
noncomputable def o590 (P : Params) : Obj := Obj.mk (Value.type "tuple") none (Data.seq #[]) #[]
noncomputable def o591 (P : Params) : Obj := Obj.mk Value.none none (.func (fnO (topSt 66) (ofString "_law_filled") 0 [] Value.none Value.none Value.none Value.none none Value.none Value.none 0)) #[]
noncomputable def o592 (P : Params) : Obj := Obj.mk (Value.type "code") none (Data.fields #[Value.str (ofString "_law_filled") 923, Value.str (ofString "_law_filled") 924, Value.str (ofString "/claim/cut.py") 925, Value.int 372 0, Value.int 1 0, Value.int 0 0, Value.int 0 0, Value.int 3 0, Value.ref 526, Value.bool true, Value.int 181 0, Value.ref 527, Value.none, Value.ref 528, Value.ref 529, Value.ref 530, Value.int 927 0, Value.int 372 0, Value.str (ofString "/claim/cut.py") 928]) #[]
noncomputable def o593 (P : Params) : Obj := Obj.mk (Value.type "function") none (.func (fnO (topSt 66) (ofString "_law_filled") 3 [] Value.none Value.none Value.none (Value.str (ofString "law_nu0136_01") 893) none (Value.ref 531) Value.none 0)) #[]
noncomputable def o594 (P : Params) : Obj := Obj.mk (Value.type "tuple") none (Data.seq #[]) #[]
noncomputable def o595 (P : Params) : Obj := Obj.mk Value.none none (Data.fields #[]) #[]
noncomputable def o596 (P : Params) : Obj := Obj.mk Value.none none (.func (fnO (topSt 67) (ofString "_law_options") 0 [] Value.none Value.none Value.none Value.none none Value.none Value.none 0)) #[]
noncomputable def o597 (P : Params) : Obj := Obj.mk (Value.type "code") none (Data.fields #[Value.str (ofString "_law_options") 930, Value.str (ofString "_law_options") 931, Value.str (ofString "/claim/cut.py") 932, Value.int 374 0, Value.int 1 0, Value.int 0 0, Value.int 0 0, Value.int 3 0, Value.ref 533, Value.bool true, Value.int 181 0, Value.ref 534, Value.none, Value.none, Value.none, Value.ref 535, Value.int 933 0, Value.int 374 0, Value.str (ofString "/claim/cut.py") 934]) #[]
noncomputable def o598 (P : Params) : Obj := Obj.mk (Value.type "function") none (.func (fnO (topSt 67) (ofString "_law_options") 3 [] Value.none Value.none Value.none (Value.str (ofString "law_nu0136_01") 893) none (Value.ref 536) Value.none 0)) #[]
noncomputable def o599 (P : Params) : Obj := Obj.mk (Value.type "tuple") none (Data.seq #[]) #[]
noncomputable def o600 (P : Params) : Obj := Obj.mk Value.none none (Data.fields #[]) #[]
noncomputable def o601 (P : Params) : Obj := Obj.mk (Value.type "tuple") none (Data.seq #[Value.str (ofString "octets") 939, Value.str (ofString "total") 940, Value.str (ofString "at") 941]) #[]
noncomputable def o602 (P : Params) : Obj := Obj.mk (Value.type "tuple") none (Data.seq #[]) #[]
noncomputable def o603 (P : Params) : Obj := Obj.mk Value.none none (.func (fnO (topSt 68) (ofString "_law_sum_right") 0 [] Value.none Value.none Value.none Value.none none Value.none Value.none 0)) #[]
noncomputable def o604 (P : Params) : Obj := Obj.mk (Value.type "code") none (Data.fields #[Value.str (ofString "_law_sum_right") 936, Value.str (ofString "_law_sum_right") 937, Value.str (ofString "/claim/cut.py") 938, Value.int 380 0, Value.int 1 0, Value.int 0 0, Value.int 0 0, Value.int 3 0, Value.ref 538, Value.bool true, Value.int 181 0, Value.ref 539, Value.none, Value.ref 540, Value.ref 541, Value.ref 542, Value.int 942 0, Value.int 380 0, Value.str (ofString "/claim/cut.py") 943]) #[]
noncomputable def o605 (P : Params) : Obj := Obj.mk (Value.type "function") none (.func (fnO (topSt 68) (ofString "_law_sum_right") 3 [] Value.none Value.none Value.none (Value.str (ofString "law_nu0136_01") 893) none (Value.ref 543) Value.none 0)) #[]
noncomputable def o606 (P : Params) : Obj := Obj.mk (Value.type "tuple") none (Data.seq #[]) #[]
noncomputable def o607 (P : Params) : Obj := Obj.mk Value.none none (Data.fields #[]) #[]
noncomputable def o608 (P : Params) : Obj := Obj.mk (Value.type "tuple") none (Data.seq #[Value.str (ofString "packets") 948, Value.str (ofString "mtu") 949, Value.str (ofString "is_first") 950, Value.str (ofString "found") 951, Value.str (ofString "octets") 952, Value.str (ofString "header") 953, Value.str (ofString "payload") 954, Value.str (ofString "head") 955, Value.str (ofString "part") 956, Value.str (ofString "packed") 957]) #[]
noncomputable def o609 (P : Params) : Obj := Obj.mk (Value.type "tuple") none (Data.seq #[]) #[]
noncomputable def o610 (P : Params) : Obj := Obj.mk Value.none none (.func (fnO (topSt 69) (ofString "_law_over") 0 [] Value.none Value.none Value.none Value.none none Value.none Value.none 0)) #[]
noncomputable def o611 (P : Params) : Obj := Obj.mk (Value.type "code") none (Data.fields #[Value.str (ofString "_law_over") 945, Value.str (ofString "_law_over") 946, Value.str (ofString "/claim/cut.py") 947, Value.int 385 0, Value.int 3 0, Value.int 0 0, Value.int 0 0, Value.int 3 0, Value.ref 545, Value.bool true, Value.int 181 0, Value.ref 546, Value.none, Value.ref 547, Value.ref 548, Value.ref 549, Value.int 958 0, Value.int 385 0, Value.str (ofString "/claim/cut.py") 959]) #[]
noncomputable def o612 (P : Params) : Obj := Obj.mk (Value.type "function") none (.func (fnO (topSt 69) (ofString "_law_over") 3 [] Value.none Value.none Value.none (Value.str (ofString "law_nu0136_01") 893) none (Value.ref 550) Value.none 0)) #[]
noncomputable def o613 (P : Params) : Obj := Obj.mk (Value.type "tuple") none (Data.seq #[]) #[]
noncomputable def o614 (P : Params) : Obj := Obj.mk Value.none none (Data.fields #[]) #[]
noncomputable def o615 (P : Params) : Obj := Obj.mk (Value.type "tuple") none (Data.seq #[Value.str (ofString "octets") 964, Value.str (ofString "word") 965, Value.str (ofString "size") 966]) #[]
noncomputable def o616 (P : Params) : Obj := Obj.mk (Value.type "tuple") none (Data.seq #[]) #[]
noncomputable def o617 (P : Params) : Obj := Obj.mk Value.none none (.func (fnO (topSt 70) (ofString "_law_read") 0 [] Value.none Value.none Value.none Value.none none Value.none Value.none 0)) #[]
noncomputable def o618 (P : Params) : Obj := Obj.mk (Value.type "code") none (Data.fields #[Value.str (ofString "_law_read") 961, Value.str (ofString "_law_read") 962, Value.str (ofString "/claim/cut.py") 963, Value.int 397 0, Value.int 1 0, Value.int 0 0, Value.int 0 0, Value.int 3 0, Value.ref 552, Value.bool true, Value.int 181 0, Value.ref 553, Value.none, Value.ref 554, Value.ref 555, Value.ref 556, Value.int 967 0, Value.int 397 0, Value.str (ofString "/claim/cut.py") 968]) #[]
noncomputable def o619 (P : Params) : Obj := Obj.mk (Value.type "function") none (.func (fnO (topSt 70) (ofString "_law_read") 3 [] Value.none Value.none Value.none (Value.str (ofString "law_nu0136_01") 893) none (Value.ref 557) Value.none 0)) #[]
noncomputable def o620 (P : Params) : Obj := Obj.mk (Value.type "tuple") none (Data.seq #[]) #[]
noncomputable def o621 (P : Params) : Obj := Obj.mk Value.none none (Data.fields #[]) #[]
noncomputable def o622 (P : Params) : Obj := Obj.mk Value.none none (.func (fnO (topSt 71) (ofString "_law_side_by_side") 0 [] Value.none Value.none Value.none Value.none none Value.none Value.none 0)) #[]
noncomputable def o623 (P : Params) : Obj := Obj.mk (Value.type "code") none (Data.fields #[Value.str (ofString "_law_side_by_side") 970, Value.str (ofString "_law_side_by_side") 971, Value.str (ofString "/claim/cut.py") 972, Value.int 400 0, Value.int 4 0, Value.int 0 0, Value.int 0 0, Value.int 3 0, Value.ref 559, Value.bool true, Value.int 181 0, Value.ref 560, Value.none, Value.none, Value.none, Value.ref 561, Value.int 973 0, Value.int 400 0, Value.str (ofString "/claim/cut.py") 974]) #[]
noncomputable def o624 (P : Params) : Obj := Obj.mk (Value.type "function") none (.func (fnO (topSt 71) (ofString "_law_side_by_side") 3 [] Value.none Value.none Value.none (Value.str (ofString "law_nu0136_01") 893) none (Value.ref 562) Value.none 0)) #[]
noncomputable def o625 (P : Params) : Obj := Obj.mk (Value.type "tuple") none (Data.seq #[]) #[]
noncomputable def o626 (P : Params) : Obj := Obj.mk Value.none none (Data.fields #[]) #[]
noncomputable def o627 (P : Params) : Obj := Obj.mk (Value.type "tuple") none (Data.seq #[Value.str (ofString "source") 979, Value.str (ofString "packets") 980, Value.str (ofString "lacks") 981, Value.str (ofString "left") 982, Value.str (ofString "joined") 983, Value.str (ofString "told") 984, Value.str (ofString "order") 985, Value.str (ofString "octets") 986, Value.str (ofString "header") 987, Value.str (ofString "payload") 988]) #[]
noncomputable def o628 (P : Params) : Obj := Obj.mk (Value.type "tuple") none (Data.seq #[]) #[]
noncomputable def o629 (P : Params) : Obj := Obj.mk Value.none none (.func (fnO (topSt 72) (ofString "_law_joined") 0 [] Value.none Value.none Value.none Value.none none Value.none Value.none 0)) #[]
noncomputable def o630 (P : Params) : Obj := Obj.mk (Value.type "code") none (Data.fields #[Value.str (ofString "_law_joined") 976, Value.str (ofString "_law_joined") 977, Value.str (ofString "/claim/cut.py") 978, Value.int 408 0, Value.int 3 0, Value.int 0 0, Value.int 0 0, Value.int 3 0, Value.ref 564, Value.bool true, Value.int 181 0, Value.ref 565, Value.none, Value.ref 566, Value.ref 567, Value.ref 568, Value.int 989 0, Value.int 408 0, Value.str (ofString "/claim/cut.py") 990]) #[]
noncomputable def o631 (P : Params) : Obj := Obj.mk (Value.type "function") none (.func (fnO (topSt 72) (ofString "_law_joined") 3 [] Value.none Value.none Value.none (Value.str (ofString "law_nu0136_01") 893) none (Value.ref 569) Value.none 0)) #[]
noncomputable def o632 (P : Params) : Obj := Obj.mk (Value.type "tuple") none (Data.seq #[]) #[]
noncomputable def o633 (P : Params) : Obj := Obj.mk Value.none none (Data.fields #[]) #[]
noncomputable def o634 (P : Params) : Obj := Obj.mk (Value.type "tuple") none (Data.seq #[Value.str (ofString "order") 995, Value.str (ofString "told") 996, Value.str (ofString "due") 997, Value.str (ofString "payload") 998, Value.str (ofString "seen") 999, Value.str (ofString "many") 1000, Value.str (ofString "at") 1001]) #[]
noncomputable def o635 (P : Params) : Obj := Obj.mk (Value.type "tuple") none (Data.seq #[]) #[]
noncomputable def o636 (P : Params) : Obj := Obj.mk Value.none none (.func (fnO (topSt 73) (ofString "_law_told_right") 0 [] Value.none Value.none Value.none Value.none none Value.none Value.none 0)) #[]
noncomputable def o637 (P : Params) : Obj := Obj.mk (Value.type "code") none (Data.fields #[Value.str (ofString "_law_told_right") 992, Value.str (ofString "_law_told_right") 993, Value.str (ofString "/claim/cut.py") 994, Value.int 421 0, Value.int 4 0, Value.int 0 0, Value.int 0 0, Value.int 3 0, Value.ref 571, Value.bool true, Value.int 181 0, Value.ref 572, Value.none, Value.ref 573, Value.ref 574, Value.ref 575, Value.int 1002 0, Value.int 421 0, Value.str (ofString "/claim/cut.py") 1003]) #[]
noncomputable def o638 (P : Params) : Obj := Obj.mk (Value.type "function") none (.func (fnO (topSt 73) (ofString "_law_told_right") 3 [] Value.none Value.none Value.none (Value.str (ofString "law_nu0136_01") 893) none (Value.ref 576) Value.none 0)) #[]
noncomputable def o639 (P : Params) : Obj := Obj.mk (Value.type "tuple") none (Data.seq #[]) #[]
noncomputable def o640 (P : Params) : Obj := Obj.mk Value.none none (Data.fields #[]) #[]
noncomputable def o641 (P : Params) : Obj := Obj.mk Value.none none (.func (fnO (topSt 74) (ofString "law") 0 [] Value.none Value.none Value.none Value.none none Value.none Value.none 0)) #[]
noncomputable def o642 (P : Params) : Obj := Obj.mk (Value.type "code") none (Data.fields #[Value.str (ofString "law") 1005, Value.str (ofString "law") 1006, Value.str (ofString "/claim/cut.py") 1007, Value.int 431 0, Value.int 1 0, Value.int 0 0, Value.int 0 0, Value.int 3 0, Value.ref 578, Value.bool true, Value.int 181 0, Value.ref 579, Value.none, Value.none, Value.none, Value.ref 580, Value.int 1008 0, Value.int 431 0, Value.str (ofString "/claim/cut.py") 1009]) #[]
noncomputable def o643 (P : Params) : Obj := Obj.mk (Value.type "function") none (.func (fnO (topSt 74) (ofString "law") 3 [] Value.none Value.none Value.none (Value.str (ofString "law_nu0136_01") 893) none (Value.ref 581) Value.none 0)) #[]
noncomputable def tree47 (P : Params) : BT := node (boot_o_0 P) (node (boot_o_1 P) (node (boot_o_3 P) (node (boot_o_7 P) nil nil) (node (o43 P) nil nil)) (node (boot_o_5 P) (node (boot_o_9 P) nil nil) (node (o45 P) nil nil))) (node (boot_o_2 P) (node (boot_o_4 P) (node (boot_o_8 P) nil nil) (node (o44 P) nil nil)) (node (boot_o_6 P) (node (boot_o_10 P) nil nil) (node (o46 P) nil nil)))
noncomputable def tree78 (P : Params) : BT := node (boot_o_0 P) (node (boot_o_1 P) (node (o50 P) (node (boot_o_7 P) (node (o52 P) (node (o68 P) nil nil) nil) (node (o60 P) (node (o76 P) nil nil) nil)) (node (o43 P) (node (o56 P) (node (o72 P) nil nil) nil) (node (o64 P) nil nil))) (node (boot_o_5 P) (node (boot_o_9 P) (node (o54 P) (node (o70 P) nil nil) nil) (node (o62 P) (node (o78 P) nil nil) nil)) (node (o45 P) (node (o58 P) (node (o74 P) nil nil) nil) (node (o66 P) nil nil)))) (node (o49 P) (node (boot_o_4 P) (node (boot_o_8 P) (node (o53 P) (node (o69 P) nil nil) nil) (node (o61 P) (node (o77 P) nil nil) nil)) (node (o51 P) (node (o57 P) (node (o73 P) nil nil) nil) (node (o65 P) nil nil))) (node (boot_o_6 P) (node (boot_o_10 P) (node (o55 P) (node (o71 P) nil nil) nil) (node (o63 P) nil nil)) (node (o46 P) (node (o59 P) (node (o75 P) nil nil) nil) (node (o67 P) nil nil))))
noncomputable def tree93 (P : Params) : BT := node (boot_o_0 P) (node (boot_o_1 P) (node (o79 P) (node (boot_o_7 P) (node (o52 P) (node (o68 P) nil nil) (node (o87 P) nil nil)) (node (o60 P) (node (o76 P) nil nil) nil)) (node (o43 P) (node (o56 P) (node (o72 P) nil nil) (node (o91 P) nil nil)) (node (o64 P) (node (o83 P) nil nil) nil))) (node (boot_o_5 P) (node (boot_o_9 P) (node (o54 P) (node (o70 P) nil nil) (node (o89 P) nil nil)) (node (o62 P) (node (o78 P) nil nil) nil)) (node (o45 P) (node (o58 P) (node (o74 P) nil nil) (node (o93 P) nil nil)) (node (o66 P) (node (o85 P) nil nil) nil)))) (node (o49 P) (node (boot_o_4 P) (node (boot_o_8 P) (node (o53 P) (node (o69 P) nil nil) (node (o88 P) nil nil)) (node (o61 P) (node (o77 P) nil nil) nil)) (node (o80 P) (node (o57 P) (node (o73 P) nil nil) (node (o92 P) nil nil)) (node (o65 P) (node (o84 P) nil nil) nil))) (node (boot_o_6 P) (node (boot_o_10 P) (node (o55 P) (node (o71 P) nil nil) (node (o90 P) nil nil)) (node (o63 P) (node (o82 P) nil nil) nil)) (node (o46 P) (node (o59 P) (node (o81 P) nil nil) nil) (node (o67 P) (node (o86 P) nil nil) nil))))
noncomputable def tree143 (P : Params) : BT := node (boot_o_0 P) (node (boot_o_1 P) (node (o94 P) (node (boot_o_7 P) (node (o52 P) (node (o68 P) (node (o106 P) nil nil) (node (o138 P) nil nil)) (node (o87 P) (node (o122 P) nil nil) nil)) (node (o60 P) (node (o76 P) (node (o114 P) nil nil) nil) (node (o98 P) (node (o130 P) nil nil) nil))) (node (o43 P) (node (o56 P) (node (o72 P) (node (o110 P) nil nil) (node (o142 P) nil nil)) (node (o91 P) (node (o126 P) nil nil) nil)) (node (o64 P) (node (o83 P) (node (o118 P) nil nil) nil) (node (o102 P) (node (o134 P) nil nil) nil)))) (node (boot_o_5 P) (node (boot_o_9 P) (node (o54 P) (node (o70 P) (node (o108 P) nil nil) (node (o140 P) nil nil)) (node (o89 P) (node (o124 P) nil nil) nil)) (node (o62 P) (node (o78 P) (node (o116 P) nil nil) nil) (node (o100 P) (node (o132 P) nil nil) nil))) (node (o45 P) (node (o58 P) (node (o74 P) (node (o112 P) nil nil) nil) (node (o93 P) (node (o128 P) nil nil) nil)) (node (o66 P) (node (o85 P) (node (o120 P) nil nil) nil) (node (o104 P) (node (o136 P) nil nil) nil))))) (node (o49 P) (node (boot_o_4 P) (node (boot_o_8 P) (node (o53 P) (node (o69 P) (node (o107 P) nil nil) (node (o139 P) nil nil)) (node (o88 P) (node (o123 P) nil nil) nil)) (node (o61 P) (node (o77 P) (node (o115 P) nil nil) nil) (node (o99 P) (node (o131 P) nil nil) nil))) (node (o95 P) (node (o57 P) (node (o73 P) (node (o111 P) nil nil) (node (o143 P) nil nil)) (node (o92 P) (node (o127 P) nil nil) nil)) (node (o65 P) (node (o84 P) (node (o119 P) nil nil) nil) (node (o103 P) (node (o135 P) nil nil) nil)))) (node (boot_o_6 P) (node (boot_o_10 P) (node (o55 P) (node (o71 P) (node (o109 P) nil nil) (node (o141 P) nil nil)) (node (o90 P) (node (o125 P) nil nil) nil)) (node (o63 P) (node (o82 P) (node (o117 P) nil nil) nil) (node (o101 P) (node (o133 P) nil nil) nil))) (node (o46 P) (node (o59 P) (node (o96 P) (node (o113 P) nil nil) nil) (node (o97 P) (node (o129 P) nil nil) nil)) (node (o67 P) (node (o86 P) (node (o121 P) nil nil) nil) (node (o105 P) (node (o137 P) nil nil) nil)))))
noncomputable def tree175 (P : Params) : BT := node (boot_o_0 P) (node (boot_o_1 P) (node (o144 P) (node (boot_o_7 P) (node (o52 P) (node (o68 P) (node (o106 P) (node (o172 P) nil nil) nil) (node (o138 P) nil nil)) (node (o87 P) (node (o122 P) nil nil) (node (o156 P) nil nil))) (node (o60 P) (node (o76 P) (node (o114 P) nil nil) (node (o148 P) nil nil)) (node (o98 P) (node (o130 P) nil nil) (node (o164 P) nil nil)))) (node (o43 P) (node (o56 P) (node (o72 P) (node (o110 P) nil nil) (node (o142 P) nil nil)) (node (o91 P) (node (o126 P) nil nil) (node (o160 P) nil nil))) (node (o64 P) (node (o83 P) (node (o118 P) nil nil) (node (o152 P) nil nil)) (node (o102 P) (node (o134 P) nil nil) (node (o168 P) nil nil))))) (node (boot_o_5 P) (node (boot_o_9 P) (node (o54 P) (node (o70 P) (node (o108 P) (node (o174 P) nil nil) nil) (node (o140 P) nil nil)) (node (o89 P) (node (o124 P) nil nil) (node (o158 P) nil nil))) (node (o62 P) (node (o78 P) (node (o116 P) nil nil) (node (o150 P) nil nil)) (node (o100 P) (node (o132 P) nil nil) (node (o166 P) nil nil)))) (node (o45 P) (node (o58 P) (node (o74 P) (node (o112 P) nil nil) (node (o146 P) nil nil)) (node (o93 P) (node (o128 P) nil nil) (node (o162 P) nil nil))) (node (o66 P) (node (o85 P) (node (o120 P) nil nil) (node (o154 P) nil nil)) (node (o104 P) (node (o136 P) nil nil) (node (o170 P) nil nil)))))) (node (o49 P) (node (boot_o_4 P) (node (boot_o_8 P) (node (o53 P) (node (o69 P) (node (o107 P) (node (o173 P) nil nil) nil) (node (o139 P) nil nil)) (node (o88 P) (node (o123 P) nil nil) (node (o157 P) nil nil))) (node (o61 P) (node (o77 P) (node (o115 P) nil nil) (node (o149 P) nil nil)) (node (o99 P) (node (o131 P) nil nil) (node (o165 P) nil nil)))) (node (o145 P) (node (o57 P) (node (o73 P) (node (o111 P) nil nil) (node (o143 P) nil nil)) (node (o92 P) (node (o127 P) nil nil) (node (o161 P) nil nil))) (node (o65 P) (node (o84 P) (node (o119 P) nil nil) (node (o153 P) nil nil)) (node (o103 P) (node (o135 P) nil nil) (node (o169 P) nil nil))))) (node (boot_o_6 P) (node (boot_o_10 P) (node (o55 P) (node (o71 P) (node (o109 P) (node (o175 P) nil nil) nil) (node (o141 P) nil nil)) (node (o90 P) (node (o125 P) nil nil) (node (o159 P) nil nil))) (node (o63 P) (node (o82 P) (node (o117 P) nil nil) (node (o151 P) nil nil)) (node (o101 P) (node (o133 P) nil nil) (node (o167 P) nil nil)))) (node (o46 P) (node (o59 P) (node (o96 P) (node (o113 P) nil nil) (node (o147 P) nil nil)) (node (o97 P) (node (o129 P) nil nil) (node (o163 P) nil nil))) (node (o67 P) (node (o86 P) (node (o121 P) nil nil) (node (o155 P) nil nil)) (node (o105 P) (node (o137 P) nil nil) (node (o171 P) nil nil))))))
noncomputable def tree234 (P : Params) : BT := node (boot_o_0 P) (node (boot_o_1 P) (node (o176 P) (node (boot_o_7 P) (node (o52 P) (node (o68 P) (node (o106 P) (node (o172 P) nil nil) nil) (node (o138 P) (node (o206 P) nil nil) nil)) (node (o87 P) (node (o122 P) (node (o190 P) nil nil) nil) (node (o156 P) (node (o222 P) nil nil) nil))) (node (o60 P) (node (o76 P) (node (o114 P) (node (o182 P) nil nil) nil) (node (o148 P) (node (o214 P) nil nil) nil)) (node (o98 P) (node (o130 P) (node (o198 P) nil nil) nil) (node (o164 P) (node (o230 P) nil nil) nil)))) (node (o43 P) (node (o56 P) (node (o72 P) (node (o110 P) (node (o178 P) nil nil) nil) (node (o142 P) (node (o210 P) nil nil) nil)) (node (o91 P) (node (o126 P) (node (o194 P) nil nil) nil) (node (o160 P) (node (o226 P) nil nil) nil))) (node (o64 P) (node (o83 P) (node (o118 P) (node (o186 P) nil nil) nil) (node (o152 P) (node (o218 P) nil nil) nil)) (node (o102 P) (node (o134 P) (node (o202 P) nil nil) nil) (node (o168 P) (node (o234 P) nil nil) nil))))) (node (boot_o_5 P) (node (boot_o_9 P) (node (o54 P) (node (o70 P) (node (o108 P) (node (o174 P) nil nil) nil) (node (o140 P) (node (o208 P) nil nil) nil)) (node (o89 P) (node (o124 P) (node (o192 P) nil nil) nil) (node (o158 P) (node (o224 P) nil nil) nil))) (node (o62 P) (node (o78 P) (node (o116 P) (node (o184 P) nil nil) nil) (node (o150 P) (node (o216 P) nil nil) nil)) (node (o100 P) (node (o132 P) (node (o200 P) nil nil) nil) (node (o166 P) (node (o232 P) nil nil) nil)))) (node (o45 P) (node (o58 P) (node (o74 P) (node (o112 P) (node (o180 P) nil nil) nil) (node (o146 P) (node (o212 P) nil nil) nil)) (node (o93 P) (node (o128 P) (node (o196 P) nil nil) nil) (node (o162 P) (node (o228 P) nil nil) nil))) (node (o66 P) (node (o85 P) (node (o120 P) (node (o188 P) nil nil) nil) (node (o154 P) (node (o220 P) nil nil) nil)) (node (o104 P) (node (o136 P) (node (o204 P) nil nil) nil) (node (o170 P) nil nil)))))) (node (o49 P) (node (boot_o_4 P) (node (boot_o_8 P) (node (o53 P) (node (o69 P) (node (o107 P) (node (o173 P) nil nil) nil) (node (o139 P) (node (o207 P) nil nil) nil)) (node (o88 P) (node (o123 P) (node (o191 P) nil nil) nil) (node (o157 P) (node (o223 P) nil nil) nil))) (node (o61 P) (node (o77 P) (node (o115 P) (node (o183 P) nil nil) nil) (node (o149 P) (node (o215 P) nil nil) nil)) (node (o99 P) (node (o131 P) (node (o199 P) nil nil) nil) (node (o165 P) (node (o231 P) nil nil) nil)))) (node (o177 P) (node (o57 P) (node (o73 P) (node (o111 P) (node (o179 P) nil nil) nil) (node (o143 P) (node (o211 P) nil nil) nil)) (node (o92 P) (node (o127 P) (node (o195 P) nil nil) nil) (node (o161 P) (node (o227 P) nil nil) nil))) (node (o65 P) (node (o84 P) (node (o119 P) (node (o187 P) nil nil) nil) (node (o153 P) (node (o219 P) nil nil) nil)) (node (o103 P) (node (o135 P) (node (o203 P) nil nil) nil) (node (o169 P) nil nil))))) (node (boot_o_6 P) (node (boot_o_10 P) (node (o55 P) (node (o71 P) (node (o109 P) (node (o175 P) nil nil) nil) (node (o141 P) (node (o209 P) nil nil) nil)) (node (o90 P) (node (o125 P) (node (o193 P) nil nil) nil) (node (o159 P) (node (o225 P) nil nil) nil))) (node (o63 P) (node (o82 P) (node (o117 P) (node (o185 P) nil nil) nil) (node (o151 P) (node (o217 P) nil nil) nil)) (node (o101 P) (node (o133 P) (node (o201 P) nil nil) nil) (node (o167 P) (node (o233 P) nil nil) nil)))) (node (o46 P) (node (o59 P) (node (o96 P) (node (o113 P) (node (o181 P) nil nil) nil) (node (o147 P) (node (o213 P) nil nil) nil)) (node (o97 P) (node (o129 P) (node (o197 P) nil nil) nil) (node (o163 P) (node (o229 P) nil nil) nil))) (node (o67 P) (node (o86 P) (node (o121 P) (node (o189 P) nil nil) nil) (node (o155 P) (node (o221 P) nil nil) nil)) (node (o105 P) (node (o137 P) (node (o205 P) nil nil) nil) (node (o171 P) nil nil))))))
noncomputable def tree313 (P : Params) : BT := node (boot_o_0 P) (node (boot_o_1 P) (node (o235 P) (node (boot_o_7 P) (node (o52 P) (node (o68 P) (node (o106 P) (node (o172 P) (node (o304 P) nil nil) nil) (node (o240 P) nil nil)) (node (o138 P) (node (o206 P) nil nil) (node (o272 P) nil nil))) (node (o87 P) (node (o122 P) (node (o190 P) nil nil) (node (o256 P) nil nil)) (node (o156 P) (node (o222 P) nil nil) (node (o288 P) nil nil)))) (node (o60 P) (node (o76 P) (node (o114 P) (node (o182 P) (node (o312 P) nil nil) nil) (node (o248 P) nil nil)) (node (o148 P) (node (o214 P) nil nil) (node (o280 P) nil nil))) (node (o98 P) (node (o130 P) (node (o198 P) nil nil) (node (o264 P) nil nil)) (node (o164 P) (node (o230 P) nil nil) (node (o296 P) nil nil))))) (node (o43 P) (node (o56 P) (node (o72 P) (node (o110 P) (node (o178 P) (node (o308 P) nil nil) nil) (node (o244 P) nil nil)) (node (o142 P) (node (o210 P) nil nil) (node (o276 P) nil nil))) (node (o91 P) (node (o126 P) (node (o194 P) nil nil) (node (o260 P) nil nil)) (node (o160 P) (node (o226 P) nil nil) (node (o292 P) nil nil)))) (node (o64 P) (node (o83 P) (node (o118 P) (node (o186 P) nil nil) (node (o252 P) nil nil)) (node (o152 P) (node (o218 P) nil nil) (node (o284 P) nil nil))) (node (o102 P) (node (o134 P) (node (o202 P) nil nil) (node (o268 P) nil nil)) (node (o168 P) (node (o234 P) nil nil) (node (o300 P) nil nil)))))) (node (boot_o_5 P) (node (boot_o_9 P) (node (o54 P) (node (o70 P) (node (o108 P) (node (o174 P) (node (o306 P) nil nil) nil) (node (o242 P) nil nil)) (node (o140 P) (node (o208 P) nil nil) (node (o274 P) nil nil))) (node (o89 P) (node (o124 P) (node (o192 P) nil nil) (node (o258 P) nil nil)) (node (o158 P) (node (o224 P) nil nil) (node (o290 P) nil nil)))) (node (o62 P) (node (o78 P) (node (o116 P) (node (o184 P) nil nil) (node (o250 P) nil nil)) (node (o150 P) (node (o216 P) nil nil) (node (o282 P) nil nil))) (node (o100 P) (node (o132 P) (node (o200 P) nil nil) (node (o266 P) nil nil)) (node (o166 P) (node (o232 P) nil nil) (node (o298 P) nil nil))))) (node (o45 P) (node (o58 P) (node (o74 P) (node (o112 P) (node (o180 P) (node (o310 P) nil nil) nil) (node (o246 P) nil nil)) (node (o146 P) (node (o212 P) nil nil) (node (o278 P) nil nil))) (node (o93 P) (node (o128 P) (node (o196 P) nil nil) (node (o262 P) nil nil)) (node (o162 P) (node (o228 P) nil nil) (node (o294 P) nil nil)))) (node (o66 P) (node (o85 P) (node (o120 P) (node (o188 P) nil nil) (node (o254 P) nil nil)) (node (o154 P) (node (o220 P) nil nil) (node (o286 P) nil nil))) (node (o104 P) (node (o136 P) (node (o204 P) nil nil) (node (o270 P) nil nil)) (node (o170 P) (node (o238 P) nil nil) (node (o302 P) nil nil))))))) (node (o49 P) (node (boot_o_4 P) (node (boot_o_8 P) (node (o53 P) (node (o69 P) (node (o107 P) (node (o173 P) (node (o305 P) nil nil) nil) (node (o241 P) nil nil)) (node (o139 P) (node (o207 P) nil nil) (node (o273 P) nil nil))) (node (o88 P) (node (o123 P) (node (o191 P) nil nil) (node (o257 P) nil nil)) (node (o157 P) (node (o223 P) nil nil) (node (o289 P) nil nil)))) (node (o61 P) (node (o77 P) (node (o115 P) (node (o183 P) (node (o313 P) nil nil) nil) (node (o249 P) nil nil)) (node (o149 P) (node (o215 P) nil nil) (node (o281 P) nil nil))) (node (o99 P) (node (o131 P) (node (o199 P) nil nil) (node (o265 P) nil nil)) (node (o165 P) (node (o231 P) nil nil) (node (o297 P) nil nil))))) (node (o236 P) (node (o57 P) (node (o73 P) (node (o111 P) (node (o179 P) (node (o309 P) nil nil) nil) (node (o245 P) nil nil)) (node (o143 P) (node (o211 P) nil nil) (node (o277 P) nil nil))) (node (o92 P) (node (o127 P) (node (o195 P) nil nil) (node (o261 P) nil nil)) (node (o161 P) (node (o227 P) nil nil) (node (o293 P) nil nil)))) (node (o65 P) (node (o84 P) (node (o119 P) (node (o187 P) nil nil) (node (o253 P) nil nil)) (node (o153 P) (node (o219 P) nil nil) (node (o285 P) nil nil))) (node (o103 P) (node (o135 P) (node (o203 P) nil nil) (node (o269 P) nil nil)) (node (o169 P) (node (o237 P) nil nil) (node (o301 P) nil nil)))))) (node (boot_o_6 P) (node (boot_o_10 P) (node (o55 P) (node (o71 P) (node (o109 P) (node (o175 P) (node (o307 P) nil nil) nil) (node (o243 P) nil nil)) (node (o141 P) (node (o209 P) nil nil) (node (o275 P) nil nil))) (node (o90 P) (node (o125 P) (node (o193 P) nil nil) (node (o259 P) nil nil)) (node (o159 P) (node (o225 P) nil nil) (node (o291 P) nil nil)))) (node (o63 P) (node (o82 P) (node (o117 P) (node (o185 P) nil nil) (node (o251 P) nil nil)) (node (o151 P) (node (o217 P) nil nil) (node (o283 P) nil nil))) (node (o101 P) (node (o133 P) (node (o201 P) nil nil) (node (o267 P) nil nil)) (node (o167 P) (node (o233 P) nil nil) (node (o299 P) nil nil))))) (node (o46 P) (node (o59 P) (node (o96 P) (node (o113 P) (node (o181 P) (node (o311 P) nil nil) nil) (node (o247 P) nil nil)) (node (o147 P) (node (o213 P) nil nil) (node (o279 P) nil nil))) (node (o97 P) (node (o129 P) (node (o197 P) nil nil) (node (o263 P) nil nil)) (node (o163 P) (node (o229 P) nil nil) (node (o295 P) nil nil)))) (node (o67 P) (node (o86 P) (node (o121 P) (node (o189 P) nil nil) (node (o255 P) nil nil)) (node (o155 P) (node (o221 P) nil nil) (node (o287 P) nil nil))) (node (o105 P) (node (o137 P) (node (o205 P) nil nil) (node (o271 P) nil nil)) (node (o171 P) (node (o239 P) nil nil) (node (o303 P) nil nil)))))))
noncomputable def tree369 (P : Params) : BT := node (boot_o_0 P) (node (boot_o_1 P) (node (o314 P) (node (boot_o_7 P) (node (o52 P) (node (o68 P) (node (o106 P) (node (o172 P) (node (o304 P) nil nil) nil) (node (o240 P) nil nil)) (node (o138 P) (node (o206 P) (node (o338 P) nil nil) nil) (node (o272 P) nil nil))) (node (o87 P) (node (o122 P) (node (o190 P) (node (o322 P) nil nil) nil) (node (o256 P) nil nil)) (node (o156 P) (node (o222 P) (node (o354 P) nil nil) nil) (node (o288 P) nil nil)))) (node (o60 P) (node (o76 P) (node (o114 P) (node (o182 P) (node (o312 P) nil nil) nil) (node (o248 P) nil nil)) (node (o148 P) (node (o214 P) (node (o346 P) nil nil) nil) (node (o280 P) nil nil))) (node (o98 P) (node (o130 P) (node (o198 P) (node (o330 P) nil nil) nil) (node (o264 P) nil nil)) (node (o164 P) (node (o230 P) (node (o362 P) nil nil) nil) (node (o296 P) nil nil))))) (node (o43 P) (node (o56 P) (node (o72 P) (node (o110 P) (node (o178 P) (node (o308 P) nil nil) nil) (node (o244 P) nil nil)) (node (o142 P) (node (o210 P) (node (o342 P) nil nil) nil) (node (o276 P) nil nil))) (node (o91 P) (node (o126 P) (node (o194 P) (node (o326 P) nil nil) nil) (node (o260 P) nil nil)) (node (o160 P) (node (o226 P) (node (o358 P) nil nil) nil) (node (o292 P) nil nil)))) (node (o64 P) (node (o83 P) (node (o118 P) (node (o186 P) (node (o318 P) nil nil) nil) (node (o252 P) nil nil)) (node (o152 P) (node (o218 P) (node (o350 P) nil nil) nil) (node (o284 P) nil nil))) (node (o102 P) (node (o134 P) (node (o202 P) (node (o334 P) nil nil) nil) (node (o268 P) nil nil)) (node (o168 P) (node (o234 P) (node (o366 P) nil nil) nil) (node (o300 P) nil nil)))))) (node (boot_o_5 P) (node (boot_o_9 P) (node (o54 P) (node (o70 P) (node (o108 P) (node (o174 P) (node (o306 P) nil nil) nil) (node (o242 P) nil nil)) (node (o140 P) (node (o208 P) (node (o340 P) nil nil) nil) (node (o274 P) nil nil))) (node (o89 P) (node (o124 P) (node (o192 P) (node (o324 P) nil nil) nil) (node (o258 P) nil nil)) (node (o158 P) (node (o224 P) (node (o356 P) nil nil) nil) (node (o290 P) nil nil)))) (node (o62 P) (node (o78 P) (node (o116 P) (node (o184 P) (node (o316 P) nil nil) nil) (node (o250 P) nil nil)) (node (o150 P) (node (o216 P) (node (o348 P) nil nil) nil) (node (o282 P) nil nil))) (node (o100 P) (node (o132 P) (node (o200 P) (node (o332 P) nil nil) nil) (node (o266 P) nil nil)) (node (o166 P) (node (o232 P) (node (o364 P) nil nil) nil) (node (o298 P) nil nil))))) (node (o45 P) (node (o58 P) (node (o74 P) (node (o112 P) (node (o180 P) (node (o310 P) nil nil) nil) (node (o246 P) nil nil)) (node (o146 P) (node (o212 P) (node (o344 P) nil nil) nil) (node (o278 P) nil nil))) (node (o93 P) (node (o128 P) (node (o196 P) (node (o328 P) nil nil) nil) (node (o262 P) nil nil)) (node (o162 P) (node (o228 P) (node (o360 P) nil nil) nil) (node (o294 P) nil nil)))) (node (o66 P) (node (o85 P) (node (o120 P) (node (o188 P) (node (o320 P) nil nil) nil) (node (o254 P) nil nil)) (node (o154 P) (node (o220 P) (node (o352 P) nil nil) nil) (node (o286 P) nil nil))) (node (o104 P) (node (o136 P) (node (o204 P) (node (o336 P) nil nil) nil) (node (o270 P) nil nil)) (node (o170 P) (node (o238 P) (node (o368 P) nil nil) nil) (node (o302 P) nil nil))))))) (node (o49 P) (node (boot_o_4 P) (node (boot_o_8 P) (node (o53 P) (node (o69 P) (node (o107 P) (node (o173 P) (node (o305 P) nil nil) nil) (node (o241 P) nil nil)) (node (o139 P) (node (o207 P) (node (o339 P) nil nil) nil) (node (o273 P) nil nil))) (node (o88 P) (node (o123 P) (node (o191 P) (node (o323 P) nil nil) nil) (node (o257 P) nil nil)) (node (o157 P) (node (o223 P) (node (o355 P) nil nil) nil) (node (o289 P) nil nil)))) (node (o61 P) (node (o77 P) (node (o115 P) (node (o183 P) (node (o313 P) nil nil) nil) (node (o249 P) nil nil)) (node (o149 P) (node (o215 P) (node (o347 P) nil nil) nil) (node (o281 P) nil nil))) (node (o99 P) (node (o131 P) (node (o199 P) (node (o331 P) nil nil) nil) (node (o265 P) nil nil)) (node (o165 P) (node (o231 P) (node (o363 P) nil nil) nil) (node (o297 P) nil nil))))) (node (o315 P) (node (o57 P) (node (o73 P) (node (o111 P) (node (o179 P) (node (o309 P) nil nil) nil) (node (o245 P) nil nil)) (node (o143 P) (node (o211 P) (node (o343 P) nil nil) nil) (node (o277 P) nil nil))) (node (o92 P) (node (o127 P) (node (o195 P) (node (o327 P) nil nil) nil) (node (o261 P) nil nil)) (node (o161 P) (node (o227 P) (node (o359 P) nil nil) nil) (node (o293 P) nil nil)))) (node (o65 P) (node (o84 P) (node (o119 P) (node (o187 P) (node (o319 P) nil nil) nil) (node (o253 P) nil nil)) (node (o153 P) (node (o219 P) (node (o351 P) nil nil) nil) (node (o285 P) nil nil))) (node (o103 P) (node (o135 P) (node (o203 P) (node (o335 P) nil nil) nil) (node (o269 P) nil nil)) (node (o169 P) (node (o237 P) (node (o367 P) nil nil) nil) (node (o301 P) nil nil)))))) (node (boot_o_6 P) (node (boot_o_10 P) (node (o55 P) (node (o71 P) (node (o109 P) (node (o175 P) (node (o307 P) nil nil) nil) (node (o243 P) nil nil)) (node (o141 P) (node (o209 P) (node (o341 P) nil nil) nil) (node (o275 P) nil nil))) (node (o90 P) (node (o125 P) (node (o193 P) (node (o325 P) nil nil) nil) (node (o259 P) nil nil)) (node (o159 P) (node (o225 P) (node (o357 P) nil nil) nil) (node (o291 P) nil nil)))) (node (o63 P) (node (o82 P) (node (o117 P) (node (o185 P) (node (o317 P) nil nil) nil) (node (o251 P) nil nil)) (node (o151 P) (node (o217 P) (node (o349 P) nil nil) nil) (node (o283 P) nil nil))) (node (o101 P) (node (o133 P) (node (o201 P) (node (o333 P) nil nil) nil) (node (o267 P) nil nil)) (node (o167 P) (node (o233 P) (node (o365 P) nil nil) nil) (node (o299 P) nil nil))))) (node (o46 P) (node (o59 P) (node (o96 P) (node (o113 P) (node (o181 P) (node (o311 P) nil nil) nil) (node (o247 P) nil nil)) (node (o147 P) (node (o213 P) (node (o345 P) nil nil) nil) (node (o279 P) nil nil))) (node (o97 P) (node (o129 P) (node (o197 P) (node (o329 P) nil nil) nil) (node (o263 P) nil nil)) (node (o163 P) (node (o229 P) (node (o361 P) nil nil) nil) (node (o295 P) nil nil)))) (node (o67 P) (node (o86 P) (node (o121 P) (node (o189 P) (node (o321 P) nil nil) nil) (node (o255 P) nil nil)) (node (o155 P) (node (o221 P) (node (o353 P) nil nil) nil) (node (o287 P) nil nil))) (node (o105 P) (node (o137 P) (node (o205 P) (node (o337 P) nil nil) nil) (node (o271 P) nil nil)) (node (o171 P) (node (o239 P) (node (o369 P) nil nil) nil) (node (o303 P) nil nil)))))))
noncomputable def tree420 (P : Params) : BT := node (boot_o_0 P) (node (boot_o_1 P) (node (o370 P) (node (boot_o_7 P) (node (o52 P) (node (o68 P) (node (o106 P) (node (o172 P) (node (o304 P) nil nil) nil) (node (o240 P) (node (o372 P) nil nil) nil)) (node (o138 P) (node (o206 P) (node (o338 P) nil nil) nil) (node (o272 P) (node (o404 P) nil nil) nil))) (node (o87 P) (node (o122 P) (node (o190 P) (node (o322 P) nil nil) nil) (node (o256 P) (node (o388 P) nil nil) nil)) (node (o156 P) (node (o222 P) (node (o354 P) nil nil) nil) (node (o288 P) (node (o420 P) nil nil) nil)))) (node (o60 P) (node (o76 P) (node (o114 P) (node (o182 P) (node (o312 P) nil nil) nil) (node (o248 P) (node (o380 P) nil nil) nil)) (node (o148 P) (node (o214 P) (node (o346 P) nil nil) nil) (node (o280 P) (node (o412 P) nil nil) nil))) (node (o98 P) (node (o130 P) (node (o198 P) (node (o330 P) nil nil) nil) (node (o264 P) (node (o396 P) nil nil) nil)) (node (o164 P) (node (o230 P) (node (o362 P) nil nil) nil) (node (o296 P) nil nil))))) (node (o43 P) (node (o56 P) (node (o72 P) (node (o110 P) (node (o178 P) (node (o308 P) nil nil) nil) (node (o244 P) (node (o376 P) nil nil) nil)) (node (o142 P) (node (o210 P) (node (o342 P) nil nil) nil) (node (o276 P) (node (o408 P) nil nil) nil))) (node (o91 P) (node (o126 P) (node (o194 P) (node (o326 P) nil nil) nil) (node (o260 P) (node (o392 P) nil nil) nil)) (node (o160 P) (node (o226 P) (node (o358 P) nil nil) nil) (node (o292 P) nil nil)))) (node (o64 P) (node (o83 P) (node (o118 P) (node (o186 P) (node (o318 P) nil nil) nil) (node (o252 P) (node (o384 P) nil nil) nil)) (node (o152 P) (node (o218 P) (node (o350 P) nil nil) nil) (node (o284 P) (node (o416 P) nil nil) nil))) (node (o102 P) (node (o134 P) (node (o202 P) (node (o334 P) nil nil) nil) (node (o268 P) (node (o400 P) nil nil) nil)) (node (o168 P) (node (o234 P) (node (o366 P) nil nil) nil) (node (o300 P) nil nil)))))) (node (boot_o_5 P) (node (boot_o_9 P) (node (o54 P) (node (o70 P) (node (o108 P) (node (o174 P) (node (o306 P) nil nil) nil) (node (o242 P) (node (o374 P) nil nil) nil)) (node (o140 P) (node (o208 P) (node (o340 P) nil nil) nil) (node (o274 P) (node (o406 P) nil nil) nil))) (node (o89 P) (node (o124 P) (node (o192 P) (node (o324 P) nil nil) nil) (node (o258 P) (node (o390 P) nil nil) nil)) (node (o158 P) (node (o224 P) (node (o356 P) nil nil) nil) (node (o290 P) nil nil)))) (node (o62 P) (node (o78 P) (node (o116 P) (node (o184 P) (node (o316 P) nil nil) nil) (node (o250 P) (node (o382 P) nil nil) nil)) (node (o150 P) (node (o216 P) (node (o348 P) nil nil) nil) (node (o282 P) (node (o414 P) nil nil) nil))) (node (o100 P) (node (o132 P) (node (o200 P) (node (o332 P) nil nil) nil) (node (o266 P) (node (o398 P) nil nil) nil)) (node (o166 P) (node (o232 P) (node (o364 P) nil nil) nil) (node (o298 P) nil nil))))) (node (o45 P) (node (o58 P) (node (o74 P) (node (o112 P) (node (o180 P) (node (o310 P) nil nil) nil) (node (o246 P) (node (o378 P) nil nil) nil)) (node (o146 P) (node (o212 P) (node (o344 P) nil nil) nil) (node (o278 P) (node (o410 P) nil nil) nil))) (node (o93 P) (node (o128 P) (node (o196 P) (node (o328 P) nil nil) nil) (node (o262 P) (node (o394 P) nil nil) nil)) (node (o162 P) (node (o228 P) (node (o360 P) nil nil) nil) (node (o294 P) nil nil)))) (node (o66 P) (node (o85 P) (node (o120 P) (node (o188 P) (node (o320 P) nil nil) nil) (node (o254 P) (node (o386 P) nil nil) nil)) (node (o154 P) (node (o220 P) (node (o352 P) nil nil) nil) (node (o286 P) (node (o418 P) nil nil) nil))) (node (o104 P) (node (o136 P) (node (o204 P) (node (o336 P) nil nil) nil) (node (o270 P) (node (o402 P) nil nil) nil)) (node (o170 P) (node (o238 P) (node (o368 P) nil nil) nil) (node (o302 P) nil nil))))))) (node (o49 P) (node (boot_o_4 P) (node (boot_o_8 P) (node (o53 P) (node (o69 P) (node (o107 P) (node (o173 P) (node (o305 P) nil nil) nil) (node (o241 P) (node (o373 P) nil nil) nil)) (node (o139 P) (node (o207 P) (node (o339 P) nil nil) nil) (node (o273 P) (node (o405 P) nil nil) nil))) (node (o88 P) (node (o123 P) (node (o191 P) (node (o323 P) nil nil) nil) (node (o257 P) (node (o389 P) nil nil) nil)) (node (o157 P) (node (o223 P) (node (o355 P) nil nil) nil) (node (o289 P) nil nil)))) (node (o61 P) (node (o77 P) (node (o115 P) (node (o183 P) (node (o313 P) nil nil) nil) (node (o249 P) (node (o381 P) nil nil) nil)) (node (o149 P) (node (o215 P) (node (o347 P) nil nil) nil) (node (o281 P) (node (o413 P) nil nil) nil))) (node (o99 P) (node (o131 P) (node (o199 P) (node (o331 P) nil nil) nil) (node (o265 P) (node (o397 P) nil nil) nil)) (node (o165 P) (node (o231 P) (node (o363 P) nil nil) nil) (node (o297 P) nil nil))))) (node (o371 P) (node (o57 P) (node (o73 P) (node (o111 P) (node (o179 P) (node (o309 P) nil nil) nil) (node (o245 P) (node (o377 P) nil nil) nil)) (node (o143 P) (node (o211 P) (node (o343 P) nil nil) nil) (node (o277 P) (node (o409 P) nil nil) nil))) (node (o92 P) (node (o127 P) (node (o195 P) (node (o327 P) nil nil) nil) (node (o261 P) (node (o393 P) nil nil) nil)) (node (o161 P) (node (o227 P) (node (o359 P) nil nil) nil) (node (o293 P) nil nil)))) (node (o65 P) (node (o84 P) (node (o119 P) (node (o187 P) (node (o319 P) nil nil) nil) (node (o253 P) (node (o385 P) nil nil) nil)) (node (o153 P) (node (o219 P) (node (o351 P) nil nil) nil) (node (o285 P) (node (o417 P) nil nil) nil))) (node (o103 P) (node (o135 P) (node (o203 P) (node (o335 P) nil nil) nil) (node (o269 P) (node (o401 P) nil nil) nil)) (node (o169 P) (node (o237 P) (node (o367 P) nil nil) nil) (node (o301 P) nil nil)))))) (node (boot_o_6 P) (node (boot_o_10 P) (node (o55 P) (node (o71 P) (node (o109 P) (node (o175 P) (node (o307 P) nil nil) nil) (node (o243 P) (node (o375 P) nil nil) nil)) (node (o141 P) (node (o209 P) (node (o341 P) nil nil) nil) (node (o275 P) (node (o407 P) nil nil) nil))) (node (o90 P) (node (o125 P) (node (o193 P) (node (o325 P) nil nil) nil) (node (o259 P) (node (o391 P) nil nil) nil)) (node (o159 P) (node (o225 P) (node (o357 P) nil nil) nil) (node (o291 P) nil nil)))) (node (o63 P) (node (o82 P) (node (o117 P) (node (o185 P) (node (o317 P) nil nil) nil) (node (o251 P) (node (o383 P) nil nil) nil)) (node (o151 P) (node (o217 P) (node (o349 P) nil nil) nil) (node (o283 P) (node (o415 P) nil nil) nil))) (node (o101 P) (node (o133 P) (node (o201 P) (node (o333 P) nil nil) nil) (node (o267 P) (node (o399 P) nil nil) nil)) (node (o167 P) (node (o233 P) (node (o365 P) nil nil) nil) (node (o299 P) nil nil))))) (node (o46 P) (node (o59 P) (node (o96 P) (node (o113 P) (node (o181 P) (node (o311 P) nil nil) nil) (node (o247 P) (node (o379 P) nil nil) nil)) (node (o147 P) (node (o213 P) (node (o345 P) nil nil) nil) (node (o279 P) (node (o411 P) nil nil) nil))) (node (o97 P) (node (o129 P) (node (o197 P) (node (o329 P) nil nil) nil) (node (o263 P) (node (o395 P) nil nil) nil)) (node (o163 P) (node (o229 P) (node (o361 P) nil nil) nil) (node (o295 P) nil nil)))) (node (o67 P) (node (o86 P) (node (o121 P) (node (o189 P) (node (o321 P) nil nil) nil) (node (o255 P) (node (o387 P) nil nil) nil)) (node (o155 P) (node (o221 P) (node (o353 P) nil nil) nil) (node (o287 P) (node (o419 P) nil nil) nil))) (node (o105 P) (node (o137 P) (node (o205 P) (node (o337 P) nil nil) nil) (node (o271 P) (node (o403 P) nil nil) nil)) (node (o171 P) (node (o239 P) (node (o369 P) nil nil) nil) (node (o303 P) nil nil)))))))
noncomputable def tree476 (P : Params) : BT := node (boot_o_0 P) (node (boot_o_1 P) (node (o421 P) (node (boot_o_7 P) (node (o52 P) (node (o68 P) (node (o106 P) (node (o172 P) (node (o304 P) nil nil) (node (o438 P) nil nil)) (node (o240 P) (node (o372 P) nil nil) nil)) (node (o138 P) (node (o206 P) (node (o338 P) nil nil) (node (o470 P) nil nil)) (node (o272 P) (node (o404 P) nil nil) nil))) (node (o87 P) (node (o122 P) (node (o190 P) (node (o322 P) nil nil) (node (o454 P) nil nil)) (node (o256 P) (node (o388 P) nil nil) nil)) (node (o156 P) (node (o222 P) (node (o354 P) nil nil) nil) (node (o288 P) (node (o420 P) nil nil) nil)))) (node (o60 P) (node (o76 P) (node (o114 P) (node (o182 P) (node (o312 P) nil nil) (node (o446 P) nil nil)) (node (o248 P) (node (o380 P) nil nil) nil)) (node (o148 P) (node (o214 P) (node (o346 P) nil nil) nil) (node (o280 P) (node (o412 P) nil nil) nil))) (node (o98 P) (node (o130 P) (node (o198 P) (node (o330 P) nil nil) (node (o462 P) nil nil)) (node (o264 P) (node (o396 P) nil nil) nil)) (node (o164 P) (node (o230 P) (node (o362 P) nil nil) nil) (node (o296 P) (node (o430 P) nil nil) nil))))) (node (o43 P) (node (o56 P) (node (o72 P) (node (o110 P) (node (o178 P) (node (o308 P) nil nil) (node (o442 P) nil nil)) (node (o244 P) (node (o376 P) nil nil) nil)) (node (o142 P) (node (o210 P) (node (o342 P) nil nil) (node (o474 P) nil nil)) (node (o276 P) (node (o408 P) nil nil) nil))) (node (o91 P) (node (o126 P) (node (o194 P) (node (o326 P) nil nil) (node (o458 P) nil nil)) (node (o260 P) (node (o392 P) nil nil) nil)) (node (o160 P) (node (o226 P) (node (o358 P) nil nil) nil) (node (o292 P) (node (o426 P) nil nil) nil)))) (node (o64 P) (node (o83 P) (node (o118 P) (node (o186 P) (node (o318 P) nil nil) (node (o450 P) nil nil)) (node (o252 P) (node (o384 P) nil nil) nil)) (node (o152 P) (node (o218 P) (node (o350 P) nil nil) nil) (node (o284 P) (node (o416 P) nil nil) nil))) (node (o102 P) (node (o134 P) (node (o202 P) (node (o334 P) nil nil) (node (o466 P) nil nil)) (node (o268 P) (node (o400 P) nil nil) nil)) (node (o168 P) (node (o234 P) (node (o366 P) nil nil) nil) (node (o300 P) (node (o434 P) nil nil) nil)))))) (node (boot_o_5 P) (node (boot_o_9 P) (node (o54 P) (node (o70 P) (node (o108 P) (node (o174 P) (node (o306 P) nil nil) (node (o440 P) nil nil)) (node (o242 P) (node (o374 P) nil nil) nil)) (node (o140 P) (node (o208 P) (node (o340 P) nil nil) (node (o472 P) nil nil)) (node (o274 P) (node (o406 P) nil nil) nil))) (node (o89 P) (node (o124 P) (node (o192 P) (node (o324 P) nil nil) (node (o456 P) nil nil)) (node (o258 P) (node (o390 P) nil nil) nil)) (node (o158 P) (node (o224 P) (node (o356 P) nil nil) nil) (node (o290 P) (node (o424 P) nil nil) nil)))) (node (o62 P) (node (o78 P) (node (o116 P) (node (o184 P) (node (o316 P) nil nil) (node (o448 P) nil nil)) (node (o250 P) (node (o382 P) nil nil) nil)) (node (o150 P) (node (o216 P) (node (o348 P) nil nil) nil) (node (o282 P) (node (o414 P) nil nil) nil))) (node (o100 P) (node (o132 P) (node (o200 P) (node (o332 P) nil nil) (node (o464 P) nil nil)) (node (o266 P) (node (o398 P) nil nil) nil)) (node (o166 P) (node (o232 P) (node (o364 P) nil nil) nil) (node (o298 P) (node (o432 P) nil nil) nil))))) (node (o45 P) (node (o58 P) (node (o74 P) (node (o112 P) (node (o180 P) (node (o310 P) nil nil) (node (o444 P) nil nil)) (node (o246 P) (node (o378 P) nil nil) nil)) (node (o146 P) (node (o212 P) (node (o344 P) nil nil) (node (o476 P) nil nil)) (node (o278 P) (node (o410 P) nil nil) nil))) (node (o93 P) (node (o128 P) (node (o196 P) (node (o328 P) nil nil) (node (o460 P) nil nil)) (node (o262 P) (node (o394 P) nil nil) nil)) (node (o162 P) (node (o228 P) (node (o360 P) nil nil) nil) (node (o294 P) (node (o428 P) nil nil) nil)))) (node (o66 P) (node (o85 P) (node (o120 P) (node (o188 P) (node (o320 P) nil nil) (node (o452 P) nil nil)) (node (o254 P) (node (o386 P) nil nil) nil)) (node (o154 P) (node (o220 P) (node (o352 P) nil nil) nil) (node (o286 P) (node (o418 P) nil nil) nil))) (node (o104 P) (node (o136 P) (node (o204 P) (node (o336 P) nil nil) (node (o468 P) nil nil)) (node (o270 P) (node (o402 P) nil nil) nil)) (node (o170 P) (node (o238 P) (node (o368 P) nil nil) nil) (node (o302 P) (node (o436 P) nil nil) nil))))))) (node (o49 P) (node (boot_o_4 P) (node (boot_o_8 P) (node (o53 P) (node (o69 P) (node (o107 P) (node (o173 P) (node (o305 P) nil nil) (node (o439 P) nil nil)) (node (o241 P) (node (o373 P) nil nil) nil)) (node (o139 P) (node (o207 P) (node (o339 P) nil nil) (node (o471 P) nil nil)) (node (o273 P) (node (o405 P) nil nil) nil))) (node (o88 P) (node (o123 P) (node (o191 P) (node (o323 P) nil nil) (node (o455 P) nil nil)) (node (o257 P) (node (o389 P) nil nil) nil)) (node (o157 P) (node (o223 P) (node (o355 P) nil nil) nil) (node (o289 P) (node (o423 P) nil nil) nil)))) (node (o61 P) (node (o77 P) (node (o115 P) (node (o183 P) (node (o313 P) nil nil) (node (o447 P) nil nil)) (node (o249 P) (node (o381 P) nil nil) nil)) (node (o149 P) (node (o215 P) (node (o347 P) nil nil) nil) (node (o281 P) (node (o413 P) nil nil) nil))) (node (o99 P) (node (o131 P) (node (o199 P) (node (o331 P) nil nil) (node (o463 P) nil nil)) (node (o265 P) (node (o397 P) nil nil) nil)) (node (o165 P) (node (o231 P) (node (o363 P) nil nil) nil) (node (o297 P) (node (o431 P) nil nil) nil))))) (node (o422 P) (node (o57 P) (node (o73 P) (node (o111 P) (node (o179 P) (node (o309 P) nil nil) (node (o443 P) nil nil)) (node (o245 P) (node (o377 P) nil nil) nil)) (node (o143 P) (node (o211 P) (node (o343 P) nil nil) (node (o475 P) nil nil)) (node (o277 P) (node (o409 P) nil nil) nil))) (node (o92 P) (node (o127 P) (node (o195 P) (node (o327 P) nil nil) (node (o459 P) nil nil)) (node (o261 P) (node (o393 P) nil nil) nil)) (node (o161 P) (node (o227 P) (node (o359 P) nil nil) nil) (node (o293 P) (node (o427 P) nil nil) nil)))) (node (o65 P) (node (o84 P) (node (o119 P) (node (o187 P) (node (o319 P) nil nil) (node (o451 P) nil nil)) (node (o253 P) (node (o385 P) nil nil) nil)) (node (o153 P) (node (o219 P) (node (o351 P) nil nil) nil) (node (o285 P) (node (o417 P) nil nil) nil))) (node (o103 P) (node (o135 P) (node (o203 P) (node (o335 P) nil nil) (node (o467 P) nil nil)) (node (o269 P) (node (o401 P) nil nil) nil)) (node (o169 P) (node (o237 P) (node (o367 P) nil nil) nil) (node (o301 P) (node (o435 P) nil nil) nil)))))) (node (boot_o_6 P) (node (boot_o_10 P) (node (o55 P) (node (o71 P) (node (o109 P) (node (o175 P) (node (o307 P) nil nil) (node (o441 P) nil nil)) (node (o243 P) (node (o375 P) nil nil) nil)) (node (o141 P) (node (o209 P) (node (o341 P) nil nil) (node (o473 P) nil nil)) (node (o275 P) (node (o407 P) nil nil) nil))) (node (o90 P) (node (o125 P) (node (o193 P) (node (o325 P) nil nil) (node (o457 P) nil nil)) (node (o259 P) (node (o391 P) nil nil) nil)) (node (o159 P) (node (o225 P) (node (o357 P) nil nil) nil) (node (o291 P) (node (o425 P) nil nil) nil)))) (node (o63 P) (node (o82 P) (node (o117 P) (node (o185 P) (node (o317 P) nil nil) (node (o449 P) nil nil)) (node (o251 P) (node (o383 P) nil nil) nil)) (node (o151 P) (node (o217 P) (node (o349 P) nil nil) nil) (node (o283 P) (node (o415 P) nil nil) nil))) (node (o101 P) (node (o133 P) (node (o201 P) (node (o333 P) nil nil) (node (o465 P) nil nil)) (node (o267 P) (node (o399 P) nil nil) nil)) (node (o167 P) (node (o233 P) (node (o365 P) nil nil) nil) (node (o299 P) (node (o433 P) nil nil) nil))))) (node (o46 P) (node (o59 P) (node (o96 P) (node (o113 P) (node (o181 P) (node (o311 P) nil nil) (node (o445 P) nil nil)) (node (o247 P) (node (o379 P) nil nil) nil)) (node (o147 P) (node (o213 P) (node (o345 P) nil nil) nil) (node (o279 P) (node (o411 P) nil nil) nil))) (node (o97 P) (node (o129 P) (node (o197 P) (node (o329 P) nil nil) (node (o461 P) nil nil)) (node (o263 P) (node (o395 P) nil nil) nil)) (node (o163 P) (node (o229 P) (node (o361 P) nil nil) nil) (node (o295 P) (node (o429 P) nil nil) nil)))) (node (o67 P) (node (o86 P) (node (o121 P) (node (o189 P) (node (o321 P) nil nil) (node (o453 P) nil nil)) (node (o255 P) (node (o387 P) nil nil) nil)) (node (o155 P) (node (o221 P) (node (o353 P) nil nil) nil) (node (o287 P) (node (o419 P) nil nil) nil))) (node (o105 P) (node (o137 P) (node (o205 P) (node (o337 P) nil nil) (node (o469 P) nil nil)) (node (o271 P) (node (o403 P) nil nil) nil)) (node (o171 P) (node (o239 P) (node (o369 P) nil nil) nil) (node (o303 P) (node (o437 P) nil nil) nil)))))))
noncomputable def tree499 (P : Params) : BT := node (boot_o_0 P) (node (boot_o_1 P) (node (o477 P) (node (boot_o_7 P) (node (o52 P) (node (o68 P) (node (o106 P) (node (o172 P) (node (o304 P) nil nil) (node (o438 P) nil nil)) (node (o240 P) (node (o372 P) nil nil) nil)) (node (o138 P) (node (o206 P) (node (o338 P) nil nil) (node (o470 P) nil nil)) (node (o272 P) (node (o404 P) nil nil) nil))) (node (o87 P) (node (o122 P) (node (o190 P) (node (o322 P) nil nil) (node (o454 P) nil nil)) (node (o256 P) (node (o388 P) nil nil) nil)) (node (o156 P) (node (o222 P) (node (o354 P) nil nil) (node (o488 P) nil nil)) (node (o288 P) (node (o420 P) nil nil) nil)))) (node (o60 P) (node (o76 P) (node (o114 P) (node (o182 P) (node (o312 P) nil nil) (node (o446 P) nil nil)) (node (o248 P) (node (o380 P) nil nil) nil)) (node (o148 P) (node (o214 P) (node (o346 P) nil nil) (node (o480 P) nil nil)) (node (o280 P) (node (o412 P) nil nil) nil))) (node (o98 P) (node (o130 P) (node (o198 P) (node (o330 P) nil nil) (node (o462 P) nil nil)) (node (o264 P) (node (o396 P) nil nil) nil)) (node (o164 P) (node (o230 P) (node (o362 P) nil nil) (node (o496 P) nil nil)) (node (o296 P) (node (o430 P) nil nil) nil))))) (node (o43 P) (node (o56 P) (node (o72 P) (node (o110 P) (node (o178 P) (node (o308 P) nil nil) (node (o442 P) nil nil)) (node (o244 P) (node (o376 P) nil nil) nil)) (node (o142 P) (node (o210 P) (node (o342 P) nil nil) (node (o474 P) nil nil)) (node (o276 P) (node (o408 P) nil nil) nil))) (node (o91 P) (node (o126 P) (node (o194 P) (node (o326 P) nil nil) (node (o458 P) nil nil)) (node (o260 P) (node (o392 P) nil nil) nil)) (node (o160 P) (node (o226 P) (node (o358 P) nil nil) (node (o492 P) nil nil)) (node (o292 P) (node (o426 P) nil nil) nil)))) (node (o64 P) (node (o83 P) (node (o118 P) (node (o186 P) (node (o318 P) nil nil) (node (o450 P) nil nil)) (node (o252 P) (node (o384 P) nil nil) nil)) (node (o152 P) (node (o218 P) (node (o350 P) nil nil) (node (o484 P) nil nil)) (node (o284 P) (node (o416 P) nil nil) nil))) (node (o102 P) (node (o134 P) (node (o202 P) (node (o334 P) nil nil) (node (o466 P) nil nil)) (node (o268 P) (node (o400 P) nil nil) nil)) (node (o168 P) (node (o234 P) (node (o366 P) nil nil) nil) (node (o300 P) (node (o434 P) nil nil) nil)))))) (node (boot_o_5 P) (node (boot_o_9 P) (node (o54 P) (node (o70 P) (node (o108 P) (node (o174 P) (node (o306 P) nil nil) (node (o440 P) nil nil)) (node (o242 P) (node (o374 P) nil nil) nil)) (node (o140 P) (node (o208 P) (node (o340 P) nil nil) (node (o472 P) nil nil)) (node (o274 P) (node (o406 P) nil nil) nil))) (node (o89 P) (node (o124 P) (node (o192 P) (node (o324 P) nil nil) (node (o456 P) nil nil)) (node (o258 P) (node (o390 P) nil nil) nil)) (node (o158 P) (node (o224 P) (node (o356 P) nil nil) (node (o490 P) nil nil)) (node (o290 P) (node (o424 P) nil nil) nil)))) (node (o62 P) (node (o78 P) (node (o116 P) (node (o184 P) (node (o316 P) nil nil) (node (o448 P) nil nil)) (node (o250 P) (node (o382 P) nil nil) nil)) (node (o150 P) (node (o216 P) (node (o348 P) nil nil) (node (o482 P) nil nil)) (node (o282 P) (node (o414 P) nil nil) nil))) (node (o100 P) (node (o132 P) (node (o200 P) (node (o332 P) nil nil) (node (o464 P) nil nil)) (node (o266 P) (node (o398 P) nil nil) nil)) (node (o166 P) (node (o232 P) (node (o364 P) nil nil) (node (o498 P) nil nil)) (node (o298 P) (node (o432 P) nil nil) nil))))) (node (o45 P) (node (o58 P) (node (o74 P) (node (o112 P) (node (o180 P) (node (o310 P) nil nil) (node (o444 P) nil nil)) (node (o246 P) (node (o378 P) nil nil) nil)) (node (o146 P) (node (o212 P) (node (o344 P) nil nil) (node (o476 P) nil nil)) (node (o278 P) (node (o410 P) nil nil) nil))) (node (o93 P) (node (o128 P) (node (o196 P) (node (o328 P) nil nil) (node (o460 P) nil nil)) (node (o262 P) (node (o394 P) nil nil) nil)) (node (o162 P) (node (o228 P) (node (o360 P) nil nil) (node (o494 P) nil nil)) (node (o294 P) (node (o428 P) nil nil) nil)))) (node (o66 P) (node (o85 P) (node (o120 P) (node (o188 P) (node (o320 P) nil nil) (node (o452 P) nil nil)) (node (o254 P) (node (o386 P) nil nil) nil)) (node (o154 P) (node (o220 P) (node (o352 P) nil nil) (node (o486 P) nil nil)) (node (o286 P) (node (o418 P) nil nil) nil))) (node (o104 P) (node (o136 P) (node (o204 P) (node (o336 P) nil nil) (node (o468 P) nil nil)) (node (o270 P) (node (o402 P) nil nil) nil)) (node (o170 P) (node (o238 P) (node (o368 P) nil nil) nil) (node (o302 P) (node (o436 P) nil nil) nil))))))) (node (o49 P) (node (boot_o_4 P) (node (boot_o_8 P) (node (o53 P) (node (o69 P) (node (o107 P) (node (o173 P) (node (o305 P) nil nil) (node (o439 P) nil nil)) (node (o241 P) (node (o373 P) nil nil) nil)) (node (o139 P) (node (o207 P) (node (o339 P) nil nil) (node (o471 P) nil nil)) (node (o273 P) (node (o405 P) nil nil) nil))) (node (o88 P) (node (o123 P) (node (o191 P) (node (o323 P) nil nil) (node (o455 P) nil nil)) (node (o257 P) (node (o389 P) nil nil) nil)) (node (o157 P) (node (o223 P) (node (o355 P) nil nil) (node (o489 P) nil nil)) (node (o289 P) (node (o423 P) nil nil) nil)))) (node (o61 P) (node (o77 P) (node (o115 P) (node (o183 P) (node (o313 P) nil nil) (node (o447 P) nil nil)) (node (o249 P) (node (o381 P) nil nil) nil)) (node (o149 P) (node (o215 P) (node (o347 P) nil nil) (node (o481 P) nil nil)) (node (o281 P) (node (o413 P) nil nil) nil))) (node (o99 P) (node (o131 P) (node (o199 P) (node (o331 P) nil nil) (node (o463 P) nil nil)) (node (o265 P) (node (o397 P) nil nil) nil)) (node (o165 P) (node (o231 P) (node (o363 P) nil nil) (node (o497 P) nil nil)) (node (o297 P) (node (o431 P) nil nil) nil))))) (node (o478 P) (node (o57 P) (node (o73 P) (node (o111 P) (node (o179 P) (node (o309 P) nil nil) (node (o443 P) nil nil)) (node (o245 P) (node (o377 P) nil nil) nil)) (node (o143 P) (node (o211 P) (node (o343 P) nil nil) (node (o475 P) nil nil)) (node (o277 P) (node (o409 P) nil nil) nil))) (node (o92 P) (node (o127 P) (node (o195 P) (node (o327 P) nil nil) (node (o459 P) nil nil)) (node (o261 P) (node (o393 P) nil nil) nil)) (node (o161 P) (node (o227 P) (node (o359 P) nil nil) (node (o493 P) nil nil)) (node (o293 P) (node (o427 P) nil nil) nil)))) (node (o65 P) (node (o84 P) (node (o119 P) (node (o187 P) (node (o319 P) nil nil) (node (o451 P) nil nil)) (node (o253 P) (node (o385 P) nil nil) nil)) (node (o153 P) (node (o219 P) (node (o351 P) nil nil) (node (o485 P) nil nil)) (node (o285 P) (node (o417 P) nil nil) nil))) (node (o103 P) (node (o135 P) (node (o203 P) (node (o335 P) nil nil) (node (o467 P) nil nil)) (node (o269 P) (node (o401 P) nil nil) nil)) (node (o169 P) (node (o237 P) (node (o367 P) nil nil) nil) (node (o301 P) (node (o435 P) nil nil) nil)))))) (node (boot_o_6 P) (node (boot_o_10 P) (node (o55 P) (node (o71 P) (node (o109 P) (node (o175 P) (node (o307 P) nil nil) (node (o441 P) nil nil)) (node (o243 P) (node (o375 P) nil nil) nil)) (node (o141 P) (node (o209 P) (node (o341 P) nil nil) (node (o473 P) nil nil)) (node (o275 P) (node (o407 P) nil nil) nil))) (node (o90 P) (node (o125 P) (node (o193 P) (node (o325 P) nil nil) (node (o457 P) nil nil)) (node (o259 P) (node (o391 P) nil nil) nil)) (node (o159 P) (node (o225 P) (node (o357 P) nil nil) (node (o491 P) nil nil)) (node (o291 P) (node (o425 P) nil nil) nil)))) (node (o63 P) (node (o82 P) (node (o117 P) (node (o185 P) (node (o317 P) nil nil) (node (o449 P) nil nil)) (node (o251 P) (node (o383 P) nil nil) nil)) (node (o151 P) (node (o217 P) (node (o349 P) nil nil) (node (o483 P) nil nil)) (node (o283 P) (node (o415 P) nil nil) nil))) (node (o101 P) (node (o133 P) (node (o201 P) (node (o333 P) nil nil) (node (o465 P) nil nil)) (node (o267 P) (node (o399 P) nil nil) nil)) (node (o167 P) (node (o233 P) (node (o365 P) nil nil) (node (o499 P) nil nil)) (node (o299 P) (node (o433 P) nil nil) nil))))) (node (o46 P) (node (o59 P) (node (o96 P) (node (o113 P) (node (o181 P) (node (o311 P) nil nil) (node (o445 P) nil nil)) (node (o247 P) (node (o379 P) nil nil) nil)) (node (o147 P) (node (o213 P) (node (o345 P) nil nil) (node (o479 P) nil nil)) (node (o279 P) (node (o411 P) nil nil) nil))) (node (o97 P) (node (o129 P) (node (o197 P) (node (o329 P) nil nil) (node (o461 P) nil nil)) (node (o263 P) (node (o395 P) nil nil) nil)) (node (o163 P) (node (o229 P) (node (o361 P) nil nil) (node (o495 P) nil nil)) (node (o295 P) (node (o429 P) nil nil) nil)))) (node (o67 P) (node (o86 P) (node (o121 P) (node (o189 P) (node (o321 P) nil nil) (node (o453 P) nil nil)) (node (o255 P) (node (o387 P) nil nil) nil)) (node (o155 P) (node (o221 P) (node (o353 P) nil nil) (node (o487 P) nil nil)) (node (o287 P) (node (o419 P) nil nil) nil))) (node (o105 P) (node (o137 P) (node (o205 P) (node (o337 P) nil nil) (node (o469 P) nil nil)) (node (o271 P) (node (o403 P) nil nil) nil)) (node (o171 P) (node (o239 P) (node (o369 P) nil nil) nil) (node (o303 P) (node (o437 P) nil nil) nil)))))))
noncomputable def tree563 (P : Params) : BT := node (boot_o_0 P) (node (boot_o_1 P) (node (o500 P) (node (boot_o_7 P) (node (o52 P) (node (o68 P) (node (o106 P) (node (o172 P) (node (o304 P) nil nil) (node (o438 P) nil nil)) (node (o240 P) (node (o372 P) nil nil) (node (o506 P) nil nil))) (node (o138 P) (node (o206 P) (node (o338 P) nil nil) (node (o470 P) nil nil)) (node (o272 P) (node (o404 P) nil nil) (node (o538 P) nil nil)))) (node (o87 P) (node (o122 P) (node (o190 P) (node (o322 P) nil nil) (node (o454 P) nil nil)) (node (o256 P) (node (o388 P) nil nil) (node (o522 P) nil nil))) (node (o156 P) (node (o222 P) (node (o354 P) nil nil) (node (o488 P) nil nil)) (node (o288 P) (node (o420 P) nil nil) (node (o554 P) nil nil))))) (node (o60 P) (node (o76 P) (node (o114 P) (node (o182 P) (node (o312 P) nil nil) (node (o446 P) nil nil)) (node (o248 P) (node (o380 P) nil nil) (node (o514 P) nil nil))) (node (o148 P) (node (o214 P) (node (o346 P) nil nil) (node (o480 P) nil nil)) (node (o280 P) (node (o412 P) nil nil) (node (o546 P) nil nil)))) (node (o98 P) (node (o130 P) (node (o198 P) (node (o330 P) nil nil) (node (o462 P) nil nil)) (node (o264 P) (node (o396 P) nil nil) (node (o530 P) nil nil))) (node (o164 P) (node (o230 P) (node (o362 P) nil nil) (node (o496 P) nil nil)) (node (o296 P) (node (o430 P) nil nil) (node (o562 P) nil nil)))))) (node (o43 P) (node (o56 P) (node (o72 P) (node (o110 P) (node (o178 P) (node (o308 P) nil nil) (node (o442 P) nil nil)) (node (o244 P) (node (o376 P) nil nil) (node (o510 P) nil nil))) (node (o142 P) (node (o210 P) (node (o342 P) nil nil) (node (o474 P) nil nil)) (node (o276 P) (node (o408 P) nil nil) (node (o542 P) nil nil)))) (node (o91 P) (node (o126 P) (node (o194 P) (node (o326 P) nil nil) (node (o458 P) nil nil)) (node (o260 P) (node (o392 P) nil nil) (node (o526 P) nil nil))) (node (o160 P) (node (o226 P) (node (o358 P) nil nil) (node (o492 P) nil nil)) (node (o292 P) (node (o426 P) nil nil) (node (o558 P) nil nil))))) (node (o64 P) (node (o83 P) (node (o118 P) (node (o186 P) (node (o318 P) nil nil) (node (o450 P) nil nil)) (node (o252 P) (node (o384 P) nil nil) (node (o518 P) nil nil))) (node (o152 P) (node (o218 P) (node (o350 P) nil nil) (node (o484 P) nil nil)) (node (o284 P) (node (o416 P) nil nil) (node (o550 P) nil nil)))) (node (o102 P) (node (o134 P) (node (o202 P) (node (o334 P) nil nil) (node (o466 P) nil nil)) (node (o268 P) (node (o400 P) nil nil) (node (o534 P) nil nil))) (node (o168 P) (node (o234 P) (node (o366 P) nil nil) (node (o502 P) nil nil)) (node (o300 P) (node (o434 P) nil nil) nil)))))) (node (boot_o_5 P) (node (boot_o_9 P) (node (o54 P) (node (o70 P) (node (o108 P) (node (o174 P) (node (o306 P) nil nil) (node (o440 P) nil nil)) (node (o242 P) (node (o374 P) nil nil) (node (o508 P) nil nil))) (node (o140 P) (node (o208 P) (node (o340 P) nil nil) (node (o472 P) nil nil)) (node (o274 P) (node (o406 P) nil nil) (node (o540 P) nil nil)))) (node (o89 P) (node (o124 P) (node (o192 P) (node (o324 P) nil nil) (node (o456 P) nil nil)) (node (o258 P) (node (o390 P) nil nil) (node (o524 P) nil nil))) (node (o158 P) (node (o224 P) (node (o356 P) nil nil) (node (o490 P) nil nil)) (node (o290 P) (node (o424 P) nil nil) (node (o556 P) nil nil))))) (node (o62 P) (node (o78 P) (node (o116 P) (node (o184 P) (node (o316 P) nil nil) (node (o448 P) nil nil)) (node (o250 P) (node (o382 P) nil nil) (node (o516 P) nil nil))) (node (o150 P) (node (o216 P) (node (o348 P) nil nil) (node (o482 P) nil nil)) (node (o282 P) (node (o414 P) nil nil) (node (o548 P) nil nil)))) (node (o100 P) (node (o132 P) (node (o200 P) (node (o332 P) nil nil) (node (o464 P) nil nil)) (node (o266 P) (node (o398 P) nil nil) (node (o532 P) nil nil))) (node (o166 P) (node (o232 P) (node (o364 P) nil nil) (node (o498 P) nil nil)) (node (o298 P) (node (o432 P) nil nil) nil))))) (node (o45 P) (node (o58 P) (node (o74 P) (node (o112 P) (node (o180 P) (node (o310 P) nil nil) (node (o444 P) nil nil)) (node (o246 P) (node (o378 P) nil nil) (node (o512 P) nil nil))) (node (o146 P) (node (o212 P) (node (o344 P) nil nil) (node (o476 P) nil nil)) (node (o278 P) (node (o410 P) nil nil) (node (o544 P) nil nil)))) (node (o93 P) (node (o128 P) (node (o196 P) (node (o328 P) nil nil) (node (o460 P) nil nil)) (node (o262 P) (node (o394 P) nil nil) (node (o528 P) nil nil))) (node (o162 P) (node (o228 P) (node (o360 P) nil nil) (node (o494 P) nil nil)) (node (o294 P) (node (o428 P) nil nil) (node (o560 P) nil nil))))) (node (o66 P) (node (o85 P) (node (o120 P) (node (o188 P) (node (o320 P) nil nil) (node (o452 P) nil nil)) (node (o254 P) (node (o386 P) nil nil) (node (o520 P) nil nil))) (node (o154 P) (node (o220 P) (node (o352 P) nil nil) (node (o486 P) nil nil)) (node (o286 P) (node (o418 P) nil nil) (node (o552 P) nil nil)))) (node (o104 P) (node (o136 P) (node (o204 P) (node (o336 P) nil nil) (node (o468 P) nil nil)) (node (o270 P) (node (o402 P) nil nil) (node (o536 P) nil nil))) (node (o170 P) (node (o238 P) (node (o368 P) nil nil) (node (o504 P) nil nil)) (node (o302 P) (node (o436 P) nil nil) nil))))))) (node (o49 P) (node (boot_o_4 P) (node (boot_o_8 P) (node (o53 P) (node (o69 P) (node (o107 P) (node (o173 P) (node (o305 P) nil nil) (node (o439 P) nil nil)) (node (o241 P) (node (o373 P) nil nil) (node (o507 P) nil nil))) (node (o139 P) (node (o207 P) (node (o339 P) nil nil) (node (o471 P) nil nil)) (node (o273 P) (node (o405 P) nil nil) (node (o539 P) nil nil)))) (node (o88 P) (node (o123 P) (node (o191 P) (node (o323 P) nil nil) (node (o455 P) nil nil)) (node (o257 P) (node (o389 P) nil nil) (node (o523 P) nil nil))) (node (o157 P) (node (o223 P) (node (o355 P) nil nil) (node (o489 P) nil nil)) (node (o289 P) (node (o423 P) nil nil) (node (o555 P) nil nil))))) (node (o61 P) (node (o77 P) (node (o115 P) (node (o183 P) (node (o313 P) nil nil) (node (o447 P) nil nil)) (node (o249 P) (node (o381 P) nil nil) (node (o515 P) nil nil))) (node (o149 P) (node (o215 P) (node (o347 P) nil nil) (node (o481 P) nil nil)) (node (o281 P) (node (o413 P) nil nil) (node (o547 P) nil nil)))) (node (o99 P) (node (o131 P) (node (o199 P) (node (o331 P) nil nil) (node (o463 P) nil nil)) (node (o265 P) (node (o397 P) nil nil) (node (o531 P) nil nil))) (node (o165 P) (node (o231 P) (node (o363 P) nil nil) (node (o497 P) nil nil)) (node (o297 P) (node (o431 P) nil nil) (node (o563 P) nil nil)))))) (node (o501 P) (node (o57 P) (node (o73 P) (node (o111 P) (node (o179 P) (node (o309 P) nil nil) (node (o443 P) nil nil)) (node (o245 P) (node (o377 P) nil nil) (node (o511 P) nil nil))) (node (o143 P) (node (o211 P) (node (o343 P) nil nil) (node (o475 P) nil nil)) (node (o277 P) (node (o409 P) nil nil) (node (o543 P) nil nil)))) (node (o92 P) (node (o127 P) (node (o195 P) (node (o327 P) nil nil) (node (o459 P) nil nil)) (node (o261 P) (node (o393 P) nil nil) (node (o527 P) nil nil))) (node (o161 P) (node (o227 P) (node (o359 P) nil nil) (node (o493 P) nil nil)) (node (o293 P) (node (o427 P) nil nil) (node (o559 P) nil nil))))) (node (o65 P) (node (o84 P) (node (o119 P) (node (o187 P) (node (o319 P) nil nil) (node (o451 P) nil nil)) (node (o253 P) (node (o385 P) nil nil) (node (o519 P) nil nil))) (node (o153 P) (node (o219 P) (node (o351 P) nil nil) (node (o485 P) nil nil)) (node (o285 P) (node (o417 P) nil nil) (node (o551 P) nil nil)))) (node (o103 P) (node (o135 P) (node (o203 P) (node (o335 P) nil nil) (node (o467 P) nil nil)) (node (o269 P) (node (o401 P) nil nil) (node (o535 P) nil nil))) (node (o169 P) (node (o237 P) (node (o367 P) nil nil) (node (o503 P) nil nil)) (node (o301 P) (node (o435 P) nil nil) nil)))))) (node (boot_o_6 P) (node (boot_o_10 P) (node (o55 P) (node (o71 P) (node (o109 P) (node (o175 P) (node (o307 P) nil nil) (node (o441 P) nil nil)) (node (o243 P) (node (o375 P) nil nil) (node (o509 P) nil nil))) (node (o141 P) (node (o209 P) (node (o341 P) nil nil) (node (o473 P) nil nil)) (node (o275 P) (node (o407 P) nil nil) (node (o541 P) nil nil)))) (node (o90 P) (node (o125 P) (node (o193 P) (node (o325 P) nil nil) (node (o457 P) nil nil)) (node (o259 P) (node (o391 P) nil nil) (node (o525 P) nil nil))) (node (o159 P) (node (o225 P) (node (o357 P) nil nil) (node (o491 P) nil nil)) (node (o291 P) (node (o425 P) nil nil) (node (o557 P) nil nil))))) (node (o63 P) (node (o82 P) (node (o117 P) (node (o185 P) (node (o317 P) nil nil) (node (o449 P) nil nil)) (node (o251 P) (node (o383 P) nil nil) (node (o517 P) nil nil))) (node (o151 P) (node (o217 P) (node (o349 P) nil nil) (node (o483 P) nil nil)) (node (o283 P) (node (o415 P) nil nil) (node (o549 P) nil nil)))) (node (o101 P) (node (o133 P) (node (o201 P) (node (o333 P) nil nil) (node (o465 P) nil nil)) (node (o267 P) (node (o399 P) nil nil) (node (o533 P) nil nil))) (node (o167 P) (node (o233 P) (node (o365 P) nil nil) (node (o499 P) nil nil)) (node (o299 P) (node (o433 P) nil nil) nil))))) (node (o46 P) (node (o59 P) (node (o96 P) (node (o113 P) (node (o181 P) (node (o311 P) nil nil) (node (o445 P) nil nil)) (node (o247 P) (node (o379 P) nil nil) (node (o513 P) nil nil))) (node (o147 P) (node (o213 P) (node (o345 P) nil nil) (node (o479 P) nil nil)) (node (o279 P) (node (o411 P) nil nil) (node (o545 P) nil nil)))) (node (o97 P) (node (o129 P) (node (o197 P) (node (o329 P) nil nil) (node (o461 P) nil nil)) (node (o263 P) (node (o395 P) nil nil) (node (o529 P) nil nil))) (node (o163 P) (node (o229 P) (node (o361 P) nil nil) (node (o495 P) nil nil)) (node (o295 P) (node (o429 P) nil nil) (node (o561 P) nil nil))))) (node (o67 P) (node (o86 P) (node (o121 P) (node (o189 P) (node (o321 P) nil nil) (node (o453 P) nil nil)) (node (o255 P) (node (o387 P) nil nil) (node (o521 P) nil nil))) (node (o155 P) (node (o221 P) (node (o353 P) nil nil) (node (o487 P) nil nil)) (node (o287 P) (node (o419 P) nil nil) (node (o553 P) nil nil)))) (node (o105 P) (node (o137 P) (node (o205 P) (node (o337 P) nil nil) (node (o469 P) nil nil)) (node (o271 P) (node (o403 P) nil nil) (node (o537 P) nil nil))) (node (o171 P) (node (o239 P) (node (o369 P) nil nil) (node (o505 P) nil nil)) (node (o303 P) (node (o437 P) nil nil) nil)))))))
noncomputable def tree643 (P : Params) : BT := node (boot_o_0 P) (node (boot_o_1 P) (node (o564 P) (node (boot_o_7 P) (node (o52 P) (node (o68 P) (node (o106 P) (node (o172 P) (node (o304 P) (node (o572 P) nil nil) nil) (node (o438 P) nil nil)) (node (o240 P) (node (o372 P) (node (o636 P) nil nil) nil) (node (o506 P) nil nil))) (node (o138 P) (node (o206 P) (node (o338 P) (node (o604 P) nil nil) nil) (node (o470 P) nil nil)) (node (o272 P) (node (o404 P) nil nil) (node (o538 P) nil nil)))) (node (o87 P) (node (o122 P) (node (o190 P) (node (o322 P) (node (o588 P) nil nil) nil) (node (o454 P) nil nil)) (node (o256 P) (node (o388 P) nil nil) (node (o522 P) nil nil))) (node (o156 P) (node (o222 P) (node (o354 P) (node (o620 P) nil nil) nil) (node (o488 P) nil nil)) (node (o288 P) (node (o420 P) nil nil) (node (o554 P) nil nil))))) (node (o60 P) (node (o76 P) (node (o114 P) (node (o182 P) (node (o312 P) (node (o580 P) nil nil) nil) (node (o446 P) nil nil)) (node (o248 P) (node (o380 P) nil nil) (node (o514 P) nil nil))) (node (o148 P) (node (o214 P) (node (o346 P) (node (o612 P) nil nil) nil) (node (o480 P) nil nil)) (node (o280 P) (node (o412 P) nil nil) (node (o546 P) nil nil)))) (node (o98 P) (node (o130 P) (node (o198 P) (node (o330 P) (node (o596 P) nil nil) nil) (node (o462 P) nil nil)) (node (o264 P) (node (o396 P) nil nil) (node (o530 P) nil nil))) (node (o164 P) (node (o230 P) (node (o362 P) (node (o628 P) nil nil) nil) (node (o496 P) nil nil)) (node (o296 P) (node (o430 P) nil nil) (node (o562 P) nil nil)))))) (node (o43 P) (node (o56 P) (node (o72 P) (node (o110 P) (node (o178 P) (node (o308 P) (node (o576 P) nil nil) nil) (node (o442 P) nil nil)) (node (o244 P) (node (o376 P) (node (o640 P) nil nil) nil) (node (o510 P) nil nil))) (node (o142 P) (node (o210 P) (node (o342 P) (node (o608 P) nil nil) nil) (node (o474 P) nil nil)) (node (o276 P) (node (o408 P) nil nil) (node (o542 P) nil nil)))) (node (o91 P) (node (o126 P) (node (o194 P) (node (o326 P) (node (o592 P) nil nil) nil) (node (o458 P) nil nil)) (node (o260 P) (node (o392 P) nil nil) (node (o526 P) nil nil))) (node (o160 P) (node (o226 P) (node (o358 P) (node (o624 P) nil nil) nil) (node (o492 P) nil nil)) (node (o292 P) (node (o426 P) nil nil) (node (o558 P) nil nil))))) (node (o64 P) (node (o83 P) (node (o118 P) (node (o186 P) (node (o318 P) (node (o584 P) nil nil) nil) (node (o450 P) nil nil)) (node (o252 P) (node (o384 P) nil nil) (node (o518 P) nil nil))) (node (o152 P) (node (o218 P) (node (o350 P) (node (o616 P) nil nil) nil) (node (o484 P) nil nil)) (node (o284 P) (node (o416 P) nil nil) (node (o550 P) nil nil)))) (node (o102 P) (node (o134 P) (node (o202 P) (node (o334 P) (node (o600 P) nil nil) nil) (node (o466 P) nil nil)) (node (o268 P) (node (o400 P) nil nil) (node (o534 P) nil nil))) (node (o168 P) (node (o234 P) (node (o366 P) (node (o632 P) nil nil) nil) (node (o502 P) nil nil)) (node (o300 P) (node (o434 P) nil nil) (node (o568 P) nil nil))))))) (node (boot_o_5 P) (node (boot_o_9 P) (node (o54 P) (node (o70 P) (node (o108 P) (node (o174 P) (node (o306 P) (node (o574 P) nil nil) nil) (node (o440 P) nil nil)) (node (o242 P) (node (o374 P) (node (o638 P) nil nil) nil) (node (o508 P) nil nil))) (node (o140 P) (node (o208 P) (node (o340 P) (node (o606 P) nil nil) nil) (node (o472 P) nil nil)) (node (o274 P) (node (o406 P) nil nil) (node (o540 P) nil nil)))) (node (o89 P) (node (o124 P) (node (o192 P) (node (o324 P) (node (o590 P) nil nil) nil) (node (o456 P) nil nil)) (node (o258 P) (node (o390 P) nil nil) (node (o524 P) nil nil))) (node (o158 P) (node (o224 P) (node (o356 P) (node (o622 P) nil nil) nil) (node (o490 P) nil nil)) (node (o290 P) (node (o424 P) nil nil) (node (o556 P) nil nil))))) (node (o62 P) (node (o78 P) (node (o116 P) (node (o184 P) (node (o316 P) (node (o582 P) nil nil) nil) (node (o448 P) nil nil)) (node (o250 P) (node (o382 P) nil nil) (node (o516 P) nil nil))) (node (o150 P) (node (o216 P) (node (o348 P) (node (o614 P) nil nil) nil) (node (o482 P) nil nil)) (node (o282 P) (node (o414 P) nil nil) (node (o548 P) nil nil)))) (node (o100 P) (node (o132 P) (node (o200 P) (node (o332 P) (node (o598 P) nil nil) nil) (node (o464 P) nil nil)) (node (o266 P) (node (o398 P) nil nil) (node (o532 P) nil nil))) (node (o166 P) (node (o232 P) (node (o364 P) (node (o630 P) nil nil) nil) (node (o498 P) nil nil)) (node (o298 P) (node (o432 P) nil nil) (node (o566 P) nil nil)))))) (node (o45 P) (node (o58 P) (node (o74 P) (node (o112 P) (node (o180 P) (node (o310 P) (node (o578 P) nil nil) nil) (node (o444 P) nil nil)) (node (o246 P) (node (o378 P) (node (o642 P) nil nil) nil) (node (o512 P) nil nil))) (node (o146 P) (node (o212 P) (node (o344 P) (node (o610 P) nil nil) nil) (node (o476 P) nil nil)) (node (o278 P) (node (o410 P) nil nil) (node (o544 P) nil nil)))) (node (o93 P) (node (o128 P) (node (o196 P) (node (o328 P) (node (o594 P) nil nil) nil) (node (o460 P) nil nil)) (node (o262 P) (node (o394 P) nil nil) (node (o528 P) nil nil))) (node (o162 P) (node (o228 P) (node (o360 P) (node (o626 P) nil nil) nil) (node (o494 P) nil nil)) (node (o294 P) (node (o428 P) nil nil) (node (o560 P) nil nil))))) (node (o66 P) (node (o85 P) (node (o120 P) (node (o188 P) (node (o320 P) (node (o586 P) nil nil) nil) (node (o452 P) nil nil)) (node (o254 P) (node (o386 P) nil nil) (node (o520 P) nil nil))) (node (o154 P) (node (o220 P) (node (o352 P) (node (o618 P) nil nil) nil) (node (o486 P) nil nil)) (node (o286 P) (node (o418 P) nil nil) (node (o552 P) nil nil)))) (node (o104 P) (node (o136 P) (node (o204 P) (node (o336 P) (node (o602 P) nil nil) nil) (node (o468 P) nil nil)) (node (o270 P) (node (o402 P) nil nil) (node (o536 P) nil nil))) (node (o170 P) (node (o238 P) (node (o368 P) (node (o634 P) nil nil) nil) (node (o504 P) nil nil)) (node (o302 P) (node (o436 P) nil nil) (node (o570 P) nil nil)))))))) (node (o49 P) (node (boot_o_4 P) (node (boot_o_8 P) (node (o53 P) (node (o69 P) (node (o107 P) (node (o173 P) (node (o305 P) (node (o573 P) nil nil) nil) (node (o439 P) nil nil)) (node (o241 P) (node (o373 P) (node (o637 P) nil nil) nil) (node (o507 P) nil nil))) (node (o139 P) (node (o207 P) (node (o339 P) (node (o605 P) nil nil) nil) (node (o471 P) nil nil)) (node (o273 P) (node (o405 P) nil nil) (node (o539 P) nil nil)))) (node (o88 P) (node (o123 P) (node (o191 P) (node (o323 P) (node (o589 P) nil nil) nil) (node (o455 P) nil nil)) (node (o257 P) (node (o389 P) nil nil) (node (o523 P) nil nil))) (node (o157 P) (node (o223 P) (node (o355 P) (node (o621 P) nil nil) nil) (node (o489 P) nil nil)) (node (o289 P) (node (o423 P) nil nil) (node (o555 P) nil nil))))) (node (o61 P) (node (o77 P) (node (o115 P) (node (o183 P) (node (o313 P) (node (o581 P) nil nil) nil) (node (o447 P) nil nil)) (node (o249 P) (node (o381 P) nil nil) (node (o515 P) nil nil))) (node (o149 P) (node (o215 P) (node (o347 P) (node (o613 P) nil nil) nil) (node (o481 P) nil nil)) (node (o281 P) (node (o413 P) nil nil) (node (o547 P) nil nil)))) (node (o99 P) (node (o131 P) (node (o199 P) (node (o331 P) (node (o597 P) nil nil) nil) (node (o463 P) nil nil)) (node (o265 P) (node (o397 P) nil nil) (node (o531 P) nil nil))) (node (o165 P) (node (o231 P) (node (o363 P) (node (o629 P) nil nil) nil) (node (o497 P) nil nil)) (node (o297 P) (node (o431 P) nil nil) (node (o563 P) nil nil)))))) (node (o565 P) (node (o57 P) (node (o73 P) (node (o111 P) (node (o179 P) (node (o309 P) (node (o577 P) nil nil) nil) (node (o443 P) nil nil)) (node (o245 P) (node (o377 P) (node (o641 P) nil nil) nil) (node (o511 P) nil nil))) (node (o143 P) (node (o211 P) (node (o343 P) (node (o609 P) nil nil) nil) (node (o475 P) nil nil)) (node (o277 P) (node (o409 P) nil nil) (node (o543 P) nil nil)))) (node (o92 P) (node (o127 P) (node (o195 P) (node (o327 P) (node (o593 P) nil nil) nil) (node (o459 P) nil nil)) (node (o261 P) (node (o393 P) nil nil) (node (o527 P) nil nil))) (node (o161 P) (node (o227 P) (node (o359 P) (node (o625 P) nil nil) nil) (node (o493 P) nil nil)) (node (o293 P) (node (o427 P) nil nil) (node (o559 P) nil nil))))) (node (o65 P) (node (o84 P) (node (o119 P) (node (o187 P) (node (o319 P) (node (o585 P) nil nil) nil) (node (o451 P) nil nil)) (node (o253 P) (node (o385 P) nil nil) (node (o519 P) nil nil))) (node (o153 P) (node (o219 P) (node (o351 P) (node (o617 P) nil nil) nil) (node (o485 P) nil nil)) (node (o285 P) (node (o417 P) nil nil) (node (o551 P) nil nil)))) (node (o103 P) (node (o135 P) (node (o203 P) (node (o335 P) (node (o601 P) nil nil) nil) (node (o467 P) nil nil)) (node (o269 P) (node (o401 P) nil nil) (node (o535 P) nil nil))) (node (o169 P) (node (o237 P) (node (o367 P) (node (o633 P) nil nil) nil) (node (o503 P) nil nil)) (node (o301 P) (node (o435 P) nil nil) (node (o569 P) nil nil))))))) (node (boot_o_6 P) (node (boot_o_10 P) (node (o55 P) (node (o71 P) (node (o109 P) (node (o175 P) (node (o307 P) (node (o575 P) nil nil) nil) (node (o441 P) nil nil)) (node (o243 P) (node (o375 P) (node (o639 P) nil nil) nil) (node (o509 P) nil nil))) (node (o141 P) (node (o209 P) (node (o341 P) (node (o607 P) nil nil) nil) (node (o473 P) nil nil)) (node (o275 P) (node (o407 P) nil nil) (node (o541 P) nil nil)))) (node (o90 P) (node (o125 P) (node (o193 P) (node (o325 P) (node (o591 P) nil nil) nil) (node (o457 P) nil nil)) (node (o259 P) (node (o391 P) nil nil) (node (o525 P) nil nil))) (node (o159 P) (node (o225 P) (node (o357 P) (node (o623 P) nil nil) nil) (node (o491 P) nil nil)) (node (o291 P) (node (o425 P) nil nil) (node (o557 P) nil nil))))) (node (o63 P) (node (o82 P) (node (o117 P) (node (o185 P) (node (o317 P) (node (o583 P) nil nil) nil) (node (o449 P) nil nil)) (node (o251 P) (node (o383 P) nil nil) (node (o517 P) nil nil))) (node (o151 P) (node (o217 P) (node (o349 P) (node (o615 P) nil nil) nil) (node (o483 P) nil nil)) (node (o283 P) (node (o415 P) nil nil) (node (o549 P) nil nil)))) (node (o101 P) (node (o133 P) (node (o201 P) (node (o333 P) (node (o599 P) nil nil) nil) (node (o465 P) nil nil)) (node (o267 P) (node (o399 P) nil nil) (node (o533 P) nil nil))) (node (o167 P) (node (o233 P) (node (o365 P) (node (o631 P) nil nil) nil) (node (o499 P) nil nil)) (node (o299 P) (node (o433 P) nil nil) (node (o567 P) nil nil)))))) (node (o46 P) (node (o59 P) (node (o96 P) (node (o113 P) (node (o181 P) (node (o311 P) (node (o579 P) nil nil) nil) (node (o445 P) nil nil)) (node (o247 P) (node (o379 P) (node (o643 P) nil nil) nil) (node (o513 P) nil nil))) (node (o147 P) (node (o213 P) (node (o345 P) (node (o611 P) nil nil) nil) (node (o479 P) nil nil)) (node (o279 P) (node (o411 P) nil nil) (node (o545 P) nil nil)))) (node (o97 P) (node (o129 P) (node (o197 P) (node (o329 P) (node (o595 P) nil nil) nil) (node (o461 P) nil nil)) (node (o263 P) (node (o395 P) nil nil) (node (o529 P) nil nil))) (node (o163 P) (node (o229 P) (node (o361 P) (node (o627 P) nil nil) nil) (node (o495 P) nil nil)) (node (o295 P) (node (o429 P) nil nil) (node (o561 P) nil nil))))) (node (o67 P) (node (o86 P) (node (o121 P) (node (o189 P) (node (o321 P) (node (o587 P) nil nil) nil) (node (o453 P) nil nil)) (node (o255 P) (node (o387 P) nil nil) (node (o521 P) nil nil))) (node (o155 P) (node (o221 P) (node (o353 P) (node (o619 P) nil nil) nil) (node (o487 P) nil nil)) (node (o287 P) (node (o419 P) nil nil) (node (o553 P) nil nil)))) (node (o105 P) (node (o137 P) (node (o205 P) (node (o337 P) (node (o603 P) nil nil) nil) (node (o469 P) nil nil)) (node (o271 P) (node (o403 P) nil nil) (node (o537 P) nil nil))) (node (o171 P) (node (o239 P) (node (o369 P) (node (o635 P) nil nil) nil) (node (o505 P) nil nil)) (node (o303 P) (node (o437 P) nil nil) (node (o571 P) nil nil))))))))
noncomputable abbrev life0 : Life := Life.mk [] [] [] 0 [] [] false #[] [] 0 false false false 0 [2000, 10, 10] false 0 true [] [] 0 false
noncomputable def heap46 (P : Params) : Heap := ⟨#[boot_o_0 P, boot_o_1 P, boot_o_2 P, boot_o_3 P, boot_o_4 P, boot_o_5 P, boot_o_6 P, boot_o_7 P, boot_o_8 P, boot_o_9 P, boot_o_10 P, o43 P, o44 P, o45 P, o46 P], life0⟩
noncomputable def heap644 (P : Params) : Heap := ⟨#[boot_o_0 P, boot_o_1 P, o49 P, o564 P, boot_o_4 P, boot_o_5 P, boot_o_6 P, boot_o_7 P, boot_o_8 P, boot_o_9 P, boot_o_10 P, o43 P, o565 P, o45 P, o46 P, o52 P, o53 P, o54 P, o55 P, o56 P, o57 P, o58 P, o59 P, o60 P, o61 P, o62 P, o63 P, o64 P, o65 P, o66 P, o67 P, o68 P, o69 P, o70 P, o71 P, o72 P, o73 P, o74 P, o96 P, o76 P, o77 P, o78 P, o82 P, o83 P, o84 P, o85 P, o86 P, o87 P, o88 P, o89 P, o90 P, o91 P, o92 P, o93 P, o97 P, o98 P, o99 P, o100 P, o101 P, o102 P, o103 P, o104 P, o105 P, o106 P, o107 P, o108 P, o109 P, o110 P, o111 P, o112 P, o113 P, o114 P, o115 P, o116 P, o117 P, o118 P, o119 P, o120 P, o121 P, o122 P, o123 P, o124 P, o125 P, o126 P, o127 P, o128 P, o129 P, o130 P, o131 P, o132 P, o133 P, o134 P, o135 P, o136 P, o137 P, o138 P, o139 P, o140 P, o141 P, o142 P, o143 P, o146 P, o147 P, o148 P, o149 P, o150 P, o151 P, o152 P, o153 P, o154 P, o155 P, o156 P, o157 P, o158 P, o159 P, o160 P, o161 P, o162 P, o163 P, o164 P, o165 P, o166 P, o167 P, o168 P, o169 P, o170 P, o171 P, o172 P, o173 P, o174 P, o175 P, o178 P, o179 P, o180 P, o181 P, o182 P, o183 P, o184 P, o185 P, o186 P, o187 P, o188 P, o189 P, o190 P, o191 P, o192 P, o193 P, o194 P, o195 P, o196 P, o197 P, o198 P, o199 P, o200 P, o201 P, o202 P, o203 P, o204 P, o205 P, o206 P, o207 P, o208 P, o209 P, o210 P, o211 P, o212 P, o213 P, o214 P, o215 P, o216 P, o217 P, o218 P, o219 P, o220 P, o221 P, o222 P, o223 P, o224 P, o225 P, o226 P, o227 P, o228 P, o229 P, o230 P, o231 P, o232 P, o233 P, o234 P, o237 P, o238 P, o239 P, o240 P, o241 P, o242 P, o243 P, o244 P, o245 P, o246 P, o247 P, o248 P, o249 P, o250 P, o251 P, o252 P, o253 P, o254 P, o255 P, o256 P, o257 P, o258 P, o259 P, o260 P, o261 P, o262 P, o263 P, o264 P, o265 P, o266 P, o267 P, o268 P, o269 P, o270 P, o271 P, o272 P, o273 P, o274 P, o275 P, o276 P, o277 P, o278 P, o279 P, o280 P, o281 P, o282 P, o283 P, o284 P, o285 P, o286 P, o287 P, o288 P, o289 P, o290 P, o291 P, o292 P, o293 P, o294 P, o295 P, o296 P, o297 P, o298 P, o299 P, o300 P, o301 P, o302 P, o303 P, o304 P, o305 P, o306 P, o307 P, o308 P, o309 P, o310 P, o311 P, o312 P, o313 P, o316 P, o317 P, o318 P, o319 P, o320 P, o321 P, o322 P, o323 P, o324 P, o325 P, o326 P, o327 P, o328 P, o329 P, o330 P, o331 P, o332 P, o333 P, o334 P, o335 P, o336 P, o337 P, o338 P, o339 P, o340 P, o341 P, o342 P, o343 P, o344 P, o345 P, o346 P, o347 P, o348 P, o349 P, o350 P, o351 P, o352 P, o353 P, o354 P, o355 P, o356 P, o357 P, o358 P, o359 P, o360 P, o361 P, o362 P, o363 P, o364 P, o365 P, o366 P, o367 P, o368 P, o369 P, o372 P, o373 P, o374 P, o375 P, o376 P, o377 P, o378 P, o379 P, o380 P, o381 P, o382 P, o383 P, o384 P, o385 P, o386 P, o387 P, o388 P, o389 P, o390 P, o391 P, o392 P, o393 P, o394 P, o395 P, o396 P, o397 P, o398 P, o399 P, o400 P, o401 P, o402 P, o403 P, o404 P, o405 P, o406 P, o407 P, o408 P, o409 P, o410 P, o411 P, o412 P, o413 P, o414 P, o415 P, o416 P, o417 P, o418 P, o419 P, o420 P, o423 P, o424 P, o425 P, o426 P, o427 P, o428 P, o429 P, o430 P, o431 P, o432 P, o433 P, o434 P, o435 P, o436 P, o437 P, o438 P, o439 P, o440 P, o441 P, o442 P, o443 P, o444 P, o445 P, o446 P, o447 P, o448 P, o449 P, o450 P, o451 P, o452 P, o453 P, o454 P, o455 P, o456 P, o457 P, o458 P, o459 P, o460 P, o461 P, o462 P, o463 P, o464 P, o465 P, o466 P, o467 P, o468 P, o469 P, o470 P, o471 P, o472 P, o473 P, o474 P, o475 P, o476 P, o479 P, o480 P, o481 P, o482 P, o483 P, o484 P, o485 P, o486 P, o487 P, o488 P, o489 P, o490 P, o491 P, o492 P, o493 P, o494 P, o495 P, o496 P, o497 P, o498 P, o499 P, o502 P, o503 P, o504 P, o505 P, o506 P, o507 P, o508 P, o509 P, o510 P, o511 P, o512 P, o513 P, o514 P, o515 P, o516 P, o517 P, o518 P, o519 P, o520 P, o521 P, o522 P, o523 P, o524 P, o525 P, o526 P, o527 P, o528 P, o529 P, o530 P, o531 P, o532 P, o533 P, o534 P, o535 P, o536 P, o537 P, o538 P, o539 P, o540 P, o541 P, o542 P, o543 P, o544 P, o545 P, o546 P, o547 P, o548 P, o549 P, o550 P, o551 P, o552 P, o553 P, o554 P, o555 P, o556 P, o557 P, o558 P, o559 P, o560 P, o561 P, o562 P, o563 P, o566 P, o567 P, o568 P, o569 P, o570 P, o571 P, o572 P, o573 P, o574 P, o575 P, o576 P, o577 P, o578 P, o579 P, o580 P, o581 P, o582 P, o583 P, o584 P, o585 P, o586 P, o587 P, o588 P, o589 P, o590 P, o591 P, o592 P, o593 P, o594 P, o595 P, o596 P, o597 P, o598 P, o599 P, o600 P, o601 P, o602 P, o603 P, o604 P, o605 P, o606 P, o607 P, o608 P, o609 P, o610 P, o611 P, o612 P, o613 P, o614 P, o615 P, o616 P, o617 P, o618 P, o619 P, o620 P, o621 P, o622 P, o623 P, o624 P, o625 P, o626 P, o627 P, o628 P, o629 P, o630 P, o631 P, o632 P, o633 P, o634 P, o635 P, o636 P, o637 P, o638 P, o639 P, o640 P, o641 P, o642 P, o643 P], life0⟩
noncomputable def hd.heap_39 (P : Params) : Frag := (nat_lit 2, o49 P) :: (nat_lit 3, o564 P) :: (nat_lit 15, o52 P) :: (nat_lit 17, o54 P) :: (nat_lit 18, o55 P) :: (nat_lit 20, o57 P) :: (nat_lit 21, o58 P) :: (nat_lit 22, o59 P) :: (nat_lit 29, o66 P) :: (nat_lit 31, o68 P) :: (nat_lit 32, o69 P) :: (nat_lit 34, o71 P) :: (nat_lit 35, o72 P) :: (nat_lit 36, o73 P) :: (nat_lit 37, o74 P) :: (nat_lit 38, o96 P) :: (nat_lit 39, o76 P) :: (nat_lit 42, o82 P) :: (nat_lit 49, o89 P) :: (nat_lit 50, o90 P) :: (nat_lit 51, o91 P) :: (nat_lit 54, o97 P) :: (nat_lit 61, o104 P) :: (nat_lit 62, o105 P) :: (nat_lit 63, o106 P) :: (nat_lit 66, o109 P) :: (nat_lit 68, o111 P) :: (nat_lit 69, o112 P) :: (nat_lit 71, o114 P) :: (nat_lit 72, o115 P) :: (nat_lit 73, o116 P) :: (nat_lit 75, o118 P) :: (nat_lit 76, o119 P) :: (nat_lit 78, o121 P) :: (nat_lit 79, o122 P) :: (nat_lit 80, o123 P) :: (nat_lit 82, o125 P) :: (nat_lit 83, o126 P) :: (nat_lit 85, o128 P) :: (nat_lit 86, o129 P) :: (nat_lit 87, o130 P) :: (nat_lit 89, o132 P) :: (nat_lit 90, o133 P) :: (nat_lit 92, o135 P) :: (nat_lit 93, o136 P) :: (nat_lit 94, o137 P) :: (nat_lit 96, o139 P) :: (nat_lit 97, o140 P) :: (nat_lit 99, o142 P) :: (nat_lit 100, o143 P) :: (nat_lit 101, o146 P) :: (nat_lit 103, o148 P) :: (nat_lit 104, o149 P) :: (nat_lit 106, o151 P) :: (nat_lit 107, o152 P) :: (nat_lit 108, o153 P) :: (nat_lit 109, o154 P) :: (nat_lit 111, o156 P) :: (nat_lit 112, o157 P) :: (nat_lit 114, o159 P) :: (nat_lit 115, o160 P) :: (nat_lit 116, o161 P) :: (nat_lit 117, o162 P) :: (nat_lit 119, o164 P) :: (nat_lit 120, o165 P) :: (nat_lit 122, o167 P) :: (nat_lit 123, o168 P) :: (nat_lit 124, o169 P) :: (nat_lit 126, o171 P) :: (nat_lit 127, o172 P) :: (nat_lit 129, o174 P) :: (nat_lit 130, o175 P) :: (nat_lit 138, o185 P) :: (nat_lit 139, o186 P) :: (nat_lit 141, o188 P) :: (nat_lit 142, o189 P) :: (nat_lit 144, o191 P) :: (nat_lit 145, o192 P) :: (nat_lit 146, o193 P) :: (nat_lit 148, o195 P) :: (nat_lit 149, o196 P) :: (nat_lit 151, o198 P) :: (nat_lit 152, o199 P) :: (nat_lit 153, o200 P) :: (nat_lit 155, o202 P) :: (nat_lit 156, o203 P) :: (nat_lit 158, o205 P) :: (nat_lit 159, o206 P) :: (nat_lit 160, o207 P) :: (nat_lit 162, o209 P) :: (nat_lit 163, o210 P) :: (nat_lit 165, o212 P) :: (nat_lit 166, o213 P) :: (nat_lit 167, o214 P) :: (nat_lit 169, o216 P) :: (nat_lit 170, o217 P) :: (nat_lit 172, o219 P) :: (nat_lit 173, o220 P) :: (nat_lit 174, o221 P) :: (nat_lit 176, o223 P) :: (nat_lit 177, o224 P) :: (nat_lit 179, o226 P) :: (nat_lit 180, o227 P) :: (nat_lit 181, o228 P) :: (nat_lit 182, o229 P) :: (nat_lit 183, o230 P) :: (nat_lit 184, o231 P) :: (nat_lit 185, o232 P) :: (nat_lit 188, o237 P) :: (nat_lit 190, o239 P) :: (nat_lit 191, o240 P) :: (nat_lit 193, o242 P) :: (nat_lit 194, o243 P) :: (nat_lit 195, o244 P) :: (nat_lit 197, o246 P) :: (nat_lit 198, o247 P) :: (nat_lit 200, o249 P) :: (nat_lit 201, o250 P) :: (nat_lit 202, o251 P) :: (nat_lit 204, o253 P) :: (nat_lit 205, o254 P) :: (nat_lit 207, o256 P) :: (nat_lit 208, o257 P) :: (nat_lit 209, o258 P) :: (nat_lit 211, o260 P) :: (nat_lit 212, o261 P) :: (nat_lit 214, o263 P) :: (nat_lit 215, o264 P) :: (nat_lit 216, o265 P) :: (nat_lit 218, o267 P) :: (nat_lit 219, o268 P) :: (nat_lit 221, o270 P) :: (nat_lit 222, o271 P) :: (nat_lit 223, o272 P) :: (nat_lit 225, o274 P) :: (nat_lit 226, o275 P) :: (nat_lit 228, o277 P) :: (nat_lit 229, o278 P) :: (nat_lit 230, o279 P) :: (nat_lit 232, o281 P) :: (nat_lit 233, o282 P) :: (nat_lit 235, o284 P) :: (nat_lit 236, o285 P) :: (nat_lit 237, o286 P) :: (nat_lit 239, o288 P) :: (nat_lit 240, o289 P) :: (nat_lit 242, o291 P) :: (nat_lit 243, o292 P) :: (nat_lit 244, o293 P) :: (nat_lit 246, o295 P) :: (nat_lit 247, o296 P) :: (nat_lit 249, o298 P) :: (nat_lit 250, o299 P) :: (nat_lit 251, o300 P) :: (nat_lit 253, o302 P) :: (nat_lit 254, o303 P) :: (nat_lit 256, o305 P) :: (nat_lit 257, o306 P) :: (nat_lit 258, o307 P) :: (nat_lit 260, o309 P) :: (nat_lit 261, o310 P) :: (nat_lit 263, o312 P) :: (nat_lit 264, o313 P) :: (nat_lit 265, o316 P) :: (nat_lit 267, o318 P) :: (nat_lit 268, o319 P) :: (nat_lit 270, o321 P) :: (nat_lit 271, o322 P) :: (nat_lit 272, o323 P) :: (nat_lit 274, o325 P) :: (nat_lit 275, o326 P) :: (nat_lit 277, o328 P) :: (nat_lit 278, o329 P) :: (nat_lit 279, o330 P) :: (nat_lit 281, o332 P) :: (nat_lit 282, o333 P) :: (nat_lit 284, o335 P) :: (nat_lit 285, o336 P) :: (nat_lit 286, o337 P) :: (nat_lit 289, o340 P) :: (nat_lit 290, o341 P) :: (nat_lit 291, o342 P) :: (nat_lit 293, o344 P) :: (nat_lit 294, o345 P) :: (nat_lit 296, o347 P) :: (nat_lit 297, o348 P) :: (nat_lit 298, o349 P) :: (nat_lit 300, o351 P) :: (nat_lit 301, o352 P) :: (nat_lit 303, o354 P) :: (nat_lit 304, o355 P) :: (nat_lit 305, o356 P) :: (nat_lit 307, o358 P) :: (nat_lit 308, o359 P) :: (nat_lit 310, o361 P) :: (nat_lit 311, o362 P) :: (nat_lit 312, o363 P) :: (nat_lit 314, o365 P) :: (nat_lit 315, o366 P) :: (nat_lit 317, o368 P) :: (nat_lit 318, o369 P) :: (nat_lit 326, o379 P) :: (nat_lit 328, o381 P) :: (nat_lit 329, o382 P) :: (nat_lit 331, o384 P) :: (nat_lit 332, o385 P) :: (nat_lit 333, o386 P) :: (nat_lit 335, o388 P) :: (nat_lit 336, o389 P) :: (nat_lit 338, o391 P) :: (nat_lit 339, o392 P) :: (nat_lit 340, o393 P) :: (nat_lit 342, o395 P) :: (nat_lit 343, o396 P) :: (nat_lit 345, o398 P) :: (nat_lit 346, o399 P) :: (nat_lit 347, o400 P) :: (nat_lit 349, o402 P) :: (nat_lit 350, o403 P) :: (nat_lit 352, o405 P) :: (nat_lit 353, o406 P) :: (nat_lit 354, o407 P) :: (nat_lit 356, o409 P) :: (nat_lit 357, o410 P) :: (nat_lit 359, o412 P) :: (nat_lit 360, o413 P) :: (nat_lit 361, o414 P) :: (nat_lit 362, o415 P) :: (nat_lit 363, o416 P) :: (nat_lit 364, o417 P) :: (nat_lit 365, o418 P) :: (nat_lit 375, o430 P) :: (nat_lit 377, o432 P) :: (nat_lit 378, o433 P) :: (nat_lit 380, o435 P) :: (nat_lit 381, o436 P) :: (nat_lit 382, o437 P) :: (nat_lit 384, o439 P) :: (nat_lit 385, o440 P) :: (nat_lit 387, o442 P) :: (nat_lit 388, o443 P) :: (nat_lit 389, o444 P) :: (nat_lit 391, o446 P) :: (nat_lit 392, o447 P) :: (nat_lit 394, o449 P) :: (nat_lit 395, o450 P) :: (nat_lit 396, o451 P) :: (nat_lit 398, o453 P) :: (nat_lit 399, o454 P) :: (nat_lit 401, o456 P) :: (nat_lit 402, o457 P) :: (nat_lit 403, o458 P) :: (nat_lit 406, o461 P) :: (nat_lit 407, o462 P) :: (nat_lit 408, o463 P) :: (nat_lit 410, o465 P) :: (nat_lit 411, o466 P) :: (nat_lit 413, o468 P) :: (nat_lit 414, o469 P) :: (nat_lit 415, o470 P) :: (nat_lit 416, o471 P) :: (nat_lit 417, o472 P) :: (nat_lit 418, o473 P) :: (nat_lit 419, o474 P) :: (nat_lit 422, o479 P) :: (nat_lit 424, o481 P) :: (nat_lit 425, o482 P) :: (nat_lit 427, o484 P) :: (nat_lit 428, o485 P) :: (nat_lit 429, o486 P) :: (nat_lit 431, o488 P) :: (nat_lit 432, o489 P) :: (nat_lit 434, o491 P) :: (nat_lit 435, o492 P) :: (nat_lit 436, o493 P) :: (nat_lit 438, o495 P) :: (nat_lit 439, o496 P) :: (nat_lit 441, o498 P) :: (nat_lit 442, o499 P) :: (nat_lit 450, o509 P) :: (nat_lit 451, o510 P) :: (nat_lit 453, o512 P) :: (nat_lit 454, o513 P) :: (nat_lit 456, o515 P) :: (nat_lit 457, o516 P) :: (nat_lit 458, o517 P) :: (nat_lit 460, o519 P) :: (nat_lit 461, o520 P) :: (nat_lit 463, o522 P) :: (nat_lit 464, o523 P) :: (nat_lit 465, o524 P) :: (nat_lit 468, o527 P) :: (nat_lit 469, o528 P) :: (nat_lit 470, o529 P) :: (nat_lit 472, o531 P) :: (nat_lit 473, o532 P) :: (nat_lit 475, o534 P) :: (nat_lit 476, o535 P) :: (nat_lit 477, o536 P) :: (nat_lit 479, o538 P) :: (nat_lit 480, o539 P) :: (nat_lit 482, o541 P) :: (nat_lit 483, o542 P) :: (nat_lit 484, o543 P) :: (nat_lit 486, o545 P) :: (nat_lit 487, o546 P) :: (nat_lit 489, o548 P) :: (nat_lit 490, o549 P) :: (nat_lit 491, o550 P) :: (nat_lit 493, o552 P) :: (nat_lit 494, o553 P) :: (nat_lit 496, o555 P) :: (nat_lit 497, o556 P) :: (nat_lit 498, o557 P) :: (nat_lit 499, o558 P) :: (nat_lit 500, o559 P) :: (nat_lit 501, o560 P) :: (nat_lit 502, o561 P) :: (nat_lit 505, o566 P) :: (nat_lit 507, o568 P) :: (nat_lit 508, o569 P) :: (nat_lit 510, o571 P) :: (nat_lit 511, o572 P) :: (nat_lit 512, o573 P) :: (nat_lit 514, o575 P) :: (nat_lit 515, o576 P) :: (nat_lit 517, o578 P) :: (nat_lit 518, o579 P) :: (nat_lit 519, o580 P) :: (nat_lit 521, o582 P) :: (nat_lit 522, o583 P) :: (nat_lit 524, o585 P) :: (nat_lit 525, o586 P) :: (nat_lit 526, o587 P) :: (nat_lit 528, o589 P) :: (nat_lit 529, o590 P) :: (nat_lit 531, o592 P) :: (nat_lit 532, o593 P) :: (nat_lit 533, o594 P) :: (nat_lit 536, o597 P) :: (nat_lit 537, o598 P) :: (nat_lit 538, o599 P) :: (nat_lit 540, o601 P) :: (nat_lit 541, o602 P) :: (nat_lit 543, o604 P) :: (nat_lit 544, o605 P) :: (nat_lit 545, o606 P) :: (nat_lit 547, o608 P) :: (nat_lit 548, o609 P) :: (nat_lit 550, o611 P) :: (nat_lit 551, o612 P) :: (nat_lit 552, o613 P) :: (nat_lit 554, o615 P) :: (nat_lit 555, o616 P) :: (nat_lit 557, o618 P) :: (nat_lit 558, o619 P) :: (nat_lit 559, o620 P) :: (nat_lit 562, o623 P) :: (nat_lit 563, o624 P) :: (nat_lit 564, o625 P) :: (nat_lit 566, o627 P) :: (nat_lit 567, o628 P) :: (nat_lit 569, o630 P) :: (nat_lit 570, o631 P) :: (nat_lit 571, o632 P) :: (nat_lit 573, o634 P) :: (nat_lit 574, o635 P) :: (nat_lit 576, o637 P) :: (nat_lit 577, o638 P) :: (nat_lit 578, o639 P) :: (nat_lit 581, o642 P) :: (nat_lit 582, o643 P) :: []
noncomputable def hd.as39 : List Addr := [2, 3, 15, 17, 18, 20, 21, 22, 29, 31, 32, 34, 35, 36, 37, 38, 39, 42, 49, 50, 51, 54, 61, 62, 63, 66, 68, 69, 71, 72, 73, 75, 76, 78, 79, 80, 82, 83, 85, 86, 87, 89, 90, 92, 93, 94, 96, 97, 99, 100, 101, 103, 104, 106, 107, 108, 109, 111, 112, 114, 115, 116, 117, 119, 120, 122, 123, 124, 126, 127, 129, 130, 138, 139, 141, 142, 144, 145, 146, 148, 149, 151, 152, 153, 155, 156, 158, 159, 160, 162, 163, 165, 166, 167, 169, 170, 172, 173, 174, 176, 177, 179, 180, 181, 182, 183, 184, 185, 188, 190, 191, 193, 194, 195, 197, 198, 200, 201, 202, 204, 205, 207, 208, 209, 211, 212, 214, 215, 216, 218, 219, 221, 222, 223, 225, 226, 228, 229, 230, 232, 233, 235, 236, 237, 239, 240, 242, 243, 244, 246, 247, 249, 250, 251, 253, 254, 256, 257, 258, 260, 261, 263, 264, 265, 267, 268, 270, 271, 272, 274, 275, 277, 278, 279, 281, 282, 284, 285, 286, 289, 290, 291, 293, 294, 296, 297, 298, 300, 301, 303, 304, 305, 307, 308, 310, 311, 312, 314, 315, 317, 318, 326, 328, 329, 331, 332, 333, 335, 336, 338, 339, 340, 342, 343, 345, 346, 347, 349, 350, 352, 353, 354, 356, 357, 359, 360, 361, 362, 363, 364, 365, 375, 377, 378, 380, 381, 382, 384, 385, 387, 388, 389, 391, 392, 394, 395, 396, 398, 399, 401, 402, 403, 406, 407, 408, 410, 411, 413, 414, 415, 416, 417, 418, 419, 422, 424, 425, 427, 428, 429, 431, 432, 434, 435, 436, 438, 439, 441, 442, 450, 451, 453, 454, 456, 457, 458, 460, 461, 463, 464, 465, 468, 469, 470, 472, 473, 475, 476, 477, 479, 480, 482, 483, 484, 486, 487, 489, 490, 491, 493, 494, 496, 497, 498, 499, 500, 501, 502, 505, 507, 508, 510, 511, 512, 514, 515, 517, 518, 519, 521, 522, 524, 525, 526, 528, 529, 531, 532, 533, 536, 537, 538, 540, 541, 543, 544, 545, 547, 548, 550, 551, 552, 554, 555, 557, 558, 559, 562, 563, 564, 566, 567, 569, 570, 571, 573, 574, 576, 577, 578, 581, 582]
noncomputable def env41 : Env := Env.mk prg.main.scope mainNs mainNs [] Str.empty none (Value.ref 13) (some 14) 0
noncomputable abbrev cod41 : Code := Code.body (behindTheImports prg) env41
noncomputable def sts (j l : Nat) : List Stmt := ((behindTheImports prg).drop j).take l
noncomputable abbrev shT (T : BT) (n k : Nat) (os : OsState) : SharedT := SharedT.mk T n life0 (Array.mk []) (Drawn.mk 0 0 0 0) k os
theorem pc78 : ∀ w : World, (fun os => segRunT treeTable prg w 11 (some (Value.ref 6)) 1 267 (shT (tree47 w.params) 15 187 os) (piecesOf (sts 0 3) env41 cod41 (Pos.mk 0 0 0 0) [topFrame (Pos.mk 0 0 0 0)])) = fun os => some (Flow.next, shT (tree78 w.params) 42 225 os, cod41, Pos.mk 5 0 8 30) := fun w => by kernel_rfl
theorem pc93 : ∀ w : World, (fun os => segRunT treeTable prg w 11 (some (Value.ref 6)) 1 214 (shT (tree78 w.params) 42 225 os) (piecesOf (sts 3 1) env41 cod41 (Pos.mk 5 0 8 30) [topFrame (Pos.mk 0 0 0 0)])) = fun os => some (Flow.next, shT (tree93 w.params) 54 241 os, cod41, Pos.mk 9 0 10 8) := fun w => by kernel_rfl
theorem pc143 : ∀ w : World, (fun os => segRunT treeTable prg w 11 (some (Value.ref 6)) 1 390 (shT (tree93 w.params) 54 241 os) (piecesOf (sts 4 9) env41 cod41 (Pos.mk 9 0 10 8) [topFrame (Pos.mk 0 0 0 0)])) = fun os => some (Flow.next, shT (tree143 w.params) 101 302 os, cod41, Pos.mk 28 0 28 8) := fun w => by kernel_rfl
theorem pc175 : ∀ w : World, (fun os => segRunT treeTable prg w 11 (some (Value.ref 6)) 1 218 (shT (tree143 w.params) 101 302 os) (piecesOf (sts 13 14) env41 cod41 (Pos.mk 28 0 28 8) [topFrame (Pos.mk 0 0 0 0)])) = fun os => some (Flow.next, shT (tree175 w.params) 131 359 os, cod41, Pos.mk 54 0 54 9) := fun w => by kernel_rfl
theorem pc234 : ∀ w : World, (fun os => segRunT treeTable prg w 11 (some (Value.ref 6)) 1 405 (shT (tree175 w.params) 131 359 os) (piecesOf (sts 27 1) env41 cod41 (Pos.mk 54 0 54 9) [topFrame (Pos.mk 0 0 0 0)])) = fun os => some (Flow.next, shT (tree234 w.params) 188 449 os, cod41, Pos.mk 55 0 82 137) := fun w => by kernel_rfl
theorem pc313 : ∀ w : World, (fun os => segRunT treeTable prg w 11 (some (Value.ref 6)) 1 390 (shT (tree234 w.params) 188 449 os) (piecesOf (sts 28 16) env41 cod41 (Pos.mk 55 0 82 137) [topFrame (Pos.mk 0 0 0 0)])) = fun os => some (Flow.next, shT (tree313 w.params) 265 561 os, cod41, Pos.mk 165 0 171 15) := fun w => by kernel_rfl
theorem pc369 : ∀ w : World, (fun os => segRunT treeTable prg w 11 (some (Value.ref 6)) 1 284 (shT (tree313 w.params) 265 561 os) (piecesOf (sts 44 12) env41 cod41 (Pos.mk 165 0 171 15) [topFrame (Pos.mk 0 0 0 0)])) = fun os => some (Flow.next, shT (tree369 w.params) 319 642 os, cod41, Pos.mk 228 0 228 15) := fun w => by kernel_rfl
theorem pc420 : ∀ w : World, (fun os => segRunT treeTable prg w 11 (some (Value.ref 6)) 1 357 (shT (tree369 w.params) 319 642 os) (piecesOf (sts 56 1) env41 cod41 (Pos.mk 228 0 228 15) [topFrame (Pos.mk 0 0 0 0)])) = fun os => some (Flow.next, shT (tree420 w.params) 368 709 os, cod41, Pos.mk 229 0 261 30) := fun w => by kernel_rfl
theorem pc476 : ∀ w : World, (fun os => segRunT treeTable prg w 11 (some (Value.ref 6)) 1 392 (shT (tree420 w.params) 368 709 os) (piecesOf (sts 57 1) env41 cod41 (Pos.mk 229 0 261 30) [topFrame (Pos.mk 0 0 0 0)])) = fun os => some (Flow.next, shT (tree476 w.params) 422 789 os, cod41, Pos.mk 262 0 307 16) := fun w => by kernel_rfl
theorem pc499 : ∀ w : World, (fun os => segRunT treeTable prg w 11 (some (Value.ref 6)) 1 89 (shT (tree476 w.params) 422 789 os) (piecesOf (sts 58 3) env41 cod41 (Pos.mk 262 0 307 16) [topFrame (Pos.mk 0 0 0 0)])) = fun os => some (Flow.next, shT (tree499 w.params) 443 811 os, cod41, Pos.mk 312 0 313 82) := fun w => by kernel_rfl
theorem pc563 : ∀ w : World, (fun os => segRunT treeTable prg w 11 (some (Value.ref 6)) 1 419 (shT (tree499 w.params) 443 811 os) (piecesOf (sts 61 1) env41 cod41 (Pos.mk 312 0 313 82) [topFrame (Pos.mk 0 0 0 0)])) = fun os => some (Flow.next, shT (tree563 w.params) 505 893 os, cod41, Pos.mk 314 0 354 16) := fun w => by kernel_rfl
theorem pc643 : ∀ w : World, (fun os => segRunT treeTable prg w 11 (some (Value.ref 6)) 1 384 (shT (tree563 w.params) 505 893 os) (piecesOf (sts 62 13) env41 cod41 (Pos.mk 314 0 354 16) [topFrame (Pos.mk 0 0 0 0)])) = fun os => some (Flow.next, shT (tree643 w.params) 583 1011 os, cod41, Pos.mk 431 0 453 53) := fun w => by kernel_rfl
end
end

theorem stsAll : behindTheImports prg = (sts 0 3 ++ (sts 3 1 ++ (sts 4 9 ++ (sts 13 14 ++ (sts 27 1 ++ (sts 28 16 ++ (sts 44 12 ++ (sts 56 1 ++ (sts 57 1 ++ (sts 58 3 ++ (sts 61 1 ++ (sts 62 13 ++ [])))))))))))) := by kernel_rfl
theorem pre41 : ∀ w : World, (fun os => topGo treeTable prg w 11 (some (Value.ref 6)) 12 (Shared.mk (boot_heap w.params) (Array.mk []) boot_drawn boot_toks os) (topStub prg)) = fun os => some (Shared.mk (heap46 w.params) (Array.mk []) (Drawn.mk 0 0 0 0) 187 os, Thread.mk (denote treeTable cod41) cod41 (Pos.mk 0 0 0 0) [topFrame (Pos.mk 0 0 0 0)]) := fun w => by kernel_rfl
theorem blk41 : ∀ w : World, (fun os => segRun treeTable prg w 11 (some (Value.ref 6)) 1 1 (Shared.mk (heap46 w.params) (Array.mk []) (Drawn.mk 0 0 0 0) 187 os) (blockOf (behindTheImports prg) env41 cod41 (Pos.mk 0 0 0 0) [topFrame (Pos.mk 0 0 0 0)])) = fun os => some (Flow.next, (shT (tree47 w.params) 15 187 os).abs, cod41, Pos.mk 0 0 0 0) := fun w => by kernel_rfl
theorem fin41 : ∀ w : World, (fun os => topRun treeTable prg w 11 (some (Value.ref 6)) 2 (shT (tree643 w.params) 583 1011 os).abs (Thread.mk (doneF Flow.next) cod41 (Pos.mk 431 0 453 53) [topFrame (Pos.mk 0 0 0 0)])) = fun os => some (Shared.mk (heap644 w.params) (Array.mk []) (Drawn.mk 0 0 0 0) 1011 os) := fun w => by kernel_rfl
theorem siz41 : ∀ w : World, ((boot_heap w.params).isNs mainGlobals && (Array.mk [] : Array GenState).size == 0, (boot_heap w.params).objs.size, (boot_heap w.params).nsMap mainGlobals (Str.ofString "__annotations__")) = (true, 11, some (Value.ref 6)) := fun w => by kernel_rfl
theorem run41 (w : World) (os : OsState) : topRun treeTable prg w 11 (some (Value.ref 6)) (12 + (1 + (267 + (214 + (390 + (218 + (405 + (390 + (284 + (357 + (392 + (89 + (419 + (384 + 2)))))))))))))) (Shared.mk (boot_heap w.params) (Array.mk []) boot_drawn boot_toks os) (topStub prg) = some (Shared.mk (heap644 w.params) (Array.mk []) (Drawn.mk 0 0 0 0) 1011 os) := by
  refine go_top (congrFun (pre41 w) os) (piece_block (congrFun (blk41 w) os) ?_)
  rw [stsAll]
  refine piece_app (segRun_of (congrFun (pc78 w) os)) ?_
  refine piece_app (segRun_of (congrFun (pc93 w) os)) ?_
  refine piece_app (segRun_of (congrFun (pc143 w) os)) ?_
  refine piece_app (segRun_of (congrFun (pc175 w) os)) ?_
  refine piece_app (segRun_of (congrFun (pc234 w) os)) ?_
  refine piece_app (segRun_of (congrFun (pc313 w) os)) ?_
  refine piece_app (segRun_of (congrFun (pc369 w) os)) ?_
  refine piece_app (segRun_of (congrFun (pc420 w) os)) ?_
  refine piece_app (segRun_of (congrFun (pc476 w) os)) ?_
  refine piece_app (segRun_of (congrFun (pc499 w) os)) ?_
  refine piece_app (segRun_of (congrFun (pc563 w) os)) ?_
  refine piece_app (segRun_of (congrFun (pc643 w) os)) ?_
  exact congrFun (fin41 w) os

noncomputable def hd.view_39 : Program := PySem.W.view PySem.Challenge.rw_nu0136_01.row.prog [0, 2, 3, 4, 6, 7, 8, 9, 10, 12, 13, 16, 18, 19, 20, 21, 22, 23, 24, 25, 26, 27, 28, 29, 30, 31, 32, 33, 34, 35, 37, 38, 39, 40, 41, 42, 43, 44, 45, 46, 47, 49, 50, 51, 52, 53, 55, 56, 57, 58, 59, 60, 61, 63, 64, 65, 66, 67, 68, 69, 70, 71, 72, 73, 74]
theorem hd.addrs : ∀ P, hd.as39 = (Mine.hd.heap_39 P).map (·.1) := fun _ => by kernel_rfl
noncomputable abbrev hd.hook : Hook := kHook Mine.hd.heap_39 hd.as39 hd.addrs
noncomputable abbrev lkS (w : World) (os : OsState) : Shared := ⟨heap644 w.params, Array.mk [], Drawn.mk 0 0 0 0, 1011, os⟩
noncomputable abbrev lkL : List Str := [Str.ofString "ones_sum", Str.ofString "checksum", Str.ofString "IpHeader"]
noncomputable abbrev lkX : Shared → Bool := fun s => xlAt Mine.hd.view_39 [] s && recOk (RowW.records (OpenRow.toRowW PySem.Challenge.rw_nu0136_01.row)) s
theorem lk1 (w : World) : staticsOk (importedModules prg.main.body) (boot_heap w.params) (heap644 w.params) = true := by kernel_rfl
theorem lk2 (w : World) : namesBound prg (heap644 w.params) = true := by kernel_rfl
theorem lk3 (w : World) (os : OsState) : gensDone (lkS w os) = true := by kernel_rfl
theorem lk4 (w : World) : laidKept (boot_heap w.params) (heap644 w.params) = true := by kernel_rfl
theorem lkO1 (w : World) (os : OsState) : seen ((recsOf hd.view_39).map (·.name)) (ownsOf hd.view_39) [] { lkS w os with gens := #[] } = expectedOf hd.view_39 := by kernel_rfl
theorem lkO2 (w : World) : (heap644 w.params).bltView = bltViewBooted := by kernel_rfl
theorem lkO3a (w : World) : (heap644 w.params).keysOk (looseW hd.view_39 lkL) ((recsOf hd.view_39).map (·.name)) ((litsOf hd.view_39).map (·.1)) ((clssOf hd.view_39 (looseW hd.view_39 lkL)).map (·.name)) = true := by kernel_rfl
theorem lkO3b (w : World) : (heap644 w.params).accountedOkI (importedModules prg.main.body) = true := by kernel_rfl
theorem lkO3c (w : World) : (heap644 w.params).isNs mainGlobals = true := by kernel_rfl
theorem lkO3d (w : World) : (heap644 w.params).isNs builtinsNs = true := by kernel_rfl
theorem lkO3e (w : World) : tablesOk hd.view_39 (heap644 w.params) = true := by kernel_rfl
theorem lkO3f (w : World) (os : OsState) : lkX (lkS w os) = true := by kernel_rfl
theorem lkO4 (w : World) (os : OsState) : tabsOk hd.view_39 (lkS w os) = true := by kernel_rfl
theorem lkO5 (w : World) (os : OsState) : pinSeenD hd.view_39 (drecsOf hd.view_39) (lkS w os) = pinGoodD (drecsOf hd.view_39) := by kernel_rfl
theorem lkO6 (w : World) (os : OsState) : plainSeenE hd.view_39 (looseW hd.view_39 lkL) (lkS w os) = plainGoodE hd.view_39 (looseW hd.view_39 lkL) := by kernel_rfl
theorem lkO7 (w : World) (os : OsState) : plainSeenD hd.view_39 lkL (lkS w os) = plainGoodD hd.view_39 lkL := by kernel_rfl
theorem lkO8 (w : World) (os : OsState) : wideSeen hd.view_39 (lkS w os) = wideGood hd.view_39 := by kernel_rfl
theorem lkO9 (w : World) (os : OsState) : clsSeenW hd.view_39 lkL (lkS w os) = clsGoodW hd.view_39 lkL := by kernel_rfl
theorem pairEq {α β : Type} {a b : α} {c d : β} (h : a = b) (k : c = d) : (a, c) = (b, d) := by rw [h, k]
theorem lk5 (w : World) (os : OsState) : openSeen hd.view_39 lkL (importedModules prg.main.body) lkX true (lkS w os) = openGood hd.view_39 lkL :=
  pairEq (lkO1 w os) (pairEq (lkO2 w) (pairEq (look_both (look_both (look_both (look_both (look_both (look_both (lkO3a w) (lkO3b w)) (lkO3c w)) (lkO3d w)) (lkO3e w)) (lkO3f w os)) rfl) (pairEq (lkO4 w os) (pairEq (lkO5 w os) (pairEq (lkO6 w os) (pairEq (lkO7 w os) (pairEq (lkO8 w os) (lkO9 w os))))))))
theorem lk6 (w : World) (os : OsState) : Hook.obs hd.hook (lkS w os) = Hook.val hd.hook w := by kernel_rfl
theorem look41 : ∀ w : World, (fun os => ((staticsOk (importedModules prg.main.body) (boot_heap w.params) (heap644 w.params) && namesBound prg (heap644 w.params) && gensDone ⟨heap644 w.params, Array.mk [], Drawn.mk 0 0 0 0, 1011, os⟩ && laidKept (boot_heap w.params) (heap644 w.params)),
    openSeen hd.view_39 [Str.ofString "ones_sum", Str.ofString "checksum", Str.ofString "IpHeader"] (importedModules prg.main.body) (fun s => xlAt Mine.hd.view_39 [] s && recOk (RowW.records (OpenRow.toRowW PySem.Challenge.rw_nu0136_01.row)) s) true ⟨heap644 w.params, Array.mk [], Drawn.mk 0 0 0 0, 1011, os⟩, Hook.obs hd.hook ⟨heap644 w.params, Array.mk [], Drawn.mk 0 0 0 0, 1011, os⟩)) =
    fun _ => (true, openGood hd.view_39 [Str.ofString "ones_sum", Str.ofString "checksum", Str.ofString "IpHeader"], Hook.val hd.hook w) := fun w => funext fun os =>
  pairEq (look_both (look_both (look_both (lk1 w) (lk2 w)) (lk3 w os)) (lk4 w)) (pairEq (lk5 w os) (lk6 w os))
theorem fillText : (fun (_ : OpenLaw) (_ : Params → Frag) => True) PySem.Challenge.rw_nu0136_01 Mine.hd.heap_39 := by
  k_fill
  trivial

noncomputable abbrev TopV (mean : ExcName → Option Value) (mg mb : Str → Option Value) (h : Heap) : Prop :=
  Top Mine.hd.view_39 (looseW Mine.hd.view_39 [Str.ofString "ones_sum", Str.ofString "checksum", Str.ofString "IpHeader"]) mean mg mb h
noncomputable abbrev PR : Program := PySem.Challenge.rw_nu0136_01.row.prog
noncomputable abbrev KK (w : World) : Frag := Mine.hd.heap_39 w.params
noncomputable abbrev Led := List (Addr × Obj)
noncomputable abbrev By := List UInt8

/-- x is a name of the kind k -/
noncomputable def kindIs (sc : Scope) (x : Str) (k : NameKind) : Bool := (sc.names.lookup x == some k) && (x == Str.ofString "__debug__") == false
theorem kindIs_of {sc : Scope} {x : Str} {k : NameKind} (h : kindIs sc x k = true) : sc.names.lookup x = some k ∧ (x == Str.ofString "__debug__") = false := by
  unfold kindIs at h
  obtain ⟨a, b⟩ := Bool.and_eq_true_iff.mp h
  exact ⟨beq_iff_eq.mp a, by simpa using b⟩
/-- what stays in a frame -/
structure Cx where
  mean : ExcName → Option Value
  mg : Str → Option Value
  mb : Str → Option Value
  dp : Nat
  un : Nat
  gd : Option (List Code)
  cn : Str
  cs : Scope
  L : Addr
  a : Addr
  ccd : Value
  cl : List (Str × Addr)
  outer : List Env
  A₀ : Around
  base : Heap
  h₀ : Heap
  env : Env
  hid : Led
  lv : (Str → Option Value) → Str → Option Value
noncomputable abbrev Cx.fenv (c : Cx) : Env := envX c.cn c.cs c.L c.a c.ccd c.cl
noncomputable abbrev Cx.A (c : Cx) : Around := ktrTop c.dp c.un c.gd c.cn c.cs c.L c.a c.ccd c.cl c.outer
/-- names are evaluated in env: the frame's own, or a comprehension's; hid lies still -/
structure Cx.Ok (c : Cx) (w : World) (sc : Scope) (d : Nat) : Prop where
  below : Below c.A₀ c.base c.outer c.h₀
  inK : (KK w).In c.h₀
  top : TopV c.mean c.mg c.mb c.h₀
  fkind : c.cs.kind = .function
  scope : c.env.scope = sc
  kind : sc.kind = .function
  gl : c.env.globals = mainGlobals
  bl : c.env.builtins = builtinsNs
  loc : ∀ (h : Heap) mv x v, Fr c.h₀ c.L h mv → (∀ p ∈ c.hid, h.get? p.1 = some p.2) → kindIs sc x .local = true → c.lv mv x = some v → ∃ mm, h.Ns c.env.locals mm ∧ mm x = some v
  cell : ∀ (h : Heap) mv x v, Fr c.h₀ c.L h mv → (∀ p ∈ c.hid, h.get? p.1 = some p.2) → kindIs sc x .cell = true → c.lv mv x = some v → ∃ ca o, c.env.cells.lookup x = some ca ∧ h.get? ca = some o ∧ o.data = .cell (some v)
  dp : c.dp + d < recursionLimit
  un : c.un + 8 * d + 2 < cLine
/-- the frame's own names -/
structure Cx.OkM (c : Cx) (w : World) (sc : Scope) (d : Nat) : Prop where
  ok : c.Ok w sc d
  main : c.env = c.fenv
  put : ∀ mv x v, kindIs sc x .local = true → c.lv (fun y => if y = x then some v else mv y) = fun y => if y = x then some v else c.lv mv y
theorem Cx.Ok.mono {c : Cx} {w : World} {sc : Scope} {d e : Nat} (h : c.Ok w sc d) (k : e ≤ d) : c.Ok w sc e :=
  { h with dp := Nat.lt_of_le_of_lt (Nat.add_le_add_left k _) h.dp, un := by have := h.un; (first | lia | omega) }

/-- a value up to its token -/
inductive AV where
  | int (i : Int)
  | bytes (b : By)
  | v (x : Value)
noncomputable abbrev AV.ref (a : Addr) : AV := .v (.ref a)
noncomputable abbrev AV.bool (b : Bool) : AV := .v (.bool b)
noncomputable abbrev AV.none : AV := .v .none
noncomputable def AV.has : AV → Value → Prop
  | .int i, x => ∃ t, x = .int i t
  | .bytes b, x => ∃ t, x = .bytes b.toArray t
  | .v y, x => x = y
/-- an object up to tokens and the address of its dict -/
inductive AO where
  | tup (vs : List AV)
  | lst (vs : List AV)
  | inst (C : Addr) (fs : List (Str × AV))
  | raw (o : Obj)
noncomputable abbrev Vars := List (Str × AV)
noncomputable def keyOut (x : Str) : Vars → Bool
  | [] => true
  | p :: r => (p.1 == x) == false && keyOut x r
theorem keyOut_of {x : Str} {m : Vars} (k : keyOut x m = true) : ∀ p ∈ m, p.1 ≠ x := by
  induction m with
  | nil => exact fun _ h => nomatch h
  | cons q r ih =>
    have k := Bool.and_eq_true_iff.mp k
    exact List.forall_mem_cons.mpr ⟨fun e => by have := k.1; rw [e] at this; simp at this, ih k.2⟩
noncomputable def nodupK : Vars → Bool
  | [] => true
  | p :: r => keyOut p.1 r && nodupK r
noncomputable abbrev ALed := List (Addr × AO)
inductive Has : List AV → List Value → Prop
  | nil : Has [] []
  | cons {a v as vs} : a.has v → Has as vs → Has (a :: as) (v :: vs)
inductive Flds (P : Params) : List (Str × AV) → List DictEntry → Prop
  | nil : Flds P [] []
  | cons {x a v t fs es} : a.has v → Flds P fs es → Flds P ((x, a) :: fs) (⟨PyData.keyHash P x, .str x t, v⟩ :: es)
noncomputable abbrev tupObj (us : List Value) : Obj := { cls := .type "tuple", data := .seq us.toArray }
inductive Real (P : Params) : ALed → Led → Prop
  | nil : Real P [] []
  | tup {a vs us n news} : Has vs us → Real P n news → Real P ((a, .tup vs) :: n) ((a, tupObj us) :: news)
  | lst {a vs us k n news} : Has vs us → Real P n news → Real P ((a, .lst vs) :: n) ((a, listOf us.toArray k) :: news)
  | inst {a C dx fs es k n news} : nodupK fs = true → Flds P fs es → Real P n news → Real P ((a, .inst C fs) :: n) ((a, instObj C dx) :: (dx, dictOf es k) :: news)
  | raw {a o n news} : Real P n news → Real P ((a, .raw o) :: n) ((a, o) :: news)
noncomputable def VarsAt (m : Vars) (mv : Str → Option Value) : Prop := ∀ p ∈ m, ∃ v, mv p.1 = some v ∧ p.2.has v
noncomputable def Frm (w : World) (c : Cx) (m : Vars) (n : ALed) (s : Shared) : Prop :=
  ∃ mv news, Fr c.h₀ c.L s.heap mv ∧ VarsAt m (c.lv mv) ∧ News c.h₀ c.L s.heap (news ++ c.hid) ∧ Real w.params n news ∧ ((news ++ c.hid).map (·.1)).Nodup

/-- a tree runs from what is known to what is known -/
noncomputable def Tr {α : Type} (w : World) (c : Cx) (m : Vars) (n : ALed) (t : Sem α) (P : α → Vars → ALed → Prop) : Prop :=
  ∀ (s : Shared) (Q : α → Shared → Prop) (E : Value → Shared → Prop), Frm w c m n s →
    (∀ a m' n' h' tk', P a m' n' → Frm w c m' n' { s with heap := h', toks := tk' } → Q a { s with heap := h', toks := tk' }) → wpAny (model PR w) c.A t Q E s

theorem Frm.tok {w c m n} {s : Shared} (F : Frm w c m n s) (tk : Nat) : Frm w c m n { s with toks := tk } := F
theorem Tr.mono {α} {w c m n} {t : Sem α} {P P' : α → Vars → ALed → Prop} (h : Tr w c m n t P) (k : ∀ a m' n', P a m' n' → P' a m' n') : Tr w c m n t P' :=
  fun s Q E F q => h s Q E F fun a m' n' h' tk' p => q a m' n' h' tk' (k _ _ _ p)
theorem Tr.pure {α} {w c m n} {a : α} {P : α → Vars → ALed → Prop} (h : P a m n) : Tr w c m n (Pure.pure a) P :=
  fun s _ _ F q => wpAny_pure (q a m n s.heap s.toks h F)
theorem Tr.bind {α β} {w c m n} {t : Sem α} {f : α → Sem β} {P : β → Vars → ALed → Prop} (h : Tr w c m n t (fun a m' n' => Tr w c m' n' (f a) P)) : Tr w c m n (t >>= f) P :=
  fun s Q E F q => wpAny_bind (h s _ E F fun a m' n' h' tk' p F' => p _ Q E F' fun b m2 n2 h2 tk2 p2 F2 => q b m2 n2 h2 tk2 p2 F2)

/-- a state of a walk: scope, budget of frames, locals, ledger -/
structure St where
  w : World
  sc : Scope
  d : Nat
  m : Vars
  n : ALed
noncomputable def EvK (S : St) (e : Expr) (P : AV → ALed → Prop) : Prop :=
  ∀ c : Cx, c.Ok S.w S.sc S.d → Tr S.w c S.m S.n (eval e c.env) fun v m' n' => m' = S.m ∧ ∃ a : AV, a.has v ∧ P a n'
noncomputable def Ev (S : St) (e : Expr) (a : AV) : Prop := EvK S e fun b n' => b = a ∧ n' = S.n
noncomputable def EvKs (S : St) (es : List Expr) (P : List AV → ALed → Prop) : Prop :=
  ∀ c : Cx, c.Ok S.w S.sc S.d → ∀ pos, Tr S.w c S.m S.n (spliced (backTo pos (starEach es c.env))) fun vs m' n' => m' = S.m ∧ ∃ as, Has as vs ∧ P as n'
noncomputable def Evs (S : St) (es : List Expr) (as : List AV) : Prop := EvKs S es fun bs n' => bs = as ∧ n' = S.n
noncomputable def Tst (S : St) (e : Expr) (b : Bool) : Prop :=
  ∀ c : Cx, c.Ok S.w S.sc S.d → Tr S.w c S.m S.n (isTrue e c.env (eval e c.env)) fun v m' n' => m' = S.m ∧ n' = S.n ∧ v = b
/-- a call of fv on as, d frames at most, in the ledger n -/
noncomputable def CallK (w : World) (d : Nat) (n : ALed) (fv : Value) (as : List AV) (R : AV → ALed → Prop) : Prop :=
  ∀ (c : Cx) (sc : Scope), c.Ok w sc d → ∀ m vs, Has as vs → Tr w c m n (call fv vs) fun v m' n' => m' = m ∧ ∃ a : AV, a.has v ∧ R a n'
/-- the end of a def -/
noncomputable def RetP (R : AV → ALed → Prop) : Flow → Vars → ALed → Prop := fun f _ n => match f with
  | .ret v => ∃ a : AV, a.has v ∧ R a n
  | .next => R .none n
  | _ => False
/-- an operation on two values -/
noncomputable def Op2 (w : World) (n : ALed) (f : Value → Value → Sem Value) (a b : AV) (R : AV → ALed → Prop) : Prop :=
  ∀ (c : Cx) (sc : Scope), c.Ok w sc 0 → ∀ m va vb, a.has va → b.has vb → Tr w c m n (f va vb) fun v m' n' => m' = m ∧ ∃ r : AV, r.has v ∧ R r n'
noncomputable abbrev Op (w : World) (n : ALed) (f : Value → Value → Sem Value) (a b r : AV) : Prop := Op2 w n f a b fun r' n' => r' = r ∧ n' = n

section
variable {S : St} {P : AV → ALed → Prop} {R : Flow → Vars → ALed → Prop}
theorem Tr.weak {α} {w c m n m' n'} {t : Sem α} {P : α → Vars → ALed → Prop} (h : ∀ s, Frm w c m n s → Frm w c m' n' s) (k : Tr w c m' n' t P) : Tr w c m n t P :=
  fun s Q E F q => k s Q E (h s F) q
theorem EvK.mono {e} {P' : AV → ALed → Prop} (h : EvK S e P) (k : ∀ a n', P a n' → P' a n') : EvK S e P' :=
  fun c ok => (h c ok).mono fun _ _ _ ⟨e1, a, ha, p⟩ => ⟨e1, a, ha, k _ _ p⟩
theorem EvK.of {e a} (h : Ev S e a) (k : P a S.n) : EvK S e P := EvK.mono h fun _ _ ⟨e1, e2⟩ => e1 ▸ e2 ▸ k
theorem CallK.mono {w d n fv as} {R R' : AV → ALed → Prop} (h : CallK w d n fv as R) (k : ∀ a n', R a n' → R' a n') : CallK w d n fv as R' :=
  fun c sc ok m vs hv => (h c sc ok m vs hv).mono fun _ _ _ ⟨e1, a, ha, p⟩ => ⟨e1, a, ha, k _ _ p⟩

end
noncomputable def plainE (e : Expr) : Bool := !(Nat.beq e.ctorIdx 22)
theorem starEach_plain {e : Expr} (h : plainE e = true) (rest : List Expr) (env : Env) : starEach (e :: rest) env = (false, eval e env) :: starEach rest env := by
  cases e <;> first | rfl | cases h
theorem star_any {es : List Expr} (h : es.all plainE = true) (pos : Pos) (env : Env) : (backTo pos (starEach es env)).any (·.1) = false := by
  induction es with
  | nil => rfl
  | cons e r ih =>
    rw [List.all_cons, Bool.and_eq_true] at h
    rw [starEach_plain h.1]
    show (false || (backTo pos (starEach r env)).any (·.1)) = false
    rw [ih h.2]; rfl

/-! reading the ledger -/
theorem Real.app {P : Params} {n1 n2 : ALed} {l1 l2 : Led} (h1 : Real P n1 l1) (h2 : Real P n2 l2) : Real P (n1 ++ n2) (l1 ++ l2) := by
  induction h1 with
  | nil => exact h2
  | tup a _ ih => exact .tup a ih
  | lst a _ ih => exact .lst a ih
  | inst z a _ ih => exact .inst z a ih
  | raw _ ih => exact .raw ih
theorem Real.uncons {P : Params} {p : Addr × AO} {n : ALed} {l : Led} (h : Real P (p :: n) l) : ∃ own l', l = own ++ l' ∧ Real P [p] own ∧ Real P n l' := by
  cases h with
  | tup a b => exact ⟨[_], _, rfl, .tup a .nil, b⟩
  | lst a b => exact ⟨[_], _, rfl, .lst a .nil, b⟩
  | inst z a b => exact ⟨[_, _], _, rfl, .inst z a .nil, b⟩
  | raw b => exact ⟨[_], _, rfl, .raw .nil, b⟩
theorem Real.split {P : Params} {n1 n2 : ALed} : ∀ {l : Led}, Real P (n1 ++ n2) l → ∃ l1 l2, l = l1 ++ l2 ∧ Real P n1 l1 ∧ Real P n2 l2 := by
  induction n1 with
  | nil => exact fun h => ⟨[], _, rfl, .nil, h⟩
  | cons p n1 ih =>
    intro l h
    obtain ⟨own, l', rfl, h1, h2⟩ := Real.uncons (n := n1 ++ n2) h
    obtain ⟨l1, l2, rfl, h3, h4⟩ := ih h2
    exact ⟨own ++ l1, l2, (List.append_assoc _ _ _).symm, h1.app h3, h4⟩
/-- one entry and where it lies -/
theorem Real.at {P : Params} {n : ALed} {l : Led} {p : Addr × AO} (h : Real P n l) (hp : p ∈ n) : ∃ l1 own l2, l = l1 ++ (own ++ l2) ∧ Real P [p] own := by
  obtain ⟨n1, n2, rfl⟩ := List.append_of_mem hp
  obtain ⟨l1, l', rfl, _, h2⟩ := Real.split h
  rw [← List.singleton_append] at h2
  obtain ⟨own, l2, rfl, h3, _⟩ := Real.split h2
  exact ⟨l1, own, l2, rfl, h3⟩
theorem Real.sub {P : Params} {n n' : ALed} (hs : n'.Sublist n) : ∀ {l : Led}, Real P n l → ∃ l', l'.Sublist l ∧ Real P n' l' := by
  induction hs with
  | slnil => intro l h; exact ⟨l, List.Sublist.refl l, h⟩
  | cons p hs ih =>
    intro l h
    obtain ⟨own, l', rfl, h1, h2⟩ := h.uncons
    obtain ⟨l2, s, r⟩ := ih h2
    exact ⟨l2, s.trans (List.sublist_append_right own l'), r⟩
  | cons_cons p hs ih =>
    intro l h
    obtain ⟨own, l', rfl, h1, h2⟩ := h.uncons
    obtain ⟨l2, s, r⟩ := ih h2
    exact ⟨own ++ l2, List.Sublist.append_left s own, h1.app r⟩
/-- what one entry is -/
noncomputable def RealOne (P : Params) (a : Addr) : AO → Led → Prop
  | .tup vs, l => ∃ us, l = [(a, tupObj us)] ∧ Has vs us
  | .lst vs, l => ∃ us k, l = [(a, listOf us.toArray k)] ∧ Has vs us
  | .inst C fs, l => ∃ dx es k, l = [(a, instObj C dx), (dx, dictOf es k)] ∧ nodupK fs = true ∧ Flds P fs es
  | .raw o, l => l = [(a, o)]
theorem Real.one {P : Params} {a : Addr} {o : AO} {l : Led} (h : Real P [(a, o)] l) : RealOne P a o l := by
  cases h with
  | tup a b => cases b; exact ⟨_, rfl, a⟩
  | lst a b => cases b; exact ⟨_, _, rfl, a⟩
  | inst z a b => cases b; exact ⟨_, _, _, rfl, z, a⟩
  | raw b => cases b; rfl
theorem Real.ent {P : Params} {a : Addr} {o : AO} {n : ALed} {l : Led} (h : Real P ((a, o) :: n) l) : ∃ own l', l = own ++ l' ∧ RealOne P a o own ∧ Real P n l' := by
  obtain ⟨own, l', e, h1, h2⟩ := h.uncons
  exact ⟨own, l', e, h1.one, h2⟩
/-- entries and facts may be forgotten -/
theorem Frm.sub {w c m n m' n'} {s : Shared} (hm : ∀ p ∈ m', p ∈ m) (hs : n'.Sublist n) (F : Frm w c m n s) : Frm w c m' n' s := by
  obtain ⟨mv, l, F, V, N, R, D⟩ := F
  obtain ⟨l', s', R'⟩ := R.sub hs
  have s2 := List.Sublist.append_right s' c.hid
  exact ⟨mv, l', F, fun p hp => V p (hm p hp), fun p hp => N p (s2.subset hp), R', (s2.map _).nodup D⟩
theorem Frm.hidden {w c m n} {s : Shared} (F : Frm w c m n s) : ∀ p ∈ c.hid, s.heap.get? p.1 = some p.2 := by
  obtain ⟨mv, l, F, V, N, R, D⟩ := F
  exact fun p hp => (N p (List.mem_append_right _ hp)).1
theorem Frm.ledger {w c m n n'} {s : Shared} (hs : n'.Sublist n) (F : Frm w c m n s) : Frm w c m n' s := F.sub (fun _ h => h) hs

section
variable {S : St} {P : AV → ALed → Prop}
theorem Cx.Ok.kd {c : Cx} {w sc d} (ok : c.Ok w sc d) : c.env.scope.kind = .function := ok.scope ▸ ok.kind
theorem Cx.Ok.kdOf {c : Cx} {w sc d x k} (ok : c.Ok w sc d) (h : kindIs sc x k = true) : c.env.kindOf x = some k := by
  show c.env.scope.names.lookup x = some k
  rw [ok.scope]; exact (kindIs_of h).1

theorem Ev.name {x a pos} (h : (x, a) ∈ S.m) (k : kindIs S.sc x .local = true) : Ev S (.Name x pos) a := fun c ok s Q E F q => by
  have hh := F.hidden
  obtain ⟨mv, l, F', V, r⟩ := F
  obtain ⟨v, hv, ha⟩ := V _ h
  obtain ⟨mm, hn, hm⟩ := ok.loc s.heap mv x v F' hh k hv
  exact wpAny_Name (wpAny_loadName_local ok.kd (ok.kdOf k) hn hm (q v S.m S.n s.heap s.toks ⟨rfl, a, ha, rfl, rfl⟩ ⟨mv, l, F', V, r⟩)) (kindIs_of k).2
theorem Ev.cell {x a pos} (h : (x, a) ∈ S.m) (k : kindIs S.sc x .cell = true) : Ev S (.Name x pos) a := fun c ok s Q E F q => by
  have hh := F.hidden
  obtain ⟨mv, l, F', V, r⟩ := F
  obtain ⟨v, hv, ha⟩ := V _ h
  obtain ⟨ca, o, h1, h2, h3⟩ := ok.cell s.heap mv x v F' hh k hv
  exact wpAny_Name (wpAny_loadName_cell ok.kd (ok.kdOf k) h1 ⟨o, h2, h3⟩ (q v S.m S.n s.heap s.toks ⟨rfl, a, ha, rfl, rfl⟩ ⟨mv, l, F', V, r⟩)) (kindIs_of k).2
theorem Ev.glob {x a v pos} (e : nsIn (Mine.hd.heap_39 S.w.params) mainGlobals x = some (some v)) (ha : a.has v) (k : kindIs S.sc x .globalImplicit = true) : Ev S (.Name x pos) a := fun c ok s Q E F q => by
  obtain ⟨mv, l, F', r⟩ := F
  have T := topRead_of ok.top
  exact Calls.Name_function_global ok.kd (ok.kdOf k) (Calls.loadGlobal_global (env := c.env) (by rw [ok.gl]; exact T.g.keeps F'.keep) (mg_of ok.inK T.g e) (q v S.m S.n s.heap s.toks ⟨rfl, a, ha, rfl, rfl⟩ ⟨mv, l, F', r⟩)) (kindIs_of k).2
theorem Ev.globI {x i t pos} (e : nsIn (Mine.hd.heap_39 S.w.params) mainGlobals x = some (some (.int i t))) (k : kindIs S.sc x .globalImplicit = true) : Ev S (.Name x pos) (.int i) := Ev.glob e ⟨t, rfl⟩ k
theorem Ev.globV {x v pos} (e : nsIn (Mine.hd.heap_39 S.w.params) mainGlobals x = some (some v)) (k : kindIs S.sc x .globalImplicit = true) : Ev S (.Name x pos) (.v v) := Ev.glob e rfl k
theorem Ev.blt {x v pos} (e : nsIn (Mine.hd.heap_39 S.w.params) mainGlobals x = some none) (hv : bootBuiltins x = some v) (k : kindIs S.sc x .globalImplicit = true) (hn : x ≠ "__name__") : Ev S (.Name x pos) (.v v) := fun c ok s Q E F q => by
  obtain ⟨mv, l, F', r⟩ := F
  have T := topRead_of ok.top
  exact Calls.Name_function_global ok.kd (ok.kdOf k) (Calls.loadGlobal_builtin (env := c.env) (by rw [ok.gl]; exact T.g.keeps F'.keep) (mg_none_of ok.inK T.g e) (by rw [ok.bl]; exact T.b.keeps F'.keep) ((T.builtins x hn).trans hv) (q v S.m S.n s.heap s.toks ⟨rfl, .v v, rfl, rfl, rfl⟩ ⟨mv, l, F', r⟩)) (kindIs_of k).2
theorem Ev.int {i k pos} : Ev S (.Constant (.int i) k pos) (.int i) := fun c ok s Q E F q =>
  wpAny_Constant_int (q _ S.m S.n s.heap (s.toks + 1) ⟨rfl, .int i, ⟨_, rfl⟩, rfl, rfl⟩ F)
theorem Ev.bytes {b k pos} : Ev S (.Constant (.bytes b) k pos) (.bytes b) := fun c ok s Q E F q =>
  Constant_bytes (q _ S.m S.n s.heap (s.toks + 1) ⟨rfl, .bytes b, ⟨_, rfl⟩, rfl, rfl⟩ F)
theorem Ev.boolc {b k pos} : Ev S (.Constant (.bool b) k pos) (.bool b) := fun c ok s Q E F q =>
  Constant_bool (q _ S.m S.n s.heap s.toks ⟨rfl, .bool b, rfl, rfl, rfl⟩ F)
theorem Ev.noneC {k pos} : Ev S (.Constant .none k pos) .none := fun c ok s Q E F q =>
  Constant_none (q _ S.m S.n s.heap s.toks ⟨rfl, .none, rfl, rfl, rfl⟩ F)

/-! what is known behind a step -/
theorem evOut {m : Vars} {n : ALed} {v : Value} {a : AV} (ha : a.has v) (h : P a n) : m = m ∧ ∃ a : AV, a.has v ∧ P a n := ⟨rfl, a, ha, h⟩
theorem evPut {m : Vars} {n : ALed} {v : Value} {a : AV} (ha : a.has v) : m = m ∧ ∃ b : AV, b.has v ∧ b = a ∧ n = n := ⟨rfl, a, ha, rfl, rfl⟩
theorem EvK.run {e} (h : EvK S e P) {c : Cx} (ok : c.Ok S.w S.sc S.d) {s : Shared} {Q : Value → Shared → Prop} {E : Value → Shared → Prop} (F : Frm S.w c S.m S.n s)
    (q : ∀ v n1 h1 tk1 (a : AV), a.has v → P a n1 → Frm S.w c S.m n1 { s with heap := h1, toks := tk1 } → Q v { s with heap := h1, toks := tk1 }) : wpAny (model PR S.w) c.A (eval e c.env) Q E s :=
  h c ok s Q E F fun v m1 n1 h1 tk1 ⟨e1, a, ha, hp⟩ F1 => q v n1 h1 tk1 a ha hp (e1 ▸ F1)
theorem Ev.run {e a} (h : Ev S e a) {c : Cx} (ok : c.Ok S.w S.sc S.d) {s : Shared} {Q : Value → Shared → Prop} {E : Value → Shared → Prop} (F : Frm S.w c S.m S.n s)
    (q : ∀ v h1 tk1, a.has v → Frm S.w c S.m S.n { s with heap := h1, toks := tk1 } → Q v { s with heap := h1, toks := tk1 }) : wpAny (model PR S.w) c.A (eval e c.env) Q E s :=
  EvK.run h ok F fun v n1 h1 tk1 b ha hp F1 => q v h1 tk1 (hp.1 ▸ ha) (hp.2 ▸ F1)
theorem Ev.runV {e u} (h : Ev S e (.v u)) {c : Cx} (ok : c.Ok S.w S.sc S.d) {s : Shared} {Q : Value → Shared → Prop} {E : Value → Shared → Prop} (F : Frm S.w c S.m S.n s)
    (q : ∀ h1 tk1, Frm S.w c S.m S.n { s with heap := h1, toks := tk1 } → Q u { s with heap := h1, toks := tk1 }) : wpAny (model PR S.w) c.A (eval e c.env) Q E s :=
  Ev.run h ok F fun v h1 tk1 ha F1 => (show v = u from ha) ▸ q h1 tk1 F1
theorem Ev.runI {e i} (h : Ev S e (.int i)) {c : Cx} (ok : c.Ok S.w S.sc S.d) {s : Shared} {Q : Value → Shared → Prop} {E : Value → Shared → Prop} (F : Frm S.w c S.m S.n s)
    (q : ∀ t h1 tk1, Frm S.w c S.m S.n { s with heap := h1, toks := tk1 } → Q (.int i t) { s with heap := h1, toks := tk1 }) : wpAny (model PR S.w) c.A (eval e c.env) Q E s :=
  Ev.run h ok F fun v h1 tk1 ⟨t, e⟩ F1 => e ▸ q t h1 tk1 F1
theorem Ev.runB {e b} (h : Ev S e (.bytes b)) {c : Cx} (ok : c.Ok S.w S.sc S.d) {s : Shared} {Q : Value → Shared → Prop} {E : Value → Shared → Prop} (F : Frm S.w c S.m S.n s)
    (q : ∀ t h1 tk1, Frm S.w c S.m S.n { s with heap := h1, toks := tk1 } → Q (.bytes b.toArray t) { s with heap := h1, toks := tk1 }) : wpAny (model PR S.w) c.A (eval e c.env) Q E s :=
  Ev.run h ok F fun v h1 tk1 ⟨t, e⟩ F1 => e ▸ q t h1 tk1 F1
theorem EvKs.run {es} {P : List AV → ALed → Prop} (h : EvKs S es P) {c : Cx} (ok : c.Ok S.w S.sc S.d) {pos : Pos} {s : Shared} {Q : List Value → Shared → Prop} {E : Value → Shared → Prop} (F : Frm S.w c S.m S.n s)
    (q : ∀ vs n1 h1 tk1 (as : List AV), Has as vs → P as n1 → Frm S.w c S.m n1 { s with heap := h1, toks := tk1 } → Q vs { s with heap := h1, toks := tk1 }) : wpAny (model PR S.w) c.A (spliced (backTo pos (starEach es c.env))) Q E s :=
  h c ok pos s Q E F fun v m1 n1 h1 tk1 ⟨e1, a, ha, hp⟩ F1 => q v n1 h1 tk1 a ha hp (e1 ▸ F1)
theorem Tst.run {e b} (h : Tst S e b) {c : Cx} (ok : c.Ok S.w S.sc S.d) {s : Shared} {Q : Bool → Shared → Prop} {E : Value → Shared → Prop} (F : Frm S.w c S.m S.n s)
    (q : ∀ h1 tk1, Frm S.w c S.m S.n { s with heap := h1, toks := tk1 } → Q b { s with heap := h1, toks := tk1 }) : wpAny (model PR S.w) c.A (isTrue e c.env (eval e c.env)) Q E s :=
  h c ok s Q E F fun v m1 n1 h1 tk1 ⟨e1, e2, e3⟩ F1 => e3 ▸ q h1 tk1 (e1 ▸ e2 ▸ F1)
theorem CallK.run {w : World} {d : Nat} {n : ALed} {fv : Value} {as : List AV} {R : AV → ALed → Prop} (h : CallK w d n fv as R) {c : Cx} {sc : Scope} (ok : c.Ok w sc d) {m : Vars} {vs : List Value} (hv : Has as vs) {s : Shared} {Q : Value → Shared → Prop} {E : Value → Shared → Prop} (F : Frm w c m n s)
    (q : ∀ v n1 h1 tk1 (a : AV), a.has v → R a n1 → Frm w c m n1 { s with heap := h1, toks := tk1 } → Q v { s with heap := h1, toks := tk1 }) : wpAny (model PR w) c.A (call fv vs) Q E s :=
  h c sc ok m vs hv s Q E F fun v m1 n1 h1 tk1 ⟨e1, a, ha, hp⟩ F1 => q v n1 h1 tk1 a ha hp (e1 ▸ F1)
theorem Op2.run {w : World} {n : ALed} {f : Value → Value → Sem Value} {a b : AV} {R : AV → ALed → Prop} (h : Op2 w n f a b R) {c : Cx} {sc : Scope} {d : Nat} (ok : c.Ok w sc d) {m : Vars} {va vb : Value} (ha : a.has va) (hb : b.has vb) {s : Shared} {Q : Value → Shared → Prop} {E : Value → Shared → Prop} (F : Frm w c m n s)
    (q : ∀ v n1 h1 tk1 (r : AV), r.has v → R r n1 → Frm w c m n1 { s with heap := h1, toks := tk1 } → Q v { s with heap := h1, toks := tk1 }) : wpAny (model PR w) c.A (f va vb) Q E s :=
  h c sc (ok.mono (Nat.zero_le _)) m va vb ha hb s Q E F fun v m1 n1 h1 tk1 ⟨e1, a, ha, hp⟩ F1 => q v n1 h1 tk1 a ha hp (e1 ▸ F1)
theorem Op.run {w : World} {n : ALed} {f : Value → Value → Sem Value} {a b r : AV} (h : Op w n f a b r) {c : Cx} {sc : Scope} {d : Nat} (ok : c.Ok w sc d) {m : Vars} {va vb : Value} (ha : a.has va) (hb : b.has vb) {s : Shared} {Q : Value → Shared → Prop} {E : Value → Shared → Prop} (F : Frm w c m n s)
    (q : ∀ v h1 tk1, r.has v → Frm w c m n { s with heap := h1, toks := tk1 } → Q v { s with heap := h1, toks := tk1 }) : wpAny (model PR w) c.A (f va vb) Q E s :=
  Op2.run h ok ha hb F fun v n1 h1 tk1 b ha hp F1 => q v h1 tk1 (hp.1 ▸ ha) (hp.2 ▸ F1)
/-- one after the other, both may change the ledger -/
theorem EvK.bin {w : World} {sc : Scope} {d : Nat} {m : Vars} {n : ALed} {l op r pos} (h : EvK ⟨w, sc, d, m, n⟩ l fun a n1 => EvK ⟨w, sc, d, m, n1⟩ r fun b n2 => Op2 w n2 (binaryOp op) a b P) : EvK ⟨w, sc, d, m, n⟩ (.BinOp l op r pos) P := fun c ok s Q E F q =>
  wpAny_BinOp (h.run ok F fun v n1 h1 tk1 a ha hb F1 => hb.run ok F1 fun u n2 h2 tk2 b hbb hc F2 => hc.run ok ha hbb F2 fun y n3 h3 tk3 r hr h F3 => q y m n3 h3 tk3 (evOut hr h) F3)
theorem Ev.bin {l op r pos a b x} (h1 : Ev S l a) (h2 : Ev S r b) (h : Op S.w S.n (binaryOp op) a b x) : Ev S (.BinOp l op r pos) x :=
  EvK.bin (EvK.of h1 (EvK.of h2 h))
theorem EvK.cmp {w : World} {sc : Scope} {d : Nat} {m : Vars} {n : ALed} {l op r pos} (h : EvK ⟨w, sc, d, m, n⟩ l fun a n1 => EvK ⟨w, sc, d, m, n1⟩ r fun b n2 => Op2 w n2 (compareOp op) a b P) (hm : behindInMarks op r = false) : EvK ⟨w, sc, d, m, n⟩ (.Compare l [op] [r] pos) P := fun c ok s Q E F q =>
  wpAny_Compare1 (h.run ok F fun v n1 h1 tk1 a ha hb F1 => hb.run ok F1 fun u n2 h2 tk2 b hbb hc F2 => hc.run ok ha hbb F2 fun y n3 h3 tk3 r hr h F3 => q y m n3 h3 tk3 (evOut hr h) F3) hm
theorem Ev.cmp {l op r pos a b x} (h1 : Ev S l a) (h2 : Ev S r b) (h : Op S.w S.n (compareOp op) a b x) (hm : behindInMarks op r = false) : Ev S (.Compare l [op] [r] pos) x :=
  EvK.cmp (EvK.of h1 (EvK.of h2 h)) hm
theorem Ev.neg {x pos i} (h : Ev S x (.int i)) : Ev S (.UnaryOp .USub x pos) (.int (-i)) := fun c ok s Q E F q =>
  UnaryOp_ (h.runI ok F fun t h1 tk1 F1 => PyProof.Rows.neg_int (q _ S.m S.n h1 (tk1 + 1) (evPut ⟨_, rfl⟩) F1))

/-- the truth of a value -/
noncomputable def Tru : AV → Bool → Prop
  | .int i, b => b = (i != 0)
  | .v (.bool c), b => b = c
  | .v .none, b => b = false
  | _, _ => False
/-- no test of its own: its value is asked -/
noncomputable def plainT (e : Expr) : Bool := !(Nat.beq e.ctorIdx 0 || Nat.beq e.ctorIdx 3 || Nat.beq e.ctorIdx 5 || Nat.beq e.ctorIdx 15)
theorem truthy_of {w : World} {A : Around} {v : Value} {a : AV} {b : Bool} {Q : Bool → Shared → Prop} {E} {s : Shared} (ha : a.has v) (h : Tru a b) (q : Q b s) : wpAny (model PR w) A (truthy v) Q E s := by
  cases a with
  | int i => obtain ⟨t, rfl⟩ := ha; cases h; exact PyProof.Rows.truthy_int q
  | bytes b => cases h
  | v x =>
    obtain rfl : v = x := ha
    cases v with
    | bool c => cases h; exact wpAny_truthy_bool q
    | none => cases h; exact truthy_none q
    | _ => cases h
theorem plainT_of {e : Expr} (hp : plainT e = true) : ∀ {env : Env} {t : Sem Value}, isTrue e env t = (do let v ← t; standAt e.pos; holding [v] (truthy v)) := by
  intro env t
  cases e with
  | UnaryOp op => cases op <;> first | rfl | cases hp
  | BoolOp | IfExp | Compare => cases hp
  | _ => rfl
theorem Tst.val {e a b} (h : Ev S e a) (hb : Tru a b) (hp : plainT e = true) : Tst S e b := fun c ok s Q E F q =>
  isTrue_plain (h.run ok F fun v h1 tk1 ha F1 => truthy_of ha hb (q b S.m S.n h1 tk1 ⟨rfl, rfl, rfl⟩ F1)) (plainT_of hp)
theorem Tst.cmp {l op r pos a b t} (h1 : Ev S l a) (h2 : Ev S r b) (h : Op S.w S.n (compareOp op) a b (.bool t)) (hm : behindInMarks op r = false) : Tst S (.Compare l [op] [r] pos) t := fun c ok s Q E F q =>
  wpAny_isTrue_Compare1 (h1.run ok F fun v h1 tk1 ha F1 => h2.run ok F1 fun u h2 tk2 hb F2 => h.run ok ha hb F2 fun y h3 tk3 hr F3 => truthy_of hr rfl (q t S.m S.n h3 tk3 ⟨rfl, rfl, rfl⟩ F3)) hm
theorem Tst.not {x pos b} (h : Tst S x b) : Tst S (.UnaryOp .Not x pos) (!b) := fun c ok s Q E F q =>
  isTrue_not (h.run ok F fun h1 tk1 F1 => q _ S.m S.n h1 tk1 ⟨rfl, rfl, rfl⟩ F1)
theorem Tst.and0 {pos} : Tst S (.BoolOp .And [] pos) true := fun c ok s Q E F q => isTrue_and_nil (q true S.m S.n s.heap s.toks ⟨rfl, rfl, rfl⟩ F)
theorem Tst.or0 {pos} : Tst S (.BoolOp .Or [] pos) false := fun c ok s Q E F q => isTrue_or_nil (q false S.m S.n s.heap s.toks ⟨rfl, rfl, rfl⟩ F)
theorem isTrue_bool_any {op : BoolOp} {xs : List Expr} {pos : Pos} {env : Env} {t t' : Sem Value} : isTrue (.BoolOp op xs pos) env t = isTrue (.BoolOp op xs pos) env t' := rfl
theorem Tst.and {x rest pos b b'} (h : Tst S x b) (h' : b = true → Tst S (.BoolOp .And rest pos) b') : Tst S (.BoolOp .And (x :: rest) pos) (b && b') := fun c ok s Q E F q =>
  isTrue_and (h.run ok F fun h1 tk1 F1 => by
    cases b with
    | false => exact q false S.m S.n h1 tk1 ⟨rfl, rfl, rfl⟩ F1
    | true => exact (h' rfl).run ok F1 fun h2 tk2 F2 => q b' S.m S.n h2 tk2 ⟨rfl, rfl, rfl⟩ F2)
theorem Tst.or {x rest pos b b'} (h : Tst S x b) (h' : b = false → Tst S (.BoolOp .Or rest pos) b') : Tst S (.BoolOp .Or (x :: rest) pos) (b || b') := fun c ok s Q E F q =>
  isTrue_or (h.run ok F fun h1 tk1 F1 => by
    cases b with
    | true => exact q true S.m S.n h1 tk1 ⟨rfl, rfl, rfl⟩ F1
    | false => exact (h' rfl).run ok F1 fun h2 tk2 F2 => q b' S.m S.n h2 tk2 ⟨rfl, rfl, rfl⟩ F2)
/-- a < b < c and the like -/
theorem Ev.chain {l o1 o2 r1 r2 pos a b d t1 t2} (hl : Ev S l a) (h1 : Ev S r1 b) (h2 : t1 = true → Ev S r2 d) (k1 : Op S.w S.n (compareOp o1) a b (.bool t1)) (k2 : t1 = true → Op S.w S.n (compareOp o2) b d (.bool t2)) (hm : lastMarks [o1, o2] [r1, r2] = false) :
    Ev S (.Compare l [o1, o2] [r1, r2] pos) (.bool (t1 && t2)) := fun c ok s Q E F q =>
  Compare_chain (hl.run ok F fun v h1' tk1 ha F1 => chain_link (h1.run ok F1 fun u h2' tk2 hb F2 => k1.run ok ha hb F2 fun y h3 tk3 hr F3 => by
    refine truthy_of hr rfl ?_
    cases t1 with
    | false => exact q _ S.m S.n h3 tk3 (evPut hr) F3
    | true => exact chain_last ((h2 rfl).run ok F3 fun z h4 tk4 hd F4 => (k2 rfl).run ok hb hd F4 fun y h5 tk5 hr F5 => q y S.m S.n h5 tk5 (evPut hr) F5))) hm
theorem Ev.bool1 {op e pos a} (h : Ev S e a) : Ev S (.BoolOp op [e] pos) a := fun c ok s Q E F q => BoolOp_one (h c ok s Q E F q)
theorem Ev.and {e1 e2 rest pos b1 b2} (h1 : Ev S e1 (.bool b1)) (h2 : b1 = true → Ev S (.BoolOp .And (e2 :: rest) pos) (.bool b2)) : Ev S (.BoolOp .And (e1 :: e2 :: rest) pos) (.bool (b1 && b2)) := fun c ok s Q E F q =>
  BoolOp_and (h1.run ok F fun v h1' tk1 ha F1 => truthy_of ha rfl (by
    cases b1 with
    | true => exact h2 rfl c ok _ Q E F1 q
    | false => exact q v S.m S.n h1' tk1 (evPut ha) F1))
theorem Ev.or {e1 e2 rest pos b1 b2} (h1 : Ev S e1 (.bool b1)) (h2 : b1 = false → Ev S (.BoolOp .Or (e2 :: rest) pos) (.bool b2)) : Ev S (.BoolOp .Or (e1 :: e2 :: rest) pos) (.bool (b1 || b2)) := fun c ok s Q E F q =>
  BoolOp_or (h1.run ok F fun v h1' tk1 ha F1 => truthy_of ha rfl (by
    cases b1 with
    | false => exact h2 rfl c ok _ Q E F1 q
    | true => exact q v S.m S.n h1' tk1 (evPut ha) F1))
theorem EvK.ite {t a b pos v} (h : Tst S t v) (h1 : v = true → EvK S a P) (h2 : v = false → EvK S b P) : EvK S (.IfExp t a b pos) P := fun c ok s Q E F q =>
  IfExp_ (h.run ok F fun h1' tk1 F1 => by
    cases v with
    | true => exact h1 rfl c ok _ Q E F1 q
    | false => exact h2 rfl c ok _ Q E F1 q)

/-! arguments, calls -/
theorem EvKs.nil {P : List AV → ALed → Prop} (h : P [] S.n) : EvKs S [] P := fun c ok pos s Q E F q =>
  args_nil (q [] S.m S.n s.heap s.toks ⟨rfl, [], .nil, h⟩ F)
theorem EvKs.cons {w : World} {sc : Scope} {d : Nat} {m : Vars} {n : ALed} {e es} {P : List AV → ALed → Prop} (h : EvK ⟨w, sc, d, m, n⟩ e fun a n1 => EvKs ⟨w, sc, d, m, n1⟩ es fun as n2 => P (a :: as) n2) (hp : plainE e = true) : EvKs ⟨w, sc, d, m, n⟩ (e :: es) P := fun c ok pos s Q E F q =>
  args_cons (h.run ok F fun v n1 h1 tk1 a ha hb F1 => hb.run ok F1 fun vs n2 h2 tk2 as has h F2 => q (v :: vs) m n2 h2 tk2 ⟨rfl, a :: as, .cons ha has, h⟩ F2) (starEach_plain hp _ _)
theorem EvKs.of {es as} {P : List AV → ALed → Prop} (h : Evs S es as) (k : P as S.n) : EvKs S es P := fun c ok pos => (h c ok pos).mono fun _ _ _ ⟨e1, as, ha, e2, e3⟩ => ⟨e1, as, ha, e2 ▸ e3 ▸ k⟩
theorem Evs.nil : Evs S [] [] := EvKs.nil ⟨rfl, rfl⟩
theorem Evs.cons {e es a as} (h : Ev S e a) (hs : Evs S es as) (hp : plainE e = true) : Evs S (e :: es) (a :: as) :=
  EvKs.cons (EvK.of h (EvKs.of hs ⟨rfl, rfl⟩)) hp
/-- a value that may be called -/
noncomputable def mayCall (w : World) : Value → Bool
  | .builtin _ => true
  | .type _ => true
  | f => keepIn (Mine.hd.heap_39 w.params) f
theorem evalArgs_all {M : Model} {A : Around} {E : Value → Shared → Prop} {s : Shared} {f : Value} {es : List Expr} {pos : Pos} {env : Env} {Q : Args → Shared → Prop} (hp : es.all plainE = true)
    (h : wpAny M A (spliced (backTo pos (starEach es env))) (fun vs s' => Q ⟨vs, []⟩ s') E s) : wpAny M A (evalArgs f true (backTo pos (starEach es env)) []) Q E s := by
  cases es with
  | nil =>
    unfold evalArgs
    show wpAny M A (spliced [] >>= _) Q E s
    refine wpAny_bind (wpAny_mono h (fun vs s' h' => ?_) fun _ _ x => x)
    refine wpAny_holding ?_
    exact wpAny_bind (wpAny_pure (wpAny_bind (wpAny_pure (wpAny_pure h'))))
  | cons e r =>
    rw [List.all_cons, Bool.and_eq_true] at hp
    rw [starEach_plain hp.1] at h ⊢
    exact Calls.evalArgs_plain h
theorem callWith_all {w : World} {c : Cx} {sc d} (ok : c.Ok w sc d) {m n} {pos : Pos} {f : Value} {first : List Value} {es : List Expr} {P : Value → Vars → ALed → Prop} (hf : mayCall w f = true) (hp : es.all plainE = true)
    (h : Tr w c m n (spliced (backTo pos (starEach es c.env))) fun vs m' n' => Tr w c m' n' (call f (first ++ vs)) P) : Tr w c m n (callWith pos f first (backTo pos (starEach es c.env)) []) P := fun s Q E F q => by
  have hs := star_any hp pos c.env
  have go : wpAny (model PR w) c.A (evalArgs f true (backTo pos (starEach es c.env)) []) (fun a s₁ => (Mine.hd.heap_39 w.params).In s₁.heap ∧ wpAny (model PR w) c.A (call f (first ++ a.pos) a.kw) Q E s₁) E s := by
    refine evalArgs_all hp (h s _ E F fun vs m1 n1 h1 tk1 k F1 => ⟨?_, k _ Q E F1 fun v m2 n2 h2 tk2 p F2 => q v m2 n2 h2 tk2 p F2⟩)
    obtain ⟨_, _, F', _⟩ := F1
    exact ok.inK.keeps F'.keep
  have no : ((backTo pos (starEach es c.env)).any (·.1) || ([] : List (Option Str × Sem Value)).any (·.1.isNone)) = false := by rw [hs]; rfl
  cases f with
  | builtin id => exact Calls.callWith_builtin hs (wpAny_mono go (fun _ _ x => x.2) fun _ _ x => x)
  | type T => exact PyProof.Rows.callWith_type hs (wpAny_mono go (fun _ _ x => x.2) fun _ _ x => x)
  | _ => exact callWith_of no (keeps_K hf) go
/-- no attribute: a plain call -/
noncomputable def plainC (e : Expr) : Bool := !(Nat.beq e.ctorIdx 20)
theorem Has.append {as bs : List AV} {us vs : List Value} (h : Has as us) (k : Has bs vs) : Has (as ++ bs) (us ++ vs) := by
  induction h with
  | nil => exact k
  | cons h _ ih => exact .cons h ih
/-- arguments are evaluated, then the call is made -/
theorem callEnd {w : World} {sc : Scope} {d : Nat} {m : Vars} {n : ALed} {c : Cx} (ok : c.Ok w sc d) (fa : List AV) {f : Value} {first : List Value} {es : List Expr} {pos : Pos} (hf : Has fa first) (hc : mayCall w f = true) (hp : es.all plainE = true)
    (h : EvKs ⟨w, sc, d, m, n⟩ es fun as n1 => CallK w d n1 f (fa ++ as) P) {s : Shared} {Q : Value → Shared → Prop} {E : Value → Shared → Prop} (F : Frm w c m n s)
    (q : ∀ v m' n' h' tk', (m' = m ∧ ∃ a : AV, a.has v ∧ P a n') → Frm w c m' n' { s with heap := h', toks := tk' } → Q v { s with heap := h', toks := tk' }) : wpAny (model PR w) c.A (callWith pos f first (backTo pos (starEach es c.env)) []) Q E s :=
  callWith_all (P := fun v m' n' => m' = m ∧ ∃ a : AV, a.has v ∧ P a n') ok hc hp (fun s Q E F q => h.run ok F fun vs n2 h2 tk2 as has k F2 => q vs m n2 h2 tk2 (fun s Q E F q => k.run ok (hf.append has) F fun v n3 h3 tk3 a ha hp F3 => q v m n3 h3 tk3 (evOut ha hp) F3) F2) _ Q E F q
theorem EvK.call {fe es pos fv} (hf : Ev S fe (.v fv)) (hc : mayCall S.w fv = true) (hp : es.all plainE = true) (hq : plainC fe = true) (h : EvKs S es fun as n1 => CallK S.w S.d n1 fv as P) : EvK S (.Call fe es [] pos) P := fun c ok s Q E F q =>
  Call_ (hf.runV ok F fun h1 tk1 F1 => callEnd ok [] .nil hc hp h F1 q) (by cases fe <;> first | rfl | cases hq)
theorem Ev.call {fe es pos fv as a} (hf : Ev S fe (.v fv)) (hc : mayCall S.w fv = true) (hp : es.all plainE = true) (hq : plainC fe = true) (hs : Evs S es as) (h : CallK S.w S.d S.n fv as fun b n' => b = a ∧ n' = S.n) : Ev S (.Call fe es [] pos) a :=
  EvK.call hf hc hp hq (EvKs.of hs h)
theorem CallK.le {w d e n fv as} {R : AV → ALed → Prop} (h : CallK w e n fv as R) (k : Nat.ble e d = true) : CallK w d n fv as R := fun c sc ok => h c sc (ok.mono (Nat.le_of_ble_eq_true k))
theorem Has.one {a : AV} {us : List Value} (h : Has [a] us) : ∃ u, us = [u] ∧ a.has u := by
  cases h with | cons h1 h => cases h; exact ⟨_, rfl, h1⟩
theorem Has.two {x y : AV} {us : List Value} (h : Has [x, y] us) : ∃ u v, us = [u, v] ∧ x.has u ∧ y.has v := by
  cases h with | cons h1 h => obtain ⟨v, rfl, h2⟩ := h.one; exact ⟨_, v, rfl, h1, h2⟩
/-- what a call may lean on -/
noncomputable abbrev CallQ (w : World) (c : Cx) (m : Vars) (s : Shared) (Q : Value → Shared → Prop) (R : AV → ALed → Prop) : Prop :=
  ∀ v n1 h1 tk1 (a : AV), a.has v → R a n1 → Frm w c m n1 { s with heap := h1, toks := tk1 } → Q v { s with heap := h1, toks := tk1 }
theorem CallK.mk1 {w d n fv a} {R : AV → ALed → Prop} (h : ∀ (c : Cx) (sc : Scope), c.Ok w sc d → ∀ m v, a.has v → ∀ (s : Shared) (Q : Value → Shared → Prop) (E : Value → Shared → Prop), Frm w c m n s → CallQ w c m s Q R → wpAny (model PR w) c.A (call fv [v]) Q E s) : CallK w d n fv [a] R := fun c sc ok m vs hv s Q E F q => by
  obtain ⟨v, rfl, h1⟩ := hv.one
  exact h c sc ok m v h1 s Q E F fun v n1 h1 tk1 a ha hR F1 => q v m n1 h1 tk1 (evOut ha hR) F1
theorem CallK.mkV {w d n fv u} {R : AV → ALed → Prop} (h : ∀ (c : Cx) (sc : Scope), c.Ok w sc d → ∀ m (s : Shared) (Q : Value → Shared → Prop) (E : Value → Shared → Prop), Frm w c m n s → CallQ w c m s Q R → wpAny (model PR w) c.A (call fv [u]) Q E s) : CallK w d n fv [.v u] R :=
  CallK.mk1 fun c sc ok m v hv => (show v = u from hv) ▸ h c sc ok m
theorem CallK.mk2 {w d n fv a b} {R : AV → ALed → Prop} (h : ∀ (c : Cx) (sc : Scope), c.Ok w sc d → ∀ m va vb, a.has va → b.has vb → ∀ (s : Shared) (Q : Value → Shared → Prop) (E : Value → Shared → Prop), Frm w c m n s → CallQ w c m s Q R → wpAny (model PR w) c.A (call fv [va, vb]) Q E s) : CallK w d n fv [a, b] R := fun c sc ok m vs hv s Q E F q => by
  obtain ⟨u, v, rfl, h1, h2⟩ := hv.two
  exact h c sc ok m u v h1 h2 s Q E F fun v n1 h1 tk1 a ha hR F1 => q v m n1 h1 tk1 (evOut ha hR) F1
end

/-- m0 is m without some facts: those on x are among them -/
inductive Pick (x : Str) : Vars → Vars → Prop
  | nil : Pick x [] []
  | here {a r} : Pick x ((x, a) :: r) r
  | skip {p r r'} : Pick x r r' → Pick x (p :: r) (p :: r')
theorem Pick.sub {x : Str} {m m0 : Vars} (h : Pick x m m0) : ∀ p ∈ m0, p ∈ m := by
  induction h with
  | nil => exact fun _ h => h
  | here => exact fun _ h => .tail _ h
  | skip _ ih => exact fun p h => (List.mem_cons.mp h).elim (fun e => by rw [e]; exact .head _) fun h => .tail _ (ih p h)
theorem Frm.store {w : World} {c : Cx} {m m0 : Vars} {n : ALed} {s : Shared} {x : Str} {a : AV} {v : Value} {mv : Str → Option Value} {l : Led} {h' : Heap} (ha : a.has v) (hp : Pick x m m0) (hk : keyOut x m0 = true)
    (V : VarsAt m (c.lv mv)) (R : Real w.params n l) (D : ((l ++ c.hid).map (·.1)).Nodup) (F' : Fr c.h₀ c.L h' (fun y => if y = x then some v else mv y)) (N' : News c.h₀ c.L h' (l ++ c.hid))
    (hput : c.lv (fun y => if y = x then some v else mv y) = fun y => if y = x then some v else c.lv mv y) (tk : Nat) : Frm w c ((x, a) :: m0) n { s with heap := h', toks := tk } := by
  refine ⟨_, l, F', ?_, N', R, D⟩
  rw [hput]
  intro p hp'
  rcases List.mem_cons.mp hp' with rfl | hp'
  · exact ⟨v, if_pos rfl, ha⟩
  · obtain ⟨u, hu, k⟩ := V p (hp.sub p hp')
    exact ⟨u, by show (if p.1 = x then some v else c.lv mv p.1) = some u; rw [if_neg (keyOut_of hk p hp')]; exact hu, k⟩
theorem Tr.store {w : World} {c : Cx} {sc d} (ok : c.OkM w sc d) {m m0 : Vars} {n : ALed} {x : Str} {a : AV} {v : Value} {P : Unit → Vars → ALed → Prop} (ha : a.has v) (hp : Pick x m m0) (hk : keyOut x m0 = true) (k : kindIs sc x .local = true) (h : P () ((x, a) :: m0) n) :
    Tr w c m n (storeName c.env x v) P := fun s Q E F q => by
  obtain ⟨mv, l, F', V, N, R, D⟩ := F
  rw [ok.main]
  exact storeX_L F' N (fun h' F2 N2 => q () _ n h' (s.toks + 1) h (Frm.store ha hp hk V R D F2 N2 (ok.put _ _ _ k) _)) ok.ok.fkind (by have := ok.ok.kdOf k; rw [ok.main] at this; exact this)
noncomputable def noComp (e : Expr) : Bool := !(Nat.beq e.ctorIdx 8 || Nat.beq e.ctorIdx 9 || Nat.beq e.ctorIdx 10)
theorem noSwap {e : Expr} (h : noComp e = true) (t : Option Expr) (l : Nat) (env : Env) : swapsWith e t l env = pure false := by
  cases e <;> first | rfl | cases h

/-- what is left to be run -/
noncomputable def Cont (w : World) (c : Cx) : List (List Stmt) → (Flow → Vars → ALed → Prop) → Flow → Vars → ALed → Prop
  | [], R, f, m, n => R f m n
  | b :: bs, R, f, m, n => match f with
    | .next => Tr w c m n (execs b c.env) (Cont w c bs R)
    | f => R f m n
/-- the blocks bs, one behind the other, end in R -/
noncomputable def Ws (S : St) (bs : List (List Stmt)) (R : Flow → Vars → ALed → Prop) : Prop := ∀ c : Cx, c.OkM S.w S.sc S.d → Cont S.w c bs R .next S.m S.n
theorem Cont.off {w c} {bs : List (List Stmt)} {R : Flow → Vars → ALed → Prop} {f : Flow} {m n} (h : f ≠ .next) (k : R f m n) : Cont w c bs R f m n := by
  cases bs with
  | nil => exact k
  | cons b bs => cases f <;> first | exact absurd rfl h | exact k
theorem Cont.off' {w c} {bs : List (List Stmt)} {R : Flow → Vars → ALed → Prop} {f : Flow} {m n} (h : f ≠ .next) (k : Cont w c bs R f m n) : R f m n := by
  cases bs with
  | nil => exact k
  | cons b bs => cases f <;> first | exact absurd rfl h | exact k
section
variable {w : World} {sc : Scope} {d : Nat} {m : Vars} {n : ALed} {R : Flow → Vars → ALed → Prop} {rest : List Stmt} {bs : List (List Stmt)}
theorem Ws.cons {st} (h : ∀ c : Cx, c.OkM w sc d → Tr w c m n (exec st c.env) (Cont w c (rest :: bs) R)) : Ws ⟨w, sc, d, m, n⟩ ((st :: rest) :: bs) R := fun c ok s Q E F q =>
  wpAny_execs_cons (h c ok s _ E F fun f m1 n1 h1 tk1 k F1 => by
    cases f with
    | next => exact k _ Q E F1 fun f m2 n2 h2 tk2 p F2 => q f m2 n2 h2 tk2 p F2
    | _ => exact q _ m1 n1 h1 tk1 (Cont.off (fun e => nomatch e) k) F1)
theorem Ws.pop (h : Ws ⟨w, sc, d, m, n⟩ bs R) : Ws ⟨w, sc, d, m, n⟩ ([] :: bs) R := fun c ok s Q E F q => wpAny_execs_nil (q .next m n s.heap s.toks (h c ok) F)
theorem Ws.done (h : R .next m n) : Ws ⟨w, sc, d, m, n⟩ [] R := fun c ok => h
theorem Ws.mono {R'} (h : Ws ⟨w, sc, d, m, n⟩ bs R) (k : ∀ f m n, R f m n → R' f m n) : Ws ⟨w, sc, d, m, n⟩ bs R' := fun c ok => by
  have : ∀ (bs : List (List Stmt)) f m n, Cont w c bs R f m n → Cont w c bs R' f m n := by
    intro bs
    induction bs with
    | nil => exact fun f m n h => k f m n h
    | cons b bs ih =>
      intro f m n h
      cases f with
      | next => exact Tr.mono h fun f m n h => ih f m n h
      | _ => exact k _ _ _ h
  exact this bs _ _ _ (h c ok)
theorem Ws.weak {m' n'} (hm : ∀ p ∈ m', p ∈ m) (hs : n'.Sublist n) (h : Ws ⟨w, sc, d, m', n'⟩ (rest :: bs) R) : Ws ⟨w, sc, d, m, n⟩ (rest :: bs) R := fun c ok =>
  Tr.weak (fun _ F => F.sub hm hs) (h c ok)
theorem Ws.ite {t a b pos v} (h : Tst ⟨w, sc, d, m, n⟩ t v) (h1 : v = true → Ws ⟨w, sc, d, m, n⟩ (a :: rest :: bs) R) (h2 : v = false → Ws ⟨w, sc, d, m, n⟩ (b :: rest :: bs) R) : Ws ⟨w, sc, d, m, n⟩ ((.If t a b pos :: rest) :: bs) R := Ws.cons fun c ok s Q E F q =>
  wpAny_If (h.run ok.ok F fun h1' tk1 F1 => by
    cases v with
    | true => exact h1 rfl c ok _ Q E F1 q
    | false => exact h2 rfl c ok _ Q E F1 q)
theorem Ws.assign {x xp value pos m0} (h : EvK ⟨w, sc, d, m, n⟩ value fun a n1 => Ws ⟨w, sc, d, (x, a) :: m0, n1⟩ (rest :: bs) R) (hp : Pick x m m0) (hk : keyOut x m0 = true) (k : kindIs sc x .local = true) (hn : noComp value = true) :
    Ws ⟨w, sc, d, m, n⟩ ((.Assign [.Name x xp] value pos :: rest) :: bs) R := Ws.cons fun c ok s Q E F q =>
  wpAny_Assign_Name (h.run ok.ok F fun v n1 h1 tk1 a ha hb F1 => Tr.store (P := fun _ m' n' => Cont w c (rest :: bs) R .next m' n') ok ha hp hk k (hb c ok) _ _ E F1 fun _ m2 n2 h2 tk2 p F2 => q .next m2 n2 h2 tk2 p F2) (noSwap hn _ _ _)
theorem Ws.ret {e pos} (h : EvK ⟨w, sc, d, m, n⟩ e fun a n1 => ∀ v, a.has v → R (.ret v) m n1) : Ws ⟨w, sc, d, m, n⟩ ((.Return (some e) pos :: rest) :: bs) R := Ws.cons fun c ok s Q E F q =>
  wpAny_Return_some (h.run ok.ok F fun v n1 h1 tk1 a ha h F1 => q (.ret v) m n1 h1 tk1 (h v ha) F1)
theorem Ws.retP {P : AV → ALed → Prop} {e pos} (h : EvK ⟨w, sc, d, m, n⟩ e P) : Ws ⟨w, sc, d, m, n⟩ ((.Return (some e) pos :: rest) :: bs) (RetP P) := Ws.ret (h.mono fun a n' p v hv => ⟨a, hv, p⟩)
theorem Ws.retN {pos} (h : R (.ret .none) m n) : Ws ⟨w, sc, d, m, n⟩ ((.Return none pos :: rest) :: bs) R := Ws.cons fun c ok s Q E F q =>
  wpAny_Return_none (q (.ret .none) m n s.heap s.toks h F)
theorem notModule {c : Cx} {w sc d} (ok : c.Ok w sc d) : interactive c.env = false := by
  show (c.env.scope.kind == .module && _) = false
  rw [ok.kd]; rfl
theorem Ws.expr {e pos} (h : EvK ⟨w, sc, d, m, n⟩ e fun _ n1 => Ws ⟨w, sc, d, m, n1⟩ (rest :: bs) R) (hn : noComp e = true) : Ws ⟨w, sc, d, m, n⟩ ((.Expr e pos :: rest) :: bs) R := Ws.cons fun c ok s Q E F q =>
  wpAny_Expr_any (h.run ok.ok F fun v n1 h1 tk1 a ha hb F1 => q .next _ n1 h1 tk1 (hb c ok) F1) (notModule ok.ok) (noSwap hn _ _ _)
theorem Ws.cont {pos} (h : R .cont m n) : Ws ⟨w, sc, d, m, n⟩ ((.Continue pos :: rest) :: bs) R := Ws.cons fun c ok s Q E F q => wpAny_Continue (q .cont m n s.heap s.toks h F)
theorem Ws.aug {x xp op e pos a m0} (hx : (x, a) ∈ m) (h : EvK ⟨w, sc, d, m, n⟩ e fun b n1 => Op2 w n1 (inplaceOp op) a b fun r n2 => Ws ⟨w, sc, d, (x, r) :: m0, n2⟩ (rest :: bs) R) (hp : Pick x m m0) (hk : keyOut x m0 = true) (k : kindIs sc x .local = true) :
    Ws ⟨w, sc, d, m, n⟩ ((.AugAssign (.Name x xp) op e pos :: rest) :: bs) R := Ws.cons fun c ok s Q E F q => by
  have hh := F.hidden
  obtain ⟨mv, l, F', V, r⟩ := F
  obtain ⟨v, hv, ha⟩ := V _ hx
  obtain ⟨mm, hn, hm⟩ := ok.ok.loc s.heap mv x v F' hh k hv
  refine wpAny_AugAssign_Name (wpAny_loadName_local ok.ok.kd (ok.ok.kdOf k) hn hm ?_)
  exact h.run ok.ok ⟨mv, l, F', V, r⟩ fun u n1 h1 tk1 b hb h2 F1 => h2.run ok.ok ha hb F1 fun y n2 h2 tk2 r hr h3 F2 =>
    Tr.store (P := fun _ m' n' => Cont w c (rest :: bs) R .next m' n') ok hr hp hk k (h3 c ok) _ _ E F2 fun _ m3 n3 h3 tk3 p F3 => q .next m3 n3 h3 tk3 p F3
end

/-! a def is entered -/
inductive HasB : Vars → List (Str × Value) → Prop
  | nil : HasB [] []
  | cons {x a v ps bs} : a.has v → HasB ps bs → HasB ((x, a) :: ps) ((x, v) :: bs)
theorem HasB.at {ps : Vars} {bs : List (Str × Value)} (h : HasB ps bs) (k : nodupK ps = true) : VarsAt ps (fun y => bs.lookup y) := by
  induction h with
  | nil => exact fun _ h => nomatch h
  | @cons x a v ps bs ha hb ih =>
    have k := Bool.and_eq_true_iff.mp k
    refine List.forall_mem_cons.mpr ⟨⟨v, by simp, ha⟩, fun p hp => (ih k.2 p hp).imp fun u h => ⟨?_, h.2⟩⟩
    have : (p.1 == x) = false := by simpa using keyOut_of k.1 p hp
    show List.lookup p.1 ((x, v) :: bs) = some u
    rw [List.lookup_cons, this]
    exact h.1
theorem HasB.keys {ps : Vars} {bs : List (Str × Value)} (h : HasB ps bs) : bs.map (·.1) = ps.map (·.1) := by
  induction h with
  | nil => rfl
  | cons _ _ ih => exact congrArg (_ :: ·) ih
noncomputable def allLoc (sc : Scope) : Vars → Bool
  | [] => true
  | p :: r => kindIs sc p.1 .local && allLoc sc r
theorem allLoc_of {sc : Scope} {ps : Vars} {bs : List (Str × Value)} (h : HasB ps bs) (k : allLoc sc ps = true) : ∀ y ∈ bs, sc.names.lookup y.1 = some .local := by
  induction h with
  | nil => exact fun _ h => nomatch h
  | cons ha hb ih =>
    have k := Bool.and_eq_true_iff.mp k
    exact List.forall_mem_cons.mpr ⟨(kindIs_of k.1).1, ih k.2⟩
noncomputable def noCell (sc : Scope) : Bool := sc.names.all fun x => x.2 != .cell
theorem noCell_of {sc : Scope} {x : Str} (h : noCell sc = true) : ¬ sc.names.lookup x = some .cell := by
  unfold noCell at h
  rw [List.all_eq_true] at h
  revert h
  generalize sc.names = l
  intro h e
  induction l with
  | nil => cases e
  | cons p r ih =>
    rw [List.lookup_cons] at e
    split at e
    · have e' := Option.some.inj e; have := h _ (.head _); rw [e'] at this; simp at this
    · exact ih (fun q hq => h q (.tail _ hq)) e
noncomputable def goodSc (sc : Scope) : Bool := !sc.isCoroutine && !sc.isGenerator && sc.kind == .function && noCell sc
/-- a def whose parameters are ps, the last one first; d frames below it -/
theorem CallK.fn {w : World} {f : Addr} {d : Nat} {as : List AV} {n : ALed} {P : AV → ALed → Prop} (ps : Vars)
    {name qual : Str} {params : Arguments} {body : List Stmt} {scope : Scope} {dV kV doc pm cdv ct oc : Value} {an od : Option Addr} {osl : Array (Option Value)}
    (ho : (Mine.hd.heap_39 w.params).lookup f = some ⟨oc, od, .func (fnOf name qual params body scope dV kV doc pm an cdv ct), osl⟩) (hcd : codeIn (Mine.hd.heap_39 w.params) cdv qual = true)
    (hbind : ∀ s vs, (Mine.hd.heap_39 w.params).In s.heap → Has as vs → ∃ bs, HasB ps bs ∧ BindsTo s (fnOf name qual params body scope dV kV doc pm an cdv ct) ⟨vs, []⟩ bs.reverse)
    (hsc : (goodSc scope && allLoc scope ps && nodupK ps) = true)
    (h : Ws ⟨w, scope, d, ps, n⟩ [body] (RetP P)) : CallK w (d + 1) n (.ref f) as P := fun c sc ok m vs hv s Q E F q => by
  obtain ⟨hsc, hnd⟩ := Bool.and_eq_true_iff.mp hsc
  obtain ⟨hsc, hloc⟩ := Bool.and_eq_true_iff.mp hsc
  obtain ⟨hsc, hcell⟩ := Bool.and_eq_true_iff.mp hsc
  obtain ⟨hsc, hks⟩ := Bool.and_eq_true_iff.mp hsc
  obtain ⟨hco, hgen⟩ := Bool.and_eq_true_iff.mp hsc
  obtain ⟨mv, l, F', V, N, Rl, D⟩ := F
  obtain ⟨bs, hb, hbd⟩ := hbind s vs (ok.inK.keeps F'.keep) hv
  have hks' : scope.kind = .function := beq_iff_eq.mp hks
  refine wpAny_call ?_
  have hd1 := ok.dp
  have hd2 := ok.un
  refine code_def ok.below F' ok.inK N ok.top rfl rfl ok.fkind ho hcd (by show c.dp < _; (first | lia | omega)) hbd (fun y hy => allLoc_of hb hloc y (List.mem_reverse.mp hy)) (fun g L' h₁ a1 a2 a3 a4 a5 a6 => ?_) (by simpa using hco) (by simpa using hgen) hks' (fun x hx => by simpa using List.all_eq_true.mp hcell x hx)
  rw [List.reverse_reverse] at a2
  let c' : Cx := ⟨c.mean, c.mg, c.mb, c.dp + 1, c.un + 3, c.gd, qual, scope, L', f, cdv, [], c.fenv :: c.outer, c.A, c.base, g, envX qual scope L' f cdv [], c.hid, fun m => m⟩
  have ok' : c'.OkM w scope d := ⟨⟨a4, a5, a6, hks', rfl, hks', rfl, rfl, fun h mv x v F _ _ e => ⟨mv, F.ns, e⟩, fun h mv x v _ _ k _ => absurd (kindIs_of k).1 (noCell_of hcell), by show c.dp + 1 + d < _; (first | lia | omega), by show c.un + 3 + 8 * d + 2 < _; (first | lia | omega)⟩, rfl, fun _ _ _ _ => rfl⟩
  have hA : c.A.deeper (envOf qual scope L' f cdv) = c'.A := rfl
  rw [hA]
  refine h c' ok' _ _ _ ⟨_, l, a2, hb.at hnd, a3, Rl, D⟩ fun fl m1 n1 h1 tk1 hf F1 => ?_
  have fin : ∀ (v : Value) (a : AV), a.has v → P a n1 → LeaveK c.h₀ c.L mv g (fun r s' => match r with | .ok (.ret v) => Q v s' | .ok _ => False | .error e => E e s') v { s with heap := h1, toks := tk1 } := by
    intro v a ha hP
    obtain ⟨mv1, l1, G1, _, N1, R1, D1⟩ := F1
    exact ⟨L', mv1, l1 ++ c.hid, G1, N1, fun FF NN => q _ m n1 h1 tk1 ⟨rfl, a, ha, hP⟩ ⟨mv, l1, FF, V, NN, R1, D1⟩⟩
  cases fl with
  | ret v => obtain ⟨a, ha, hP⟩ := hf; exact fin v a ha hP
  | next => exact fin .none .none rfl hf
  | _ => exact hf.elim

section
variable {w : World} {n : ALed}
theorem Op.ints {f : Value → Value → Sem Value} {a b r : Int} (h : ∀ {A : Around} {E : Value → Shared → Prop} {t u : Tok} {Q : Value → Shared → Prop} {h : Heap} {g : Array GenState} {d : Drawn} {tk : Nat} {os : OsState}, (∀ t' k, Q (.int r t') ⟨h, g, d, k, os⟩) → wpAny (model PR w) A (f (.int a t) (.int b u)) Q E ⟨h, g, d, tk, os⟩) : Op w n f (.int a) (.int b) (.int r) :=
  fun c sc ok m va vb ⟨t, e1⟩ ⟨u, e2⟩ s Q E F q => by subst e1 e2; exact h fun t' k => q (.int r t') m n s.heap k ⟨rfl, .int r, ⟨_, rfl⟩, rfl, rfl⟩ F
theorem Op.test {f : Value → Value → Sem Value} {a b : Int} {r : Bool} (h : ∀ {A : Around} {E : Value → Shared → Prop} {t u : Tok} {Q : Value → Shared → Prop} {s : Shared}, Q (.bool r) s → wpAny (model PR w) A (f (.int a t) (.int b u)) Q E s) : Op w n f (.int a) (.int b) (.bool r) :=
  fun c sc ok m va vb ⟨t, e1⟩ ⟨u, e2⟩ s Q E F q => by subst e1 e2; exact h (q (.bool r) m n s.heap s.toks ⟨rfl, .bool r, rfl, rfl, rfl⟩ F)
variable {a b : Int}
theorem bitAnd_nat {a b : Int} (h : 0 ≤ a) (k : 0 ≤ b) : Builtin.bitAnd a b = ((a.toNat &&& b.toNat : Nat) : Int) := by
  unfold Builtin.bitAnd; simp [h, k]
theorem bitOr_nat {a b : Int} (h : 0 ≤ a) (k : 0 ≤ b) : Builtin.bitOr a b = ((a.toNat ||| b.toNat : Nat) : Int) := by
  have e : ∀ x : Int, Builtin.bitNot x = -1 - x := by intro x; unfold Builtin.bitNot; (first | lia | omega)
  have h1 : ¬ 0 ≤ Builtin.bitNot a := by rw [e]; (first | lia | omega)
  have k1 : ¬ 0 ≤ Builtin.bitNot b := by rw [e]; (first | lia | omega)
  have e2 : ∀ x : Int, Builtin.bitNot (Builtin.bitNot x) = x := by intro x; rw [e, e]; (first | lia | omega)
  unfold Builtin.bitOr Builtin.bitAnd
  simp only [h1, k1, decide_false, e2]
theorem and_mask {a b c : Int} (k : Nat) (h : 0 ≤ a) (hb : b = 2 ^ k - 1) (hd : c = 2 ^ k) : Builtin.bitAnd a b = a % c := by
  have hp : 0 < (2 : Nat) ^ k := Nat.two_pow_pos k
  have hc : ((2 ^ k : Nat) : Int) = 2 ^ k := by norm_cast
  rw [hb, hd, bitAnd_nat h (by (first | lia | omega))]
  have e : (2 ^ k - 1 : Int).toNat = 2 ^ k - 1 := by (first | lia | omega)
  rw [e, Nat.and_two_pow_sub_one_eq_mod]
  rw [Int.natCast_emod, hc]
  congr 1; (first | lia | omega)
theorem nat_and_bit (x k : Nat) : x &&& 2 ^ k = x / 2 ^ k % 2 * 2 ^ k := by
  apply Nat.eq_of_testBit_eq
  intro i
  rw [Nat.testBit_and, Nat.testBit_two_pow]
  have e : x.testBit k = decide (x / 2 ^ k % 2 = 1) := by
    rw [Nat.testBit_eq_decide_div_mod_eq]
  rcases Nat.mod_two_eq_zero_or_one (x / 2 ^ k) with h | h
  · rw [h, Nat.zero_mul, Nat.zero_testBit]
    by_cases hk : k = i
    · subst hk; rw [e, h]; simp
    · simp [hk]
  · rw [h, Nat.one_mul, Nat.testBit_two_pow]
    by_cases hk : k = i
    · subst hk; rw [e, h]; simp
    · simp [hk]
theorem and_bit {a b c : Int} (k : Nat) (h : 0 ≤ a) (hb : b = 2 ^ k) (hd : c = 2 ^ k) : Builtin.bitAnd a b = a / c % 2 * c := by
  have hp : 0 < (2 : Nat) ^ k := Nat.two_pow_pos k
  have hc : ((2 ^ k : Nat) : Int) = 2 ^ k := by norm_cast
  rw [hb, hd, bitAnd_nat h (by (first | lia | omega))]
  have e : (2 ^ k : Int).toNat = 2 ^ k := by (first | lia | omega)
  rw [e, nat_and_bit]
  rw [Int.natCast_mul, Int.natCast_emod, Int.natCast_ediv, hc]
  have e2 : (a.toNat : Int) = a := by (first | lia | omega)
  rw [e2]; rfl
theorem or_low {a b : Int} (k : Nat) (h : 0 ≤ a) (h1 : 0 ≤ b) (h2 : b < 2 ^ k) : Builtin.bitOr (a * 2 ^ k) b = a * 2 ^ k + b := by
  have hp : 0 < (2 : Nat) ^ k := Nat.two_pow_pos k
  have hc : ((2 ^ k : Nat) : Int) = 2 ^ k := by norm_cast
  rw [bitOr_nat (Int.mul_nonneg h (by (first | lia | omega))) h1]
  have e : (a * 2 ^ k).toNat = a.toNat <<< k := by
    rw [Nat.shiftLeft_eq, ← hc]
    have : a = (a.toNat : Int) := by (first | lia | omega)
    rw [this, ← Int.natCast_mul]; rfl
  rw [e, ← Nat.shiftLeft_add_eq_or_of_lt (by (first | lia | omega)), Nat.shiftLeft_eq]
  rw [Int.natCast_add, Int.natCast_mul, hc]
  congr 1
  · congr 1; (first | lia | omega)
  · (first | lia | omega)
theorem Op.and255 (h : 0 ≤ a) : Op w n (binaryOp .BitAnd) (.int a) (.int 255) (.int (a % 256)) := Op.ints fun q => and_int (by rw [and_mask (b := 255) (c := 256) 8 h (by decide) (by decide)]; exact q _ _)
theorem Op.and65535 (h : 0 ≤ a) : Op w n (binaryOp .BitAnd) (.int a) (.int 65535) (.int (a % 65536)) := Op.ints fun q => and_int (by rw [and_mask (b := 65535) (c := 65536) 16 h (by decide) (by decide)]; exact q _ _)
theorem Op.and8191 (h : 0 ≤ a) : Op w n (binaryOp .BitAnd) (.int a) (.int 8191) (.int (a % 8192)) := Op.ints fun q => and_int (by rw [and_mask (b := 8191) (c := 8192) 13 h (by decide) (by decide)]; exact q _ _)
theorem Op.and16384 (h : 0 ≤ a) : Op w n (binaryOp .BitAnd) (.int a) (.int 16384) (.int (a / 16384 % 2 * 16384)) := Op.ints fun q => and_int (by rw [and_bit (b := 16384) (c := 16384) 14 h (by decide) (by decide)]; exact q _ _)
theorem Op.and8192 (h : 0 ≤ a) : Op w n (binaryOp .BitAnd) (.int a) (.int 8192) (.int (a / 8192 % 2 * 8192)) := Op.ints fun q => and_int (by rw [and_bit (b := 8192) (c := 8192) 13 h (by decide) (by decide)]; exact q _ _)
theorem Op.or8 (h : 0 ≤ a) (h1 : 0 ≤ b) (h2 : b < 256) : Op w n (binaryOp .BitOr) (.int (a * 256)) (.int b) (.int (a * 256 + b)) := Op.ints fun q => or_int (by rw [show a * 256 = a * 2 ^ 8 from rfl, or_low 8 h h1 h2]; exact q _ _)
theorem Op.or16 (h : 0 ≤ a) (h1 : 0 ≤ b) (h2 : b < 65536) : Op w n (binaryOp .BitOr) (.int (a * 65536)) (.int b) (.int (a * 65536 + b)) := Op.ints fun q => or_int (by rw [show a * 65536 = a * 2 ^ 16 from rfl, or_low 16 h h1 h2]; exact q _ _)
theorem Op.shr8 : Op w n (binaryOp .RShift) (.int a) (.int 8) (.int (a / 256)) := Op.ints fun q => rshift_int (by decide) (by rw [show (2 : Int) ^ (8 : Int).toNat = 256 from rfl, Int.fdiv_eq_ediv_of_nonneg _ (by decide)]; exact q _ _)
theorem Op.shr16 : Op w n (binaryOp .RShift) (.int a) (.int 16) (.int (a / 65536)) := Op.ints fun q => rshift_int (by decide) (by rw [show (2 : Int) ^ (16 : Int).toNat = 65536 from rfl, Int.fdiv_eq_ediv_of_nonneg _ (by decide)]; exact q _ _)
theorem Op.shl8 (h : 0 ≤ a) (h1 : a < 2 ^ 60) : Op w n (binaryOp .LShift) (.int a) (.int 8) (.int (a * 256)) := Op.ints fun q => lshift_int_small (by decide) (by decide) (by (first | lia | omega)) (q _ _)
theorem Op.shl16 (h : 0 ≤ a) (h1 : a < 2 ^ 60) : Op w n (binaryOp .LShift) (.int a) (.int 16) (.int (a * 65536)) := Op.ints fun q => lshift_int_small (by decide) (by decide) (by (first | lia | omega)) (q _ _)
theorem Op.div (h : 0 < b) (h1 : b < 2 ^ 62) : Op w n (binaryOp .FloorDiv) (.int a) (.int b) (.int (a / b)) := Op.ints fun q =>
  floordiv_int (by (first | lia | omega)) (by rw [Int.fdiv_eq_ediv_of_nonneg _ (by (first | lia | omega))]; exact q _ _) (Or.inl (PyProof.noPylong_of_log2 (by
    have : b.natAbs < 2 ^ 62 := by (first | lia | omega)
    have h3 := (Nat.log2_lt (n := b.natAbs) (k := 62) (by (first | lia | omega))).mpr this
    (first | lia | omega))))
theorem Op.mod (h : 0 < b) : Op w n (binaryOp .Mod) (.int a) (.int b) (.int (a % b)) := Op.ints fun q => mod_int' (by (first | lia | omega)) (by rw [Int.fmod_eq_emod_of_nonneg _ (by (first | lia | omega))]; exact q _ _)
theorem Op.add : Op w n (binaryOp .Add) (.int a) (.int b) (.int (a + b)) := Op.ints fun q => add_int (q _ _)
theorem Op.mul (ha : a.natAbs < 2 ^ 64) (hb : b.natAbs < 2 ^ 64) : Op w n (binaryOp .Mult) (.int a) (.int b) (.int (a * b)) := Op.ints fun q => mul_int (q _ _)
theorem Op.sub : Op w n (binaryOp .Sub) (.int a) (.int b) (.int (a - b)) := Op.ints fun q => sub_int (q _ _)
theorem Op.iadd : Op w n (inplaceOp .Add) (.int a) (.int b) (.int (a + b)) := Op.ints fun q => iadd_int (q _ _)
theorem Op.pow (h : 0 ≤ b) (h1 : b ≤ 1000000) (h2 : a.natAbs < 2 ^ 64) : Op w n (binaryOp .Pow) (.int a) (.int b) (.int (a ^ b.toNat)) := Op.ints fun q => pow_int_small h h1 h2 (q _ _)
theorem Op.lt : Op w n (compareOp .Lt) (.int a) (.int b) (.bool (decide (a < b))) := Op.test fun q => lt_int q
theorem Op.le : Op w n (compareOp .LtE) (.int a) (.int b) (.bool (decide (a ≤ b))) := Op.test fun q => le_int q
theorem Op.gt : Op w n (compareOp .Gt) (.int a) (.int b) (.bool (decide (b < a))) := Op.test fun q => gt_int q
theorem Op.ge : Op w n (compareOp .GtE) (.int a) (.int b) (.bool (decide (b ≤ a))) := Op.test fun q => ge_int q
theorem Op.eq : Op w n (compareOp .Eq) (.int a) (.int b) (.bool (decide (a = b))) := Op.test fun q => eq_int q
theorem Op.ne : Op w n (compareOp .NotEq) (.int a) (.int b) (.bool (a != b)) := Op.test fun q => ne_int q
end

/-- the octet at a place, as an int -/
noncomputable def oct (x : By) (i : Int) : Int := ((x.getD i.toNat 0).toNat : Int)
theorem oct_nonneg (x : By) (i : Int) : 0 ≤ oct x i := Int.natCast_nonneg _
theorem oct_lt (x : By) (i : Int) : oct x i < 256 := by
  have := (x.getD i.toNat 0).toNat_lt
  unfold oct; (first | lia | omega)
section
variable {prog : Program} {w : World} {A : Around} {E : Value → Shared → Prop} {t u : Tok} {Q : Value → Shared → Prop} {h : Heap} {g : Array GenState} {d : Drawn} {tk : Nat} {os : OsState}
theorem bytesEq_ {x y : By} (q : Q (.bool (decide (x = y))) ⟨h, g, d, tk, os⟩) : wpAny (model prog w) A (compareOp .Eq (.bytes x.toArray t) (.bytes y.toArray u)) Q E ⟨h, g, d, tk, os⟩ :=
  eq_bytes (by
    have e : (x.toArray.toList == y.toArray.toList) = decide (x = y) := by
      show (x == y) = _
      by_cases hxy : x = y
      · subst hxy; simp
      · rw [decide_eq_false hxy]; simpa using hxy
    rw [e]; exact q)
theorem bytesNe_ {x y : By} (q : Q (.bool (decide (x ≠ y))) ⟨h, g, d, tk, os⟩) : wpAny (model prog w) A (compareOp .NotEq (.bytes x.toArray t) (.bytes y.toArray u)) Q E ⟨h, g, d, tk, os⟩ :=
  ne_bytes (by
    have e : (x.toArray.toList != y.toArray.toList) = decide (x ≠ y) := by
      show (x != y) = _
      by_cases hxy : x = y
      · subst hxy; simp
      · rw [decide_eq_true (p := x ≠ y) hxy]; simpa using hxy
    rw [e]; exact q)
theorem picked_lo {x : By} {a : Int} (ha : 0 ≤ a) : KBy.picked x.toArray (some a) none = (x.drop a.toNat).toArray := by
  have ea : a = ((a.toNat : Nat) : Int) := by (first | lia | omega)
  rw [KBc.picked_eq]
  simp only [Option.elim, List.size_toArray]
  rw [ea, clipAt_nat]
  have e2 : ((a.toNat : Nat) : Int).toNat = a.toNat := by (first | lia | omega)
  rw [e2]
  congr 1
  rw [List.take_of_length_le (by simp [List.length_drop])]
  show List.drop (min a.toNat x.length) x = List.drop a.toNat x
  by_cases hl : a.toNat ≤ x.length
  · rw [Nat.min_eq_left hl]
  · rw [Nat.min_eq_right (by (first | lia | omega)), List.drop_of_length_le (Nat.le_refl _), List.drop_of_length_le (by (first | lia | omega))]
theorem picked_hi {x : By} {b : Int} (hb : 0 ≤ b) : KBy.picked x.toArray none (some b) = (x.take b.toNat).toArray := by
  have eb : b = ((b.toNat : Nat) : Int) := by (first | lia | omega)
  rw [KBc.picked_eq]
  simp only [Option.elim, List.size_toArray]
  rw [eb, clipAt_nat]
  have e2 : ((b.toNat : Nat) : Int).toNat = b.toNat := by (first | lia | omega)
  rw [e2]
  congr 1
  show List.take (min b.toNat x.length - 0) (List.drop 0 x) = List.take b.toNat x
  rw [List.drop_zero, Nat.sub_zero]
  by_cases hl : b.toNat ≤ x.length
  · rw [Nat.min_eq_left hl]
  · rw [Nat.min_eq_right (by (first | lia | omega)), List.take_of_length_le (Nat.le_refl _), List.take_of_length_le (by (first | lia | omega))]
theorem picked_both {x : By} {a b : Int} (ha : 0 ≤ a) (hb : 0 ≤ b) : KBy.picked x.toArray (some a) (some b) = ((x.drop a.toNat).take (b.toNat - a.toNat)).toArray := by
  have ea : a = ((a.toNat : Nat) : Int) := by (first | lia | omega)
  have eb : b = ((b.toNat : Nat) : Int) := by (first | lia | omega)
  rw [KBc.picked_eq]
  simp only [Option.elim, List.size_toArray]
  rw [ea, eb, clipAt_nat, clipAt_nat]
  have e2 : ((b.toNat : Nat) : Int).toNat = b.toNat := by (first | lia | omega)
  have e3 : ((a.toNat : Nat) : Int).toNat = a.toNat := by (first | lia | omega)
  rw [e2, e3]
  congr 1
  show List.take (min b.toNat x.length - min a.toNat x.length) (List.drop (min a.toNat x.length) x) = _
  apply List.ext_getElem?
  intro i
  simp only [List.getElem?_take, List.getElem?_drop]
  by_cases hl : a.toNat ≤ x.length
  · rw [Nat.min_eq_left hl]
    by_cases h1 : i < b.toNat - a.toNat
    · rw [if_pos h1]
      by_cases h2 : i < min b.toNat x.length - a.toNat
      · rw [if_pos h2]
      · rw [if_neg h2]; symm; exact List.getElem?_eq_none (by (first | lia | omega))
    · rw [if_neg h1, if_neg (by (first | lia | omega))]
  · have e4 : min a.toNat x.length = x.length := by (first | lia | omega)
    rw [e4, if_neg (by (first | lia | omega))]
    split
    · symm; exact List.getElem?_eq_none (by (first | lia | omega))
    · rfl
end
theorem by_bytes : typeLookup (.type "bytes") "__bytes__" = pure (some (.builtin "bytes.__bytes__")) := by rw [typeLookup_type, builtinLookup_eq_fast]; kernel_rfl
theorem int_no_bytes : typeLookup (.type "int") "__bytes__" = pure none := by rw [typeLookup_type, builtinLookup_eq_fast]; kernel_rfl
section
open PySem.Calls
variable {prog : Program} {w : World} {A : Around} {E : Value → Shared → Prop} {s : Shared} {t u : Tok} {Q : Value → Shared → Prop}
theorem newOfBytes {x : Array UInt8} (hq : Q (.bytes x t) s) :
    codeAny (model prog w) A (.call (.builtin "bytes.__new__") ⟨[.type "bytes", .bytes x t], []⟩) (wants Q E) s := by
  refine codeAny_of_tree ?_
  show wpAny _ A.in1 (do checkBuiltinCall "bytes.__new__" ⟨[.type "bytes", .bytes x t], []⟩; again (.builtin "bytes.__new__" ⟨[.type "bytes", .bytes x t], []⟩)) _ _ s
  refine wpAny_bind (wpAny_of_eq (F.bm_newCall _) (wpAny_pure ⟨plainId_quiet F.bm_plain _, codeAny_builtin F.bm_entry ?_⟩))
  rw [Around.under_plainId F.bm_plain _]
  unfold Builtin.«bytes.__new__»
  refine wpAny_bind (wpAny_of_eq (a := true) rfl ?_)
  refine bm_if_false rfl ?_
  refine wpAny_bind (wpAny_of_eq F.bm_sub ?_)
  refine bm_if_false rfl ?_
  refine wpAny_bind (wpAny_of_eq (F.bm_bind _) ?_)
  refine wpAny_bind (wpAny_of_eq (a := ()) rfl ?_)
  refine wpAny_bind (wpAny_of_eq (a := ()) rfl ?_)
  refine bm_if_false rfl ?_
  refine wpAny_bind (wpAny_specialOf (PySem.W.typeIs_bytes _ _ _) by_bytes ?_)
  dsimp only
  refine wpAny_bind (wpAny_rule ?_)
  refine wpAny_bind (wpAny_typeOf (PySem.W.typeIs_bytes _ _ _) ?_)
  refine bm_if_true rfl ?_
  show wpAny _ _ (if (Value.type "bytes" == Value.type "bytes") = true then _ else _) _ _ s
  refine bm_if_true rfl ?_
  exact wpAny_pure hq
theorem bytesOfBytes_ {x : Array UInt8} (hq : Q (.bytes x t) s) : wpAny (model prog w) A (call (.type "bytes") [.bytes x t]) Q E s := by
  refine callType_codes (Q₁ := fun obj s₁ => s₁.TypeIs obj "bytes" ∧ Q obj s₁) F.bm_called (F.bm_typeCall _) F.entry_object_init
    (newOfBytes ⟨PySem.W.typeIs_bytes _ _ _, hq⟩) fun obj s₁ h₁ => ?_
  exact ⟨h₁.1, F.args_object_init_2 obj _, object_init_meets F.bm_called.init.lookup F.bm_called.made (by decide) prog w A.in1 _ s₁ ⟨h₁.1, rfl, h₁.2⟩⟩
theorem newOfInt {n : Int} (h0 : 0 ≤ n) (h1 : n ≤ 1000) (hq : ∀ t' k, Q (.bytes (Array.replicate n.toNat 0) t') { s with toks := k }) :
    codeAny (model prog w) A (.call (.builtin "bytes.__new__") ⟨[.type "bytes", .int n t], []⟩) (wants Q E) s := by
  refine codeAny_of_tree ?_
  show wpAny _ A.in1 (do checkBuiltinCall "bytes.__new__" ⟨[.type "bytes", .int n t], []⟩; again (.builtin "bytes.__new__" ⟨[.type "bytes", .int n t], []⟩)) _ _ s
  refine wpAny_bind (wpAny_of_eq (F.bm_newCall _) (wpAny_pure ⟨plainId_quiet F.bm_plain _, codeAny_builtin F.bm_entry ?_⟩))
  rw [Around.under_plainId F.bm_plain _]
  unfold Builtin.«bytes.__new__»
  refine wpAny_bind (wpAny_of_eq (a := true) rfl ?_)
  refine bm_if_false rfl ?_
  refine wpAny_bind (wpAny_of_eq F.bm_sub ?_)
  refine bm_if_false rfl ?_
  refine wpAny_bind (wpAny_of_eq (F.bm_bind _) ?_)
  refine wpAny_bind (wpAny_of_eq (a := ()) rfl ?_)
  refine wpAny_bind (wpAny_of_eq (a := ()) rfl ?_)
  refine bm_if_false rfl ?_
  refine wpAny_bind (wpAny_specialOf (T := "int") (typeIs_int _ _ _) int_no_bytes ?_)
  dsimp only
  refine wpAny_bind (wpAny_of_eq (a := false) rfl ?_)
  refine bm_if_false rfl ?_
  refine wpAny_bind (wpAny_specialOf (T := "int") (typeIs_int _ _ _) F.slot_int_index.lookup ?_)
  refine bm_if_false rfl ?_
  refine wpAny_bind (wpAny_attempt (wpAny_of_eq (a := n) rfl ?_))
  dsimp only
  have hf : Builtin.Bytes.fitsIndex n = true := by
    simp only [Builtin.Bytes.fitsIndex, Bool.and_eq_true, decide_eq_true_eq]; (first | lia | omega)
  refine bm_if_false (by rw [hf]; rfl) ?_
  have e1 : ¬ n < 0 := by (first | lia | omega)
  have e2 : ¬ n > 2 ^ 63 - 34 := by (first | lia | omega)
  show wpAny _ _ (if n < 0 then _ else _) _ _ s
  rw [if_neg e1]
  show wpAny _ _ (if n > 2 ^ 63 - 34 then _ else _) _ _ s
  rw [if_neg e2]
  refine bm_if_false (KBy.tooLong_not (by (first | lia | omega))) ?_
  refine wpAny_bind (wpAny_rule ?_)
  refine wpAny_bind (wpAny_mkBytes ?_ (by rw [Array.size_replicate, sizeLine_eq]; (first | lia | omega)))
  show wpAny _ _ (if (Value.type "bytes" == Value.type "bytes") = true then _ else _) _ _ _
  refine bm_if_true rfl ?_
  exact wpAny_pure (hq _ _)
theorem bytesOfInt_ {n : Int} (h0 : 0 ≤ n) (h1 : n ≤ 1000) (hq : ∀ t' k, Q (.bytes (List.replicate n.toNat 0).toArray t') { s with toks := k }) : wpAny (model prog w) A (call (.type "bytes") [.int n t]) Q E s := by
  refine callType_codes (Q₁ := fun obj s₁ => s₁.TypeIs obj "bytes" ∧ Q obj s₁) F.bm_called (F.bm_typeCall _) F.entry_object_init
    (newOfInt h0 h1 fun t' k => ⟨PySem.W.typeIs_bytes _ _ _, by have := hq t' k; rw [List.toArray_replicate] at this; exact this⟩) fun obj s₁ h₁ => ?_
  exact ⟨h₁.1, F.args_object_init_2 obj _, object_init_meets F.bm_called.init.lookup F.bm_called.made (by decide) prog w A.in1 _ s₁ ⟨h₁.1, rfl, h₁.2⟩⟩
end

theorem Has.length {as : List AV} {vs : List Value} (h : Has as vs) : vs.length = as.length := by
  induction h with
  | nil => rfl
  | cons _ _ ih => exact congrArg (· + 1) ih
/-- a new object on the ledger -/
theorem Frm.push {w : World} {c : Cx} {m : Vars} {n n' : ALed} {s : Shared} {o : Obj} (F : Frm w c m n s) (hf : o.isFreed = false)
    (hR : ∀ l, Real w.params n l → Real w.params n' ((s.heap.objs.size, o) :: l)) : Frm w c m n' { s with heap := s.heap.push o } := by
  obtain ⟨mv, l, F', V, N, R, D⟩ := F
  refine ⟨mv, _, F'.push o, V, News.push F' N o hf, hR l R, ?_⟩
  rw [List.cons_append, List.map_cons, List.nodup_cons]
  refine ⟨fun h => ?_, D⟩
  obtain ⟨p, hp, e⟩ := List.mem_map.mp h
  exact absurd (Heap.lt_size (N p hp).1) (e ▸ Nat.lt_irrefl _)
theorem sizeLine_ge {k : Nat} (h : Nat.ble k 100000 = true) : k ≤ sizeLine := by rw [sizeLine_eq]; exact Nat.le_trans (Nat.le_of_ble_eq_true h) (by decide)
section
variable {w : World} {sc : Scope} {d : Nat} {m : Vars} {n : ALed} {P : AV → ALed → Prop}
theorem EvK.tuple {es k pos} (h : EvKs ⟨w, sc, d, m, n⟩ es fun as n1 => Nat.ble as.length 100000 = true ∧ ∀ l, P (.ref l) ((l, .tup as) :: n1)) : EvK ⟨w, sc, d, m, n⟩ (.Tuple es k pos) P := fun c ok s Q E F q =>
  Tuple_ (h.run ok F fun vs n1 h1 tk1 as has hP F1 => wpAny_newObj_type (q (.ref h1.objs.size) m _ _ tk1 (evOut (a := .ref h1.objs.size) rfl (hP.2 h1.objs.size)) (F1.push rfl fun l R => .tup has R)) (by
    show vs.toArray.size ≤ sizeLine
    rw [List.size_toArray, has.length]; exact sizeLine_ge hP.1))
theorem EvK.list {es pos} (h : EvKs ⟨w, sc, d, m, n⟩ es fun as n1 => Nat.ble as.length 100000 = true ∧ ∀ l, P (.ref l) ((l, .lst as) :: n1)) : EvK ⟨w, sc, d, m, n⟩ (.List es pos) P := fun c ok s Q E F q =>
  List_ (h.run ok F fun vs n1 h1 tk1 as has hP F1 => wpAny_newObj_type (q (.ref h1.objs.size) m _ _ tk1 (evOut (a := .ref h1.objs.size) rfl (hP.2 h1.objs.size)) (F1.push rfl fun l R => .lst (k := 0) has R)) (by
    show vs.toArray.size ≤ sizeLine
    rw [List.size_toArray, has.length]; exact sizeLine_ge hP.1))
/-- the entry of a list -/
theorem Frm.lstAt {c : Cx} {s : Shared} {l : Addr} {as : List AV} (F : Frm w c m n s) (h : (l, .lst as) ∈ n) : ∃ us k, Has as us ∧ s.heap.get? l = some (listOf us.toArray k) := by
  obtain ⟨mv, ld, F', V, N, R, D⟩ := F
  obtain ⟨l1, own, l2, rfl, h1⟩ := R.at h
  obtain ⟨us, k, rfl, hu⟩ := h1.one
  exact ⟨us, k, hu, (N _ (List.mem_append_left _ (List.mem_append_right _ (List.mem_append_left _ (.head _))))).1⟩
theorem Frm.tupAt {c : Cx} {s : Shared} {l : Addr} {as : List AV} (F : Frm w c m n s) (h : (l, .tup as) ∈ n) : ∃ us, Has as us ∧ s.heap.get? l = some (tupObj us) := by
  obtain ⟨mv, ld, F', V, N, R, D⟩ := F
  obtain ⟨l1, own, l2, rfl, h1⟩ := R.at h
  obtain ⟨us, rfl, hu⟩ := h1.one
  exact ⟨us, hu, (N _ (List.mem_append_left _ (List.mem_append_right _ (List.mem_append_left _ (.head _))))).1⟩
/-- a heap that keeps all -/
theorem Frm.grown {c : Cx} {s : Shared} {h' : Heap} (F : Frm w c m n s) (hk : ∀ b o, s.heap.get? b = some o → h'.get? b = some o) (tk : Nat) : Frm w c m n { s with heap := h', toks := tk } := by
  obtain ⟨mv, ld, F', V, N, R, D⟩ := F
  exact ⟨mv, ld, F'.keptAll hk, V, N.grown hk, R, D⟩
noncomputable def intsOf : List AV → Option (List Int)
  | [] => some []
  | .int i :: r => match intsOf r with
    | some is => some (i :: is)
    | none => none
  | _ => none
theorem intsOf_are {as : List AV} {us : List Value} (hu : Has as us) : ∀ {is : List Int}, intsOf as = some is → IntsAre us is := by
  induction hu with
  | nil => intro is h; cases h; exact .nil
  | @cons a v as vs ha _ ih =>
    intro is h
    cases a with
    | int i =>
      cases hj : intsOf as with
      | none => rw [show intsOf (.int i :: as) = none by unfold intsOf; rw [hj]] at h; cases h
      | some js =>
        rw [show intsOf (.int i :: as) = some (i :: js) by unfold intsOf; rw [hj]] at h
        cases h
        obtain ⟨t, rfl⟩ := ha
        exact .cons i t (ih hj)
    | bytes _ => cases h
    | v _ => cases h
noncomputable def AllOct : List Int → Prop
  | [] => True
  | i :: r => (0 ≤ i ∧ i < 256) ∧ AllOct r
theorem AllOct.in {is : List Int} (h : AllOct is) : KBa.In is := by
  induction is with
  | nil => exact fun _ h => nomatch h
  | cons i r ih => exact List.forall_mem_cons.mpr ⟨h.1, ih h.2⟩
noncomputable abbrev octs (is : List Int) : By := is.map fun i => i.toNat.toUInt8
theorem CallK.bytesL {l as is} (hl : (l, .lst as) ∈ n) (hi : intsOf as = some is) (hr : KBa.In is) (hz : is.length ≤ 100000) : CallK w d n (.type "bytes") [.ref l] fun a n' => a = .bytes (octs is) ∧ n' = n := CallK.mkV fun c sc ok m s Q E F q => by
  obtain ⟨us, k, hu, ho⟩ := F.lstAt hl
  exact call_bytes_ints (vs := us) ⟨_, ho, rfl, k, rfl⟩ (intsOf_are hu hi) hr (by rw [(intsOf_are hu hi).length, sizeLine_eq]; (first | lia | omega)) rfl fun h' t' k hk =>
    q (.bytes _ t') n h' k (.bytes (octs is)) ⟨t', rfl⟩ ⟨rfl, rfl⟩ (F.grown hk k)
theorem EvK.tok {e} {c : Cx} (h : EvK ⟨w, sc, d, m, n⟩ e P) (ok : c.Ok w sc d) : Tr w c m n (eval e c.env) fun v m' n' => m' = m ∧ ∃ a : AV, a.has v ∧ P a n' := h c ok
/-- bytes of a written list -/
theorem Ev.bytesOf {fe es as is p pos} (hf : Ev ⟨w, sc, d, m, n⟩ fe (.v (.type "bytes"))) (hs : Evs ⟨w, sc, d, m, n⟩ es as) (hi : intsOf as = some is) (hr : AllOct is) (hz : Nat.ble as.length 100000 = true) (hz2 : Nat.ble is.length 100000 = true) (hq : plainC fe = true) :
    Ev ⟨w, sc, d, m, n⟩ (.Call fe [.List es p] [] pos) (.bytes (octs is)) := fun c ok s Q E F q => by
  have hk : EvK ⟨w, sc, d, m, n⟩ (.Call fe [.List es p] [] pos) fun a n' => a = .bytes (octs is) ∧ n.Sublist n' := EvK.call hf rfl rfl hq (EvKs.cons (EvK.list (EvKs.of hs ⟨hz, fun l =>
    EvKs.nil ((CallK.bytesL (.head _) hi hr.in (Nat.le_of_ble_eq_true hz2)).mono fun a n' e => ⟨e.1, by rw [e.2]; exact List.sublist_cons_self _ _⟩)⟩)) rfl)
  exact hk.run ok F fun v n1 h1 tk1 a ha e F1 => q v m n h1 tk1 ⟨rfl, a, ha, e.1, rfl⟩ (F1.ledger e.2)
theorem CallK.bytesB {b} : CallK w d n (.type "bytes") [.bytes b] fun a n' => a = .bytes b ∧ n' = n := CallK.mk1 fun c sc ok m v ⟨t, e⟩ s Q E F q =>
  e ▸ bytesOfBytes_ (q _ n s.heap s.toks (.bytes b) ⟨_, rfl⟩ ⟨rfl, rfl⟩ F)
theorem CallK.bytesI {k : Int} (h0 : 0 ≤ k) (h1 : k ≤ 1000) : CallK w d n (.type "bytes") [.int k] fun a n' => a = .bytes (List.replicate k.toNat 0) ∧ n' = n := CallK.mk1 fun c sc ok m v ⟨t, e⟩ s Q E F q =>
  e ▸ bytesOfInt_ h0 h1 fun t' k' => q _ n s.heap k' (.bytes _) ⟨_, rfl⟩ ⟨rfl, rfl⟩ F
theorem CallK.lenB {b : By} {k : Nat} (hk : b.length ≤ k) (hz : Nat.ble k 100000 = true) : CallK w d n (.builtin "len") [.bytes b] fun a n' => a = .int b.length ∧ n' = n := CallK.mk1 fun c sc ok m v ⟨t, e⟩ s Q E F q => by
  have hz := Nat.le_trans hk (Nat.le_of_ble_eq_true hz)
  rw [e]
  exact len_bytes (by rw [List.size_toArray]; (first | lia | omega)) (q _ n s.heap _ (.int b.length) ⟨_, by rw [List.size_toArray]⟩ ⟨rfl, rfl⟩ F)
theorem Op.addB {x y : By} {a b : Nat} (hx : x.length ≤ a) (hy : y.length ≤ b) (hz : Nat.ble (a + b) 100000 = true) : Op w n (binaryOp .Add) (.bytes x) (.bytes y) (.bytes (x ++ y)) := fun c sc ok m va vb ⟨t, e1⟩ ⟨u, e2⟩ s Q E F q => by
  have hz := Nat.le_of_ble_eq_true hz
  subst e1 e2
  exact bytes_add_K (by rw [List.size_toArray, List.size_toArray]; (first | lia | omega)) rfl fun t' k => q _ m n s.heap k ⟨rfl, .bytes _, ⟨_, rfl⟩, rfl, rfl⟩ F
theorem Op.eqB {x y : By} : Op w n (compareOp .Eq) (.bytes x) (.bytes y) (.bool (decide (x = y))) := fun c sc ok m va vb ⟨t, e1⟩ ⟨u, e2⟩ s Q E F q => by
  subst e1 e2
  exact bytesEq_ (q _ m n s.heap s.toks ⟨rfl, .bool _, rfl, rfl, rfl⟩ F)
theorem Op.neB {x y : By} : Op w n (compareOp .NotEq) (.bytes x) (.bytes y) (.bool (decide (¬ x = y))) := fun c sc ok m va vb ⟨t, e1⟩ ⟨u, e2⟩ s Q E F q => by
  subst e1 e2
  exact bytesNe_ (q _ m n s.heap s.toks ⟨rfl, .bool _, rfl, rfl, rfl⟩ F)
/-- a place that is no slice -/
noncomputable def noSl (e : Expr) : Bool := !(Nat.beq e.ctorIdx 26)
theorem sub_plain {e : Expr} (h : noSl e = true) (o i : Value) : subscripted e false o i = operate [o, i] (getItem o i) := by
  cases e <;> first | rfl | cases h
theorem letGo_bytes (e : Expr) (b : Array UInt8) (t : Tok) (r : Value) : letTemporaryGo e (.bytes b t) r = Pure.pure () := by cases e <;> rfl
theorem Ev.oct {v e pos x i} (hv : Ev ⟨w, sc, d, m, n⟩ v (.bytes x)) (he : Ev ⟨w, sc, d, m, n⟩ e (.int i)) (h0 : 0 ≤ i) {k : Nat} (h1 : i < (x.length : Int)) (hk : x.length ≤ k) (hz : Nat.ble k 100000 = true) (hn : noSl e = true) : Ev ⟨w, sc, d, m, n⟩ (.Subscript v e pos) (.int (Mine.oct x i)) := fun c ok s Q E F q => by
  have hz := Nat.le_trans hk (Nat.le_of_ble_eq_true hz)
  exact Subscript_ (hv.runB ok F fun t h1' tk1 F1 => he.runI ok F1 fun t2 h2 tk2 F2 => bytes_item_K (by (first | lia | omega)) h0 h1 rfl (q _ m n h2 (tk2 + 1) (evPut ⟨_, rfl⟩) F2) (sub_plain hn _ _) (letGo_bytes _ _ _))
/-- an end of a slice -/
noncomputable def Part (S : St) (e : Option Expr) (o : Option Int) : Prop := match e, o with
  | none, none => True
  | some e, some i => Ev S e (.int i) ∧ 0 ≤ i
  | _, _ => False
noncomputable def cutB (x : By) : Option Int → Option Int → By
  | some a, none => x.drop a.toNat
  | none, some b => x.take b.toNat
  | some a, some b => (x.drop a.toNat).take (b.toNat - a.toNat)
  | none, none => x
theorem Part.run {S : St} {e o} (h : Part S e o) {c : Cx} (ok : c.Ok S.w S.sc S.d) {s : Shared} {Q E} (F : Frm S.w c S.m S.n s) (q : ∀ v h' tk', IsPart v o → Frm S.w c S.m S.n { s with heap := h', toks := tk' } → Q v { s with heap := h', toks := tk' }) :
    wpAny (model PR S.w) c.A (evalPart e c.env) Q E s := by
  cases e with
  | none =>
    cases o with
    | none => exact evalPart_none_step (q .none s.heap s.toks IsPart.none F)
    | some i => exact h.elim
  | some e =>
    cases o with
    | none => exact h.elim
    | some i => exact evalPart_some_step (h.1.runI ok F fun t h1 tk1 F1 => q _ h1 tk1 (IsPart.int i t) F1)
theorem picked_cut {x : By} {l u : Option Int} (hl : ∀ i, l = some i → 0 ≤ i) (hu : ∀ i, u = some i → 0 ≤ i) : KBy.picked x.toArray l u = (cutB x l u).toArray := by
  cases l with
  | none =>
    cases u with
    | none => rw [KBc.picked_eq]; simp [cutB]
    | some b => exact picked_hi (hu _ rfl)
  | some a =>
    cases u with
    | none => exact picked_lo (hl _ rfl)
    | some b => exact picked_both (hl _ rfl) (hu _ rfl)
theorem Part.pos {S : St} {e o} (h : Part S e o) : ∀ i, o = some i → 0 ≤ i := fun i e' => by
  subst e'
  cases e with
  | none => exact h.elim
  | some e => exact h.2
theorem Ev.slice {v lo hi p pos x l u} (hv : Ev ⟨w, sc, d, m, n⟩ v (.bytes x)) (hl : Part ⟨w, sc, d, m, n⟩ lo l) (hu : Part ⟨w, sc, d, m, n⟩ hi u) {k : Nat} (hk : x.length ≤ k) (hz : Nat.ble k 100000 = true) : Ev ⟨w, sc, d, m, n⟩ (.Subscript v (.Slice lo hi none p) pos) (.bytes (cutB x l u)) := fun c ok s Q E F q => by
  have hz := Nat.le_trans hk (Nat.le_of_ble_eq_true hz)
  refine Subscript_ (hv.runB ok F fun t h1' tk1 F1 => wpAny_Slice (hl.run ok F1 fun v1 h1 tk1 p1 F1 => hu.run ok F1 fun v2 h2 tk2 p2 F2 => evalPart_none_step ?_))
  obtain ⟨mv, ld, F', V, N, R, D⟩ := F2
  exact KBc.slice_K (s := ⟨h2, s.gens, s.drawn, tk2, s.os⟩) F' N rfl p1 p2 (by rw [KBw.ints_length, List.size_toArray]; (first | lia | omega)) (fun h' t' k F2 N2 _ => by
    rw [picked_cut hl.pos hu.pos]
    exact q _ m n h' k (evPut ⟨_, rfl⟩) ⟨mv, ld, F2, V, N2, R, D⟩) rfl (letGo_bytes _ _ _)
theorem Ev.sliceLo {v lo p pos x l} (hv : Ev ⟨w, sc, d, m, n⟩ v (.bytes x)) (hl : Ev ⟨w, sc, d, m, n⟩ lo (.int l)) (h0 : 0 ≤ l) {k : Nat} (hk : x.length ≤ k) (hz : Nat.ble k 100000 = true) : Ev ⟨w, sc, d, m, n⟩ (.Subscript v (.Slice (some lo) none none p) pos) (.bytes (x.drop l.toNat)) :=
  Ev.slice (l := some l) (u := Option.none) hv ⟨hl, h0⟩ True.intro hk hz
theorem Ev.sliceHi {v hi p pos x u} (hv : Ev ⟨w, sc, d, m, n⟩ v (.bytes x)) (hl : Ev ⟨w, sc, d, m, n⟩ hi (.int u)) (h0 : 0 ≤ u) {k : Nat} (hk : x.length ≤ k) (hz : Nat.ble k 100000 = true) : Ev ⟨w, sc, d, m, n⟩ (.Subscript v (.Slice none (some hi) none p) pos) (.bytes (x.take u.toNat)) :=
  Ev.slice (l := Option.none) (u := some u) hv True.intro ⟨hl, h0⟩ hk hz
theorem Ev.sliceLH {v lo hi p pos x l u} (hv : Ev ⟨w, sc, d, m, n⟩ v (.bytes x)) (hl : Ev ⟨w, sc, d, m, n⟩ lo (.int l)) (h0 : 0 ≤ l) (hu : Ev ⟨w, sc, d, m, n⟩ hi (.int u)) (h1 : 0 ≤ u) {k : Nat} (hk : x.length ≤ k) (hz : Nat.ble k 100000 = true) :
    Ev ⟨w, sc, d, m, n⟩ (.Subscript v (.Slice (some lo) (some hi) none p) pos) (.bytes ((x.drop l.toNat).take (u.toNat - l.toNat))) :=
  Ev.slice (l := some l) (u := some u) hv ⟨hl, h0⟩ ⟨hu, h1⟩ hk hz
theorem len_app {x y : By} {a b : Nat} (h : x.length ≤ a) (k : y.length ≤ b) : (x ++ y).length ≤ a + b := by rw [List.length_append]; exact Nat.add_le_add h k
theorem len_take {x : By} {a i : Nat} (h : x.length ≤ a) : (x.take i).length ≤ a := by rw [List.length_take]; exact Nat.le_trans (Nat.min_le_right _ _) h
theorem len_drop {x : By} {a i : Nat} (h : x.length ≤ a) : (x.drop i).length ≤ a := by rw [List.length_drop]; exact Nat.le_trans (Nat.sub_le _ _) h
theorem len_octs {is : List Int} : (octs is).length ≤ is.length := by rw [List.length_map]; exact Nat.le_refl _
theorem len_rep {k b : Nat} (h : k ≤ b) : (List.replicate k (0 : UInt8)).length ≤ b := by rw [List.length_replicate]; exact h
theorem len_nil : (List.length (α := UInt8) []) ≤ 0 := Nat.le_refl _
end
/-- two octets, most significant first -/
noncomputable def g16 (x : By) (i : Int) : Int := oct x i * 256 + oct x (i + 1)
theorem g16_nonneg (x : By) (i : Int) : 0 ≤ g16 x i := by have := oct_nonneg x i; have := oct_nonneg x (i + 1); unfold g16; (first | lia | omega)
theorem g16_lt (x : By) (i : Int) : g16 x i < 65536 := by have := oct_lt x i; have := oct_lt x (i + 1); unfold g16; (first | lia | omega)
noncomputable def g32 (x : By) (i : Int) : Int := g16 x i * 65536 + g16 x (i + 2)

/-- the two octets of a number, most significant first -/
noncomputable def w16 (n : Int) : By := [(n / 256 % 256).toNat.toUInt8, (n % 256).toNat.toUInt8]
theorem w16_length (n : Int) : (w16 n).length = 2 := rfl
noncomputable def w32 (n : Int) : By := w16 (n / 65536) ++ w16 n
theorem w32_length (n : Int) : (w32 n).length = 4 := rfl
/-! the rows: written trees of tactics -/
def rA (s : String) : Lean.Syntax := .atom .none s
def rN (k : String) (l : List Lean.Syntax) : Lean.Syntax := .node .none k.toName l.toArray
def rI (n : Lean.Name) : Lean.Syntax := .ident .none "".toRawSubstring n []
def rT (k : String) (l : List Lean.Syntax) : Lean.Syntax := rN ("Lean.Parser.Tactic." ++ k) l
def rS (l : List Lean.Syntax) : Lean.Syntax := rT "tacticSeq" [rT "tacticSeq1Indented" [rN "null" l]]
def rP (l : List Lean.Syntax) : Lean.Syntax := rT "paren" [rA "(", rS l, rA ")"]
def rK (k : String) : Lean.Syntax := rN "PyProof.Rows.tacticTm_at_" [rA "tm_at", rN "str" [rA ("\"" ++ k ++ "\"")]]
/-- a tree that stands written: (KIND .. ), 'atom, ~name of its own, name -/
def rowTok (sc : String → Lean.Syntax) (st : List (String × List Lean.Syntax)) (w : String) : List (String × List Lean.Syntax) :=
  let c := w.front
  let v := (w.drop 1).toString
  match st with
  | [] => []
  | (k, xs) :: r =>
    if c == ')' then match r with
      | (k2, ys) :: r => (k2, (if k.front == '%' then rT (k.drop 1).toString xs.reverse else rN k xs.reverse) :: ys) :: r
      | [] => []
    else if c == '(' then (v, []) :: st
    else (k, (if c == '\'' then rA v else if c == '~' then sc v else rI w.toName) :: xs) :: r
/-- one alternative of a row: LEMMA [args [steps]] -/
def rowAlt (sc : String → Lean.Syntax) (s : String) : Lean.Syntax :=
  match s.splitOn " " with
  | [] => rA s
  | l :: r =>
    let p := r.headD ""
    if l == "=" then rK p
    else if l == "#" then match r.foldl (rowTok sc) [("", [])] with
      | (_, x :: _) :: _ => x
      | _ => rA s
    else
      let call := l.front == '@'
      let deep := l.front == '!'
      let arg (c : String) : Lean.Syntax := if c == "_" then rN "Lean.Parser.Term.hole" [rA "_"] else if c.length == 1 then rN "Lean.Parser.Term.syntheticHole" [rA "?", sc c] else rI c.toName
      let app (f : Lean.Syntax) (as : List Lean.Syntax) : Lean.Syntax := if as.isEmpty then f else rN "Lean.Parser.Term.app" [f, rN "null" as]
      let case (i : String) (t : List Lean.Syntax) : Lean.Syntax := rT "case" [rA "case", rN "null" [rT "caseArg" [rN "Lean.binderIdent" [sc i], rN "null" []]], rA "=>", rS t]
      let t := app (rI (if call || deep then (l.drop 1).toString else l).toName) ((if p.contains ',' then p.splitOn "," else p.toList.map (·.toString)).map arg)
      let t := rT "refine'" [rA "refine'", if call then app (rI `CallK.le) [t, arg "9"] else t]
      let t := if deep then t else rT "withReducible" [rA "with_reducible", rS [t]]
      let t := if call then rP [t, rA ";", case "9" [rK "T"]] else t
      (r.drop 1).foldl (fun t w =>
        let v := (w.drop 1).toString
        if w.front == '+' then rP [t, rA ";", rK v]
        else if w.front == '*' then rP [rT "«tactic_<;>_»" [t, rA "<;>", rK v]]
        else match w.splitOn ":" with
          | [i, k] => rP [t, rA ";", case i ((k.splitOn ",").flatMap fun k => [rK k, rA ";"])]
          | _ => t) t
def rowTable : String := "inr ints_nil\ninr ints_cons ab a:dec b:inr\nop Op.inJ ab a:in b:as\nop Op.notinJ ab a:in b:as\nevk EvK.sliceJ abcef1 a:ev b:in c:ev e:om f:swp +ri\nop Op.neSame a,b,rowL_same a:in b:in\nfnk @row_fn a1 a:in +i1\nfnk @Reassembly_fn 1 +i5\nfn @bad_piece_fn abc a:in b:om c:as\nfnk @key_of_fn a1 a:in +i1\nfnk @Datagram_fn 1 +i5\nev Ev.cell ab a:in b:kr\nfn @octets_fn abcdefg a:in b:in c:as d:om e:om f:as g:as\nop Op.neBool\nev Ev.iteT abc a:tst b:tt c:ev\nev Ev.iteF abc a:tst b:ff c:ev\nff !bne_ff a a:as\nff !nne_ff a a:asr\nasr = as\nasr = rfl\nfn CallK.joinB ab a:in b:len\nfn @filled_fn 1 1:om\nfn @sum_right_fn abcdef c:as a:om b:om d:om e:as f:as\nfn CallK.intI\nfn CallK.intB\nfn CallK.lenL ab a:in b:lz\nevj EvK.joinB abc1 a:ev b:rfl c:rfl\nfn @is_against_fn abcdef a:in b:in c:in d:as e:as f:om\nfn @dg_whole_fn abcd a:in b:in c:in d:as\nfn @holes_whole_fn abc a:in b:in c:as\nfn @reach_fn abcd a:in b:in c:as d:om\nfnk @Holes_fn 1 +i3\nff !or_ff 12 *ff\nop Op.is a a:rfl\nop Op.isnt a a:rfl\nop Op.eqNil ab a:in b:in\nop Op.neNil ab a:in b:in\nev Ev.itemL abcdef a:ev b:in c:ev d:idx e:lz f:rfl\nev Ev.itemT abcdef a:ev b:in c:ev d:rfl e:T f:rfl\nev Ev.andF ab a:ev b:rfl\nev Ev.cmpK 1a a:rfl 1:evk,evk,opn\ntst Tst.cmpK 1a a:rfl 1:evk,evk,opn\nopn Op2.of e1 e:op 1:rs\nrs !And.intro ab a:rfl b:sl\nidx = as\nidx = rfl\nidx !getI_of ab a:om b:as\nlz !Nat.le_of_ble_eq_true a a:T\nlz = om\nlz = lens\nws Ws.setI 1a a:rfl +evk +seti\nseti SetI.mk abcde1 a:ev b:ev c:upd d:rfl e:T\nws Ws.assignT 1ab a:swp b:swp +evk +asg\nasg AsgK.lst ab1 a:in b:asgs\nws Ws.assignS 1ab a:swp b:sws +evk +ags\nags AsgS.mk abcdef1 a:rfl b:in c:rfl d:rfl e:asn f:rfl\nasn !AsgsN.nil\nasn !AsgsN.cons abcd a:pick b:kr c:kr d:asn\nevm EvK.meth abicdef1 f:rfl a:ev b:in i:is c:kr d:kr e:rfl +evks\nevc EvK.call abcd1 d:rfl a:ev b:kr c:rfl +evks\nfn CallK.maxI\nfn CallK.minI\nupd UpdA.left a_ a:upd\nsl List.Sublist.refl _\nsl List.Sublist.cons_cons _a a:sl\nsl List.Sublist.cons _a a:sl\nsl List.Sublist.append_left a_ a:sl\nsl sub_drop a_ a:sl\ntake Take.head\ntake Take.tail a a:take\ntake Take.app a_ a:take\ntake = as\nopts = as\nopts !Paired.opts ab a:as b:optm\nfn @write_options_fn abyz a:take b:opts y:as z:as\nfn @later_options_fn a a:as\naso = as\naso = omega\nfn @is_single_fn 1 *side\nfn @is_copied_fn\nfn @size_at_fn 12345 *side\nfn @option_octets_fn 123 *side\nfn @room_of_fn 123 *side\nfn @pack_ip_fn abc a:in b:as c:len\nfn @head_size_fn 12345 *side\nfnk @unpack_ip_fn a1 a:side +i2\nfn @lessened_octets_fn 12 *side\nfn @size_fn aeb a:in e:dsr b:side\nfnk @IpHeader_fn 1 +i1\nfnk @part_header_fn a1 a:in +i1\nfnk @whole_header_fn a1 a:in +i1\nfn @flags_of_fn a a:in\nfn @check_fields_fn ab a:in b:as\nfn @check_size_fn abc a:in b:as c:len\ndsr = ds\ndsr !rfl\nins = in\nins = side\nupd UpdA.head\nupd UpdA.tail a a:upd\nupd UpdA.app a_ a:upd\nupd = as\nputf PutF.nil\nputf PutF.hit\nputf PutF.skip ab a:kr b:putf\nsetk SetK.mk abcde1 a:ev b:upd c:putf d:kr e:rfl\nev Ev.attr abcdef f:rfl a:ev b:in c:in d:kr e:rfl\nev Ev.meth abicdefgh f:rfl a:ev b:in i:is c:kr d:kr e:rfl g:evs h:fn\nevks EvKs.ofE a1 a:evs\nevks EvKs.nil 1\nevks EvKs.cons 1a a:rfl +evk +evks\nfnk CallK.to a1 a:fn\nevk EvK.ofE a1 a:ev\nevk EvK.tuple 1 +evks +ri\nevk EvK.list 1 +evks +ri\nevk EvK.lmeth a,b,PySem.F.slot_list_append,PySem.F.type_list_append,c,d,1 c:rfl d:rfl a:ev b:in +evks +app\nevk EvK.meth abicdef1 f:rfl a:ev b:in i:is c:kr d:kr e:rfl +evks +fnk\nevk EvK.call abcd1 d:rfl a:ev b:kr c:rfl +evks +fnk\nws Ws.setA 1a a:rfl +evk +setk\nasgs AsgsK.nil\nasgs AsgsK.cons abcd a:pick b:kr c:kr d:asgs\nasg AsgK.name abc1 a:pick b:kr c:kr\nasg AsgK.tup ab1 a:in b:asgs\napp CallK.append ef1 e:upd f:len\nfn @fold_fn 12 *side\nfn @ones_sum_fn ab a:as b:om\nfn @checksum_fn ab a:as b:om\nfn @adjusted_fn 123456 *side\nfn @is_within_fn 1234 *isw\nlenle len_w16\nlenle len_w32\nlen = lens\nfn @need_fn 123 *side\nfn @put16_fn 12 *side\nfn @put32_fn 12 *side\nfn @get16_fn 123 *side\nfn @get32_fn 123 *side\nom = as\nom = dec\nom Int.emod_nonneg _a a:dec\nom Int.emod_lt_of_pos _a a:dec\nom Int.lt_of_lt_of_le ab a:as b:dec\nom Int.le_trans ab a:as b:dec\nom Int.lt_of_lt_of_le ab b:as a:dec\nom Int.le_trans ab b:as a:dec\nom = lia\nlenle = as\nlenle len_app ab a:lenle b:lenle\nlenle len_octs\nlenle len_take a a:lenle\nlenle len_drop a a:lenle\nlenle len_nil\nlenle len_rep a a:as\nlen = om\nside = as\nside = T\nside = len\nin mhead\nin mtail a a:in\nin = as\nin List.mem_append_left _a a:in\nin List.mem_append_right _a a:in\npick Pick.nil\npick Pick.here\npick Pick.skip a a:pick\nff = rfl\nff = as\nff !decide_eq_false 1 +side\nff !ne_ff 1 +side\nff !not_ff 1 +tt\nff !and_f1 1 +ff\nff !and_f2 1 +ff\ntt = rfl\ntt = as\ntt !decide_eq_true 1 +side\ntt !ne_tt 1 +side\ntt !and_tt 12 *tt\ntt !not_tt 1 +ff\ntt !or_t1 1 +tt\ntt !or_t2 1 +tt\nop Op.add\nop Op.sub\nop Op.lt\nop Op.le\nop Op.gt\nop Op.ge\nop Op.eq\nop Op.ne\nop Op.iadd\nop Op.eqB\nop Op.neB\nop Op.shr8\nop Op.shr16\nop Op.mul 12 *om\nop Op.addB abc a:lenle b:lenle c:T\nop Op.mod 1 +om\nop Op.div 12 *om\nop Op.shl8 12 *om\nop Op.shl16 12 *om\nop Op.and255 1 +om\nop Op.and65535 1 +om\nop Op.and8191 1 +om\nop Op.and16384 1 +om\nop Op.and8192 1 +om\nop Op.pow 123 *omd\nop Op.or8 123 *om\nop Op.or16 123 *om\noct !True.intro\noct !oct_mk abc a:om b:om c:oct\nfn CallK.bytesB\nfn CallK.lenB ab a:lenle b:T\nfn CallK.bytesI 12 *om\nevs Evs.nil\nevs Evs.cons abc a:ev b:evs c:rfl\nev Ev.int\nev Ev.noneC\nev Ev.bytes\nev Ev.boolc\nev Ev.name ab a:in b:kr\nev Ev.globI ab b:kr a:is\nev Ev.globV ab b:kr a:is\nev Ev.blt abcd c:kr a:is b:boot d:dec\nev Ev.bin abc a:ev b:ev c:op\nev Ev.cmp abcd a:ev b:ev c:op d:rfl\nev Ev.sliceLo abcde a:ev b:ev c:om d:lenle e:T\nev Ev.sliceHi abcde a:ev b:ev c:om d:lenle e:T\nev Ev.sliceLH abcfgde a:ev b:ev c:om f:ev g:om d:lenle e:T\nev Ev.oct abcdegf f:rfl a:ev b:ev c:om d:len e:lenle g:T\nev Ev.bytesOf abcdefg a:ev b:evs c:rfl d:oct e:rfl f:rfl g:rfl\nev Ev.call abcdef d:rfl a:ev b:kr c:rfl e:evs f:fn\nev Ev.neg a a:ev\nev Ev.chain abcdef a:ev b:ev c:it,ev d:op e:it,op f:rfl\nev Ev.bool1 a a:ev\nev Ev.and ab a:ev b:it,ev\nev Ev.or ab a:ev b:if,ev\ntst Tst.cmp abcd a:ev b:ev c:op d:rfl\ntst Tst.and0\ntst Tst.or0\ntst Tst.and ab a:tst b:it,tst\ntst Tst.or ab a:tst b:if,tst\ntst Tst.not a a:tst\ntst !Tst.val abc c:rfl a:ev b:rfl\nws Ws.assign 1abcd a:pick b:kr c:kr d:rfl +evk\nws Ws.aug a1bcd a:in b:pick c:kr d:kr +evk +op2\nws Ws.iteF ab1 a:tst b:ff\nws Ws.iteT ab1 a:tst b:tt\nws Ws.retP 1 +evk\nws Ws.expr 1a a:rfl +evk\nws Ws.pop 1\nws Ws.done 1\nsub !List.forall_mem_nil _\nsub !sub_cons ab a:in b:sub\nop2 Op2.of e1 e:op\nomd = om\nomd = dec\nisw = as\nisw = T\nisw = dec\nisw = nat\nisw = omega\nas # (%withReducible 'with_reducible (%tacticSeq (%tacticSeq1Indented (null (%assumption 'assumption ) ) ) ) )\nrfl # (%exact 'exact rfl )\nT # (%exact 'exact (Lean.Parser.Term.app Eq.refl (null true ) ) )\nkr # (PyProof.Rows.tacticKernel_rfl! 'kernel_rfl! )\nis # (PySem.W.tacticK_is 'k_is )\nboot # (PyProof.Rows.tacticBoot_fast 'boot_fast )\ndec # (%decide 'decide (%optConfig (null ) ) )\nlia # (%lia 'lia (%optConfig (null ) ) )\nomega # (%omega 'omega (%optConfig (null ) ) )\nlens # (%paren '( (%tacticSeq (%tacticSeq1Indented (null (%simp 'simp (%optConfig (null ) ) (null ) (null 'only ) (null '[ (null (%simpLemma (null ) (null ) List.length_append ) ', (%simpLemma (null ) (null ) List.length_cons ) ', (%simpLemma (null ) (null ) List.length_nil ) ', (%simpLemma (null ) (null ) List.length_take ) ', (%simpLemma (null ) (null ) List.length_drop ) ', (%simpLemma (null ) (null ) List.length_map ) ', (%simpLemma (null ) (null ) w16_length ) ', (%simpLemma (null ) (null ) w32_length ) ) '] ) (null ) ) '; (%lia 'lia (%optConfig (null ) ) ) ) ) ) ') )\nnat # (%paren '( (%tacticSeq (%tacticSeq1Indented (null (%simp 'simp (%optConfig (null ) ) (null ) (null 'only ) (null '[ (null (%simpLemma (null ) (null ) Int.reduceToNat ) ', (%simpLemma (null ) (null ) Int.reducePow ) ) '] ) (null ) ) '; (%omega 'omega (%optConfig (null ) ) ) ) ) ) ') )\nds # (%paren '( (%tacticSeq (%tacticSeq1Indented (null (%dsimp 'dsimp (%optConfig (null ) ) (null ) (null 'only ) (null ) (null ) ) '; (%done 'done ) ) ) ) ') )\nit # (%paren '( (%tacticSeq (%tacticSeq1Indented (null (%intro 'intro (null ~hb9 ) ) '; (%paren '( (%tacticSeq (%tacticSeq1Indented (null (%tacticTry_ 'try (%tacticSeq (%tacticSeq1Indented (null (%replace 'replace (Lean.Parser.Term.letDecl (Lean.Parser.Term.letIdDecl (Lean.Parser.Term.letId ~hb9 ) (null ) (null ) ':= (Lean.Parser.Term.app of_decide_eq_true (null ~hb9 ) ) ) ) ) ) ) ) ) ) ) ) ') ) ) ) ) ') )\nif # (%paren '( (%tacticSeq (%tacticSeq1Indented (null (%intro 'intro (null ~hb9 ) ) '; (%paren '( (%tacticSeq (%tacticSeq1Indented (null (%tacticTry_ 'try (%tacticSeq (%tacticSeq1Indented (null (%replace 'replace (Lean.Parser.Term.letDecl (Lean.Parser.Term.letIdDecl (Lean.Parser.Term.letId ~hb9 ) (null ) (null ) ':= (Lean.Parser.Term.app of_decide_eq_false (null ~hb9 ) ) ) ) ) ) ) ) ) ) ) ) ') ) ) ) ) ') )\nswp # (%paren '( (%tacticSeq (%tacticSeq1Indented (null (%intros 'intros (null ) ) '; (%tacticRfl 'rfl ) ) ) ) ') )\nsws # (%paren '( (%tacticSeq (%tacticSeq1Indented (null (%intro 'intro (null ~env9 ~he9 ) ) '; (%cases 'cases (null (%elimTarget (null ) ~env9 ) ) (null ) (null ) ) '; (%cases 'cases (null (%elimTarget (null ) ~he9 ) ) (null ) (null ) ) '; (PyProof.Rows.tacticKernel_rfl! 'kernel_rfl! ) ) ) ) ') )\nri # (%refine' 'refine' (Lean.Parser.Term.anonymousCtor '⟨ (null rfl ', (Lean.Parser.Term.fun 'fun (Lean.Parser.Term.basicFun (null ~l ) (null ) '=> (Lean.Parser.Term.syntheticHole '? '_ ) ) ) ) '⟩ ) )\noptm # (%paren '( (%tacticSeq (%tacticSeq1Indented (null (%intro 'intro (null ~q ~hq ) ) '; (%simp 'simp (%optConfig (null ) ) (null ) (null 'only ) (null '[ (null (%simpLemma (null ) (null ) List.mem_cons ) ', (%simpLemma (null ) (null ) List.mem_append ) ', (%simpLemma (null ) (null ) ~hq ) ', (%simpLemma (null ) (null ) true_or ) ', (%simpLemma (null ) (null ) or_true ) ) '] ) (null ) ) ) ) ) ') )\ni1 # (%intro 'intro (null ~x9 ) )\ni2 # (%intro 'intro (null ~x8 ~x9 ) )\ni3 # (%intro 'intro (null ~x7 ~x8 ~x9 ) )\ni5 # (%intro 'intro (null ~x5 ~x6 ~x7 ~x8 ~x9 ) )"
local macro_rules
  | `(tactic| tm_at $k:str) => do
    let pre := k.getString ++ " "
    let m ← Lean.MonadQuotation.getMainModule
    let n ← Lean.MonadQuotation.getCurrMacroScope
    let sc (s : String) : Lean.Syntax := rI (Lean.addMacroScope m s.toName n)
    match (rowTable.splitOn "\n").filter (·.startsWith pre) with
    | [] => Lean.Macro.throwUnsupported
    | [a] => return rowAlt sc (a.drop pre.length).toString
    | l => return rT "first" [rA "first", rN "null" (l.map fun b => rN "group" [rA "|", rS [rowAlt sc (b.drop pre.length).toString]])]


theorem bind1 {fd : FuncData} {w : World} {x1 : Str} {a1 : AV} (h : ∀ (s : Shared) v1, (Mine.hd.heap_39 w.params).In s.heap → BindsTo s fd ⟨[v1], []⟩ [(x1, v1)]) :
    ∀ (s : Shared) vs, (Mine.hd.heap_39 w.params).In s.heap → Has [a1] vs → ∃ bs, HasB [(x1, a1)] bs ∧ BindsTo s fd ⟨vs, []⟩ bs.reverse := fun s vs X hv => by
  cases hv with | cons h1 hv => ?_
  cases hv
  exact ⟨_, (.cons h1 HasB.nil), h s _ X⟩
theorem bind2 {fd : FuncData} {w : World} {x1 x2 : Str} {a1 a2 : AV} (h : ∀ (s : Shared) v1 v2, (Mine.hd.heap_39 w.params).In s.heap → BindsTo s fd ⟨[v1, v2], []⟩ [(x1, v1), (x2, v2)]) :
    ∀ (s : Shared) vs, (Mine.hd.heap_39 w.params).In s.heap → Has [a1, a2] vs → ∃ bs, HasB [(x2, a2), (x1, a1)] bs ∧ BindsTo s fd ⟨vs, []⟩ bs.reverse := fun s vs X hv => by
  cases hv with | cons h1 hv => ?_
  cases hv with | cons h2 hv => ?_
  cases hv
  exact ⟨_, (.cons h2 (.cons h1 HasB.nil)), h s _ _ X⟩
theorem bind3 {fd : FuncData} {w : World} {x1 x2 x3 : Str} {a1 a2 a3 : AV} (h : ∀ (s : Shared) v1 v2 v3, (Mine.hd.heap_39 w.params).In s.heap → BindsTo s fd ⟨[v1, v2, v3], []⟩ [(x1, v1), (x2, v2), (x3, v3)]) :
    ∀ (s : Shared) vs, (Mine.hd.heap_39 w.params).In s.heap → Has [a1, a2, a3] vs → ∃ bs, HasB [(x3, a3), (x2, a2), (x1, a1)] bs ∧ BindsTo s fd ⟨vs, []⟩ bs.reverse := fun s vs X hv => by
  cases hv with | cons h1 hv => ?_
  cases hv with | cons h2 hv => ?_
  cases hv with | cons h3 hv => ?_
  cases hv
  exact ⟨_, (.cons h3 (.cons h2 (.cons h1 HasB.nil))), h s _ _ _ X⟩
theorem bind4 {fd : FuncData} {w : World} {x1 x2 x3 x4 : Str} {a1 a2 a3 a4 : AV} (h : ∀ (s : Shared) v1 v2 v3 v4, (Mine.hd.heap_39 w.params).In s.heap → BindsTo s fd ⟨[v1, v2, v3, v4], []⟩ [(x1, v1), (x2, v2), (x3, v3), (x4, v4)]) :
    ∀ (s : Shared) vs, (Mine.hd.heap_39 w.params).In s.heap → Has [a1, a2, a3, a4] vs → ∃ bs, HasB [(x4, a4), (x3, a3), (x2, a2), (x1, a1)] bs ∧ BindsTo s fd ⟨vs, []⟩ bs.reverse := fun s vs X hv => by
  cases hv with | cons h1 hv => ?_
  cases hv with | cons h2 hv => ?_
  cases hv with | cons h3 hv => ?_
  cases hv with | cons h4 hv => ?_
  cases hv
  exact ⟨_, (.cons h4 (.cons h3 (.cons h2 (.cons h1 HasB.nil)))), h s _ _ _ _ X⟩
theorem bind11 {fd : FuncData} {w : World} {x1 x2 x3 x4 x5 x6 x7 x8 x9 x10 x11 : Str} {a1 a2 a3 a4 a5 a6 a7 a8 a9 a10 a11 : AV} (h : ∀ (s : Shared) v1 v2 v3 v4 v5 v6 v7 v8 v9 v10 v11, (Mine.hd.heap_39 w.params).In s.heap → BindsTo s fd ⟨[v1, v2, v3, v4, v5, v6, v7, v8, v9, v10, v11], []⟩ [(x1, v1), (x2, v2), (x3, v3), (x4, v4), (x5, v5), (x6, v6), (x7, v7), (x8, v8), (x9, v9), (x10, v10), (x11, v11)]) :
    ∀ (s : Shared) vs, (Mine.hd.heap_39 w.params).In s.heap → Has [a1, a2, a3, a4, a5, a6, a7, a8, a9, a10, a11] vs → ∃ bs, HasB [(x11, a11), (x10, a10), (x9, a9), (x8, a8), (x7, a7), (x6, a6), (x5, a5), (x4, a4), (x3, a3), (x2, a2), (x1, a1)] bs ∧ BindsTo s fd ⟨vs, []⟩ bs.reverse := fun s vs X hv => by
  cases hv with | cons h1 hv => ?_
  cases hv with | cons h2 hv => ?_
  cases hv with | cons h3 hv => ?_
  cases hv with | cons h4 hv => ?_
  cases hv with | cons h5 hv => ?_
  cases hv with | cons h6 hv => ?_
  cases hv with | cons h7 hv => ?_
  cases hv with | cons h8 hv => ?_
  cases hv with | cons h9 hv => ?_
  cases hv with | cons h10 hv => ?_
  cases hv with | cons h11 hv => ?_
  cases hv
  exact ⟨_, (.cons h11 (.cons h10 (.cons h9 (.cons h8 (.cons h7 (.cons h6 (.cons h5 (.cons h4 (.cons h3 (.cons h2 (.cons h1 HasB.nil))))))))))), h s _ _ _ _ _ _ _ _ _ _ _ X⟩
theorem bind0 {fd : FuncData} {w : World} (h : ∀ s : Shared, (Mine.hd.heap_39 w.params).In s.heap → BindsTo s fd ⟨[], []⟩ []) :
    ∀ (s : Shared) vs, (Mine.hd.heap_39 w.params).In s.heap → Has [] vs → ∃ bs, HasB [] bs ∧ BindsTo s fd ⟨vs, []⟩ bs.reverse := fun s vs X hv => by
  cases hv
  exact ⟨[], .nil, h s X⟩
theorem mhead {α : Type} {a : α} {l : List α} : a ∈ a :: l := List.Mem.head _
theorem mtail {α : Type} {a b : α} {l : List α} (h : a ∈ l) : a ∈ b :: l := List.Mem.tail _ h
theorem or_ff {a b : Bool} (h : a = false) (k : b = false) : (a || b) = false := by rw [h, k]; rfl
theorem or_t1 {a b : Bool} (h : a = true) : (a || b) = true := by rw [h]; rfl
theorem or_t2 {a b : Bool} (h : b = true) : (a || b) = true := by rw [h]; cases a <;> rfl
theorem and_tt {a b : Bool} (h : a = true) (k : b = true) : (a && b) = true := by rw [h, k]; rfl
theorem and_f1 {a b : Bool} (h : a = false) : (a && b) = false := by rw [h]; rfl
theorem and_f2 {a b : Bool} (h : b = false) : (a && b) = false := by rw [h]; cases a <;> rfl
theorem ne_ff {a b : Int} (h : a = b) : (a != b) = false := by rw [h]; simp
theorem ne_tt {a b : Int} (h : ¬ a = b) : (a != b) = true := by simpa using h
theorem not_tt {a : Bool} (h : a = false) : (!a) = true := by rw [h]; rfl
theorem not_ff {a : Bool} (h : a = true) : (!a) = false := by rw [h]; rfl
theorem oct_mk {p q r : Prop} (a : p) (b : q) (c : r) : (p ∧ q) ∧ r := ⟨⟨a, b⟩, c⟩
theorem sub_cons {α : Type} {p : α → Prop} {a : α} {l : List α} (h : p a) (k : ∀ x ∈ l, p x) : ∀ x ∈ a :: l, p x := List.forall_mem_cons.mpr ⟨h, k⟩
section
variable {w : World} {sc : Scope} {d : Nat} {m : Vars} {n : ALed} {R : Flow → Vars → ALed → Prop} {rest : List Stmt} {bs : List (List Stmt)}
theorem Ws.iteT {t a b pos v} (h : Tst ⟨w, sc, d, m, n⟩ t v) (hv : v = true) (k : Ws ⟨w, sc, d, m, n⟩ (a :: rest :: bs) R) : Ws ⟨w, sc, d, m, n⟩ ((.If t a b pos :: rest) :: bs) R := Ws.ite h (fun _ => k) fun e => by rw [hv] at e; cases e
theorem Ws.iteF {t a b pos v} (h : Tst ⟨w, sc, d, m, n⟩ t v) (hv : v = false) (k : Ws ⟨w, sc, d, m, n⟩ (b :: rest :: bs) R) : Ws ⟨w, sc, d, m, n⟩ ((.If t a b pos :: rest) :: bs) R := Ws.ite h (fun e => by rw [hv] at e; cases e) fun _ => k
theorem Ws.iteD {t a b pos} {p : Prop} [Decidable p] (h : Tst ⟨w, sc, d, m, n⟩ t (decide p)) (h1 : p → Ws ⟨w, sc, d, m, n⟩ (a :: rest :: bs) R) (h2 : ¬ p → Ws ⟨w, sc, d, m, n⟩ (b :: rest :: bs) R) : Ws ⟨w, sc, d, m, n⟩ ((.If t a b pos :: rest) :: bs) R :=
  Ws.ite h (fun e => h1 (of_decide_eq_true e)) fun e => h2 (of_decide_eq_false e)
theorem EvK.ofE {e a} {P : AV → ALed → Prop} (h : Ev ⟨w, sc, d, m, n⟩ e a) (k : P a n) : EvK ⟨w, sc, d, m, n⟩ e P := EvK.of h k
theorem Op2.of {f : Value → Value → Sem Value} {a b r : AV} {P : AV → ALed → Prop} (h : Op w n f a b r) (k : P r n) : Op2 w n f a b P := fun c sc ok m va vb ha hb => (h c sc ok m va vb ha hb).mono fun _ _ _ ⟨e1, r', hr, e2, e3⟩ => ⟨e1, r', hr, e2 ▸ e3 ▸ k⟩
theorem EvKs.ofE {es as} {P : List AV → ALed → Prop} (h : Evs ⟨w, sc, d, m, n⟩ es as) (k : P as n) : EvKs ⟨w, sc, d, m, n⟩ es P := EvKs.of h k
end

theorem len_w16 {k : Int} : (w16 k).length ≤ 2 := Nat.le_refl _
theorem len_w32 {k : Int} : (w32 k).length ≤ 4 := Nat.le_refl _
theorem need_fn {w : World} {n : ALed} {b : By} {at' size : Int} (h0 : 0 ≤ at') (h1 : at' + size ≤ b.length) (hb : b.length ≤ 1000) :
    CallK w 1 n (.ref 86) [.bytes b, .int at', .int size] fun a n' => a = .none ∧ n' = n := by
  (refine' CallK.fn [(Str.ofString "size", .int size), (Str.ofString "at", .int at'), (Str.ofString "octets", .bytes b)] ?o ?c ?b ?s ?_; (case o => k_is); (case c => k_is); (case b => exact bind3 fun s9 _ _ _ X9 => by first | exact BindsTo.of_eq rfl | exact binds_K X9 rfl (by k_is) rfl rfl rfl); (case s => kernel_rfl!))
  repeat' tm_at "ws"
  exact ⟨rfl, rfl⟩
theorem put16_fn {w : World} {n : ALed} {k : Int} (h0 : 0 ≤ k) (h1 : k < 2 ^ 40) : CallK w 1 n (.ref 72) [.int k] fun a n' => a = .bytes (w16 k) ∧ n' = n := by
  (refine' CallK.fn [(Str.ofString "n", .int k)] ?o ?c ?b ?s ?_; (case o => k_is); (case c => k_is); (case b => exact bind1 fun s9 _ X9 => by first | exact BindsTo.of_eq rfl | exact binds_K X9 rfl (by k_is) rfl rfl rfl); (case s => kernel_rfl!))
  repeat' tm_at "ws"
  exact ⟨rfl, rfl⟩
theorem put32_fn {w : World} {n : ALed} {k : Int} (h0 : 0 ≤ k) (h1 : k < 2 ^ 40) : CallK w 2 n (.ref 79) [.int k] fun a n' => a = .bytes (w32 k) ∧ n' = n := by
  (refine' CallK.fn [(Str.ofString "n", .int k)] ?o ?c ?b ?s ?_; (case o => k_is); (case c => k_is); (case b => exact bind1 fun s9 _ X9 => by first | exact BindsTo.of_eq rfl | exact binds_K X9 rfl (by k_is) rfl rfl rfl); (case s => kernel_rfl!))
  repeat' tm_at "ws"
  exact ⟨rfl, rfl⟩
theorem get16_fn {w : World} {n : ALed} {b : By} {i : Int} (h0 : 0 ≤ i) (h1 : i + 2 ≤ b.length) (hb : b.length ≤ 1000) : CallK w 2 n (.ref 93) [.bytes b, .int i] fun a n' => a = .int (g16 b i) ∧ n' = n := by
  (refine' CallK.fn [(Str.ofString "at", .int i), (Str.ofString "octets", .bytes b)] ?o ?c ?b ?s ?_; (case o => k_is); (case c => k_is); (case b => exact bind2 fun s9 _ _ X9 => by first | exact BindsTo.of_eq rfl | exact binds_K X9 rfl (by k_is) rfl rfl rfl); (case s => kernel_rfl!))
  have := oct_nonneg b i; have := oct_lt b i; have := oct_nonneg b (i + 1); have := oct_lt b (i + 1)
  repeat' tm_at "ws"
  exact ⟨rfl, rfl⟩
theorem get32_fn {w : World} {n : ALed} {b : By} {i : Int} (h0 : 0 ≤ i) (h1 : i + 4 ≤ b.length) (hb : b.length ≤ 1000) : CallK w 3 n (.ref 100) [.bytes b, .int i] fun a n' => a = .int (g32 b i) ∧ n' = n := by
  (refine' CallK.fn [(Str.ofString "at", .int i), (Str.ofString "octets", .bytes b)] ?o ?c ?b ?s ?_; (case o => k_is); (case c => k_is); (case b => exact bind2 fun s9 _ _ X9 => by first | exact BindsTo.of_eq rfl | exact binds_K X9 rfl (by k_is) rfl rfl rfl); (case s => kernel_rfl!))
  have := g16_nonneg b i; have := g16_lt b i; have := g16_nonneg b (i + 2); have := g16_lt b (i + 2)
  repeat' tm_at "ws"
  exact ⟨rfl, rfl⟩

/-- one entry is taken out -/
inductive Take (p : Addr × AO) : ALed → ALed → Prop
  | head {r} : Take p (p :: r) r
  | tail {q r r'} : Take p r r' → Take p (q :: r) (q :: r')
theorem Real.take {P : Params} {p : Addr × AO} {n n0 : ALed} (h : Take p n n0) : ∀ {l : Led}, Real P n l → ∃ own l0, l.Perm (own ++ l0) ∧ Real P [p] own ∧ Real P n0 l0 := by
  induction h with
  | head =>
    intro l h
    rw [← List.singleton_append] at h
    obtain ⟨own, l0, rfl, h1, h2⟩ := h.split
    exact ⟨own, l0, List.Perm.refl _, h1, h2⟩
  | @tail q r r' k ih =>
    intro l h
    rw [← List.singleton_append] at h
    obtain ⟨a, b, rfl, h1, h2⟩ := h.split
    obtain ⟨own, l0, hp, h3, h4⟩ := ih h2
    refine ⟨own, a ++ l0, ?_, h3, by rw [← List.singleton_append]; exact h1.app h4⟩
    exact (List.Perm.append_left a hp).trans (by rw [← List.append_assoc, ← List.append_assoc]; exact List.Perm.append_right _ List.perm_append_comm)
theorem Real.untake {P : Params} {p : Addr × AO} {n n0 : ALed} (h : Take p n n0) : ∀ {l : Led}, Real P (p :: n0) l → ∃ l', l'.Perm l ∧ Real P n l' := by
  induction h with
  | head => intro l h; exact ⟨l, List.Perm.refl _, h⟩
  | @tail q r r' k ih =>
    intro l h
    rw [← List.singleton_append] at h
    obtain ⟨a, b, rfl, h1, h2⟩ := h.split
    rw [← List.singleton_append] at h2
    obtain ⟨x, y, rfl, h3, h4⟩ := h2.split
    obtain ⟨l', hp, h5⟩ := ih (l := a ++ y) (by rw [← List.singleton_append]; exact h1.app h4)
    refine ⟨x ++ l', ?_, by rw [← List.singleton_append]; exact h3.app h5⟩
    exact (List.Perm.append_left x hp).trans (by rw [← List.append_assoc, ← List.append_assoc]; exact List.Perm.append_right _ List.perm_append_comm)
theorem Frm.of_perm {w c m n n'} {s : Shared} (h : ∀ {l : Led}, Real w.params n l → ∃ l', l'.Perm l ∧ Real w.params n' l') (F : Frm w c m n s) : Frm w c m n' s := by
  obtain ⟨mv, l, F', V, N, R, D⟩ := F
  obtain ⟨l', hp, R'⟩ := h R
  have hp2 : (l' ++ c.hid).Perm (l ++ c.hid) := List.Perm.append_right _ hp
  exact ⟨mv, l', F', V, fun p hp' => N p (hp2.mem_iff.mp hp'), R', ((hp2.map _).nodup_iff).mpr D⟩
inductive Is (M : Vars) (N : ALed) : Vars → ALed → Prop
  | mk : Is M N M N
theorem Is.of {M M' : Vars} {N : ALed} (e : M' = M) : Is M N M' N := by rw [e]; exact .mk
theorem eq_to {α : Type} {a b : α} {C : α → Prop} (h : a = b) (k : C b) : C a := by rw [h]; exact k
/-- what holds behind a loop's turn -/
noncomputable def TurnR (Inv : Nat → Vars → ALed → Prop) (i : Nat) (ow : ALed) (R : Flow → Vars → ALed → Prop) : Flow → Vars → ALed → Prop := fun f m n => match f with
  | .ret v => R (.ret v) m n
  | .brk => False
  | _ => ∃ m2 n2, Inv (i + 1) m2 n2 ∧ (∀ p ∈ m2, p ∈ m) ∧ (n2 ++ ow).Sublist n
noncomputable def WhileR (Inv : Nat → Vars → ALed → Prop) (k : Nat) (R : Flow → Vars → ALed → Prop) : Flow → Vars → ALed → Prop := fun f m n => match f with
  | .ret v => R (.ret v) m n
  | .brk => False
  | _ => ∃ k' m2 n2, Inv k' m2 n2 ∧ k' < k ∧ (∀ p ∈ m2, p ∈ m) ∧ n2.Sublist n
/-- the invariant holds at the start, some facts forgotten -/
noncomputable def Start (Inv : Nat → Vars → ALed → Prop) (k : Nat) (m : Vars) (n : ALed) : Prop := ∃ m' n', Inv k m' n' ∧ (∀ p ∈ m', p ∈ m) ∧ n'.Sublist n
/-- a target takes a value -/
noncomputable def AsgK (S : St) (tg : Expr) (a : AV) (P : Vars → Prop) : Prop :=
  ∀ c : Cx, c.OkM S.w S.sc S.d → ∀ v, a.has v → Tr S.w c S.m S.n (assign tg c.env v) fun _ m' n' => n' = S.n ∧ P m'
noncomputable def noSet (e : Expr) : Bool := !(Nat.beq e.ctorIdx 7)
/-- a for over the items of a list or a tuple -/
noncomputable def ForK (S : St) (a : AV) (tg : Expr) (body : List Stmt) (bs : List (List Stmt)) (R : Flow → Vars → ALed → Prop) : Prop :=
  ∀ c : Cx, c.OkM S.w S.sc S.d → ∀ v, a.has v → ∀ (s : Shared) (Q : Flow → Shared → Prop), Frm S.w c S.m S.n s →
    (∀ f m' n' h' tk', Cont S.w c bs R f m' n' → Frm S.w c m' n' { s with heap := h', toks := tk' } → Q f { s with heap := h', toks := tk' }) →
    wpAny (model PR S.w) c.A (pyIter v) (fun it s₂ => TurnsAt PR S.w c.A c.h₀ c.env tg body Q (fun _ _ => False) it s₂) (fun _ _ => False) s
section
variable {w : World} {sc : Scope} {d : Nat} {m : Vars} {n : ALed} {R : Flow → Vars → ALed → Prop} {rest : List Stmt} {bs : List (List Stmt)}
theorem Ws.untake {p n0} (h : Take p n n0) (k : Ws ⟨w, sc, d, m, n⟩ (rest :: bs) R) : Ws ⟨w, sc, d, m, p :: n0⟩ (rest :: bs) R := fun c ok =>
  Tr.weak (fun _ F => F.of_perm (Real.untake h)) (k c ok)
theorem Ws.while {test body pos k} (Inv : Nat → Vars → ALed → Prop) (h0 : Start Inv k m n)
    (turn : ∀ k m1 n1, Inv k m1 n1 → ∃ b, Tst ⟨w, sc, d, m1, n1⟩ test b ∧ (b = true → Ws ⟨w, sc, d, m1, n1⟩ [body] (WhileR Inv k R)) ∧ (b = false → Ws ⟨w, sc, d, m1, n1⟩ (rest :: bs) R)) :
    Ws ⟨w, sc, d, m, n⟩ ((.While test body [] pos :: rest) :: bs) R := Ws.cons fun c ok s Q E F q => by
  refine wpAny_mono (E := fun _ _ => False) ?_ (fun _ _ h => h) (fun _ _ h => h.elim)
  obtain ⟨m', n', h0, hm', hn'⟩ := h0
  obtain ⟨mv, l, F', V, N, Rl, D⟩ := F.sub hm' hn'
  refine While_inv2 (fun k mv nw => ∃ m1 n1 news, nw = news ++ c.hid ∧ Inv k m1 n1 ∧ VarsAt m1 (c.lv mv) ∧ Real w.params n1 news ∧ ((news ++ c.hid).map (·.1)).Nodup) F' N ⟨m', n', _, rfl, h0, V, Rl, D⟩ ?_ PassesOwn.never
  rintro k mv1 _ h1 tk1 F1 N1 ⟨m1, n1, l1, rfl, hI, V1, R1, D1⟩
  obtain ⟨b, ht, kt, kf⟩ := turn k m1 n1 hI
  refine ht.run ok.ok ⟨mv1, l1, F1, V1, N1, R1, D1⟩ fun h2 tk2 F2 => ?_
  cases b with
  | false => exact q .next m1 n1 h2 tk2 (kf rfl c ok) F2
  | true =>
    refine kt rfl c ok _ _ _ F2 fun f m3 n3 h3 tk3 hr F3 => ?_
    have up : (∃ k' m2 n2, Inv k' m2 n2 ∧ k' < k ∧ (∀ p ∈ m2, p ∈ m3) ∧ n2.Sublist n3) → ∃ h' tk m₂ news₂ n', ({ s with heap := h3, toks := tk3 } : Shared) = { s with heap := h', toks := tk } ∧ Fr c.h₀ c.L h' m₂ ∧ News c.h₀ c.L h' news₂ ∧ n' < k ∧ ∃ m1 n1 news, news₂ = news ++ c.hid ∧ Inv n' m1 n1 ∧ VarsAt m1 (c.lv m₂) ∧ Real w.params n1 news ∧ ((news ++ c.hid).map (·.1)).Nodup := by
      rintro ⟨k', m4, n4, hI4, hk, hm, hn⟩
      obtain ⟨mv4, l4, F4, V4, N4, R4, D4⟩ := F3.sub hm hn
      exact ⟨h3, tk3, mv4, _, k', rfl, F4, N4, hk, m4, n4, l4, rfl, hI4, V4, R4, D4⟩
    cases f with
    | next => exact up hr
    | cont => exact up hr
    | brk => exact hr.elim
    | ret v => exact q (.ret v) m3 n3 h3 tk3 (Cont.off (fun e => nomatch e) hr) F3
theorem AsgK.name {x xp a m0} {P : Vars → Prop} (hp : Pick x m m0) (hk : keyOut x m0 = true) (k : kindIs sc x .local = true) (h : P ((x, a) :: m0)) : AsgK ⟨w, sc, d, m, n⟩ (.Name x xp) a P := fun c ok v ha s Q E F q =>
  PyProof.Rows.assign_Name (Tr.store (P := fun _ m' n' => n' = n ∧ P m') ok ha hp hk k ⟨rfl, h⟩ s Q E F q)
theorem Ws.for {tg iter body pos} (h : EvK ⟨w, sc, d, m, n⟩ iter fun a n1 => ForK ⟨w, sc, d, m, n1⟩ a tg body (rest :: bs) R) (hs : noSet iter = true) : Ws ⟨w, sc, d, m, n⟩ ((.For tg iter body [] pos :: rest) :: bs) R := Ws.cons fun c ok s Q E F q => by
  refine wpAny_mono (E := fun _ _ => False) ?_ (fun _ _ h => h) (fun _ _ h => h.elim)
  obtain ⟨mv, l, F', r⟩ := id F
  have hen : c.env.locals = c.L := by rw [ok.main]
  refine For_turns (env := c.env) (by rw [hen]; exact F') ?_ (fun x => by cases iter <;> first | rfl | cases hs) PassesOwn.never
  exact h.run ok.ok F fun v n1 h1 tk1 a ha hf F1 => hf c ok v ha _ Q F1 fun f m2 n2 h2 tk2 p F2 => q f m2 n2 h2 tk2 p F2
noncomputable abbrev raws (l : Led) : ALed := l.map fun p => (p.1, .raw p.2)
theorem rawsReal {P : Params} (l : Led) : Real P (raws l) l := by
  induction l with
  | nil => exact .nil
  | cons p r ih => exact .raw ih
theorem rawsEq {P : Params} {l : Led} : ∀ {l' : Led}, Real P (raws l) l' → l' = l := by
  induction l with
  | nil => intro l' h; cases h; rfl
  | cons p r ih => intro l' h; cases h with | raw h => exact congrArg _ (ih h)
theorem permH {α : Type} (a b c : List α) : (a ++ b ++ c).Perm (b ++ (a ++ c)) := by
  rw [← List.append_assoc]; exact List.Perm.append_right c List.perm_append_comm
/-- the rest of the items -/
theorem ItemsRest.inv {c : Cx} (ok : c.OkM w sc d) {tg : Expr} {body : List Stmt} {Q : Flow → Shared → Prop} {s : Shared} {I : Addr} {cls : String} {kp : Led} {vs : List AV} {its : List Itm} (Inv : Nat → Vars → ALed → Prop)
    (hlen : its.length = vs.length) (hat : ∀ (i : Nat) (it : Itm), its[i]? = some it → ∃ a : AV, vs[i]? = some a ∧ ∀ u h, it.Is u h → a.has u) (hks : ∀ l1, SubL kp (kp ++ l1))
    (turn : ∀ i a m1 n1 ow, vs[i]? = some a → Inv i m1 n1 → AsgK ⟨w, sc, d, m1, n1 ++ ow⟩ tg a fun m2 => Ws ⟨w, sc, d, m2, n1 ++ ow⟩ [body] (TurnR Inv i ow R))
    (ret : ∀ v m' n' h' tk', R (.ret v) m' n' → Frm w c m' n' { s with heap := h', toks := tk' } → Q (.ret v) { s with heap := h', toks := tk' })
    (done : ∀ m1 n1 h tk, Inv vs.length m1 n1 → Frm w c m1 (n1 ++ raws kp) { s with heap := h, toks := tk } → Q .next { s with heap := h, toks := tk }) :
    ∀ (j i : Nat) (mv : Str → Option Value) (l1 : Led) (m1 : Vars) (n1 : ALed), i + j = vs.length → Inv i m1 n1 → VarsAt m1 (c.lv mv) → Real w.params n1 l1 → ((kp ++ (l1 ++ c.hid)).map (·.1)).Nodup → (∀ p ∈ kp ++ (l1 ++ c.hid), p.1 ≠ I) →
      ItemsRest PR w c.A (fun _ _ => False) c.h₀ c.env tg body Q s [(I, cls)] kp (its.drop i) mv (kp ++ (l1 ++ c.hid)) := by
  have hL : c.env.locals = c.L := by rw [ok.main]
  intro j
  induction j with
  | zero =>
    intro i mv l1 m1 n1 hi hI hV hR hD hN
    have e : its.drop i = [] := List.drop_eq_nil_of_le (by (first | lia | omega))
    have e2 : i = vs.length := by (first | lia | omega)
    subst e2
    rw [e]
    refine ItemsRest.zero fun h tk F N => ?_
    rw [hL] at F N
    have hp := permH l1 kp c.hid
    exact done m1 n1 h tk hI ⟨mv, l1 ++ kp, F, hV, fun p hp' => N p (hp.mem_iff.mp hp'), hR.app (rawsReal kp), ((hp.map _).nodup_iff).mpr hD⟩
  | succ j ih =>
    intro i mv l1 m1 n1 hi hI hV hR hD hN
    have hlt : i < its.length := by (first | lia | omega)
    rw [List.drop_eq_getElem_cons hlt]
    obtain ⟨a, ha, hau⟩ := hat i its[i] (List.getElem?_eq_getElem hlt)
    intro u h tk hu F
    refine AllObj.cons fun o ho' => AllObj.nil fun N => ?_
    have F1 := F
    have N1 := N
    rw [hL] at F1 N1
    have hp : (l1 ++ (I, o) :: kp ++ c.hid).Perm ((I, o) :: (kp ++ (l1 ++ c.hid))) := permH l1 ((I, o) :: kp) c.hid
    have F0 : Frm w c m1 (n1 ++ raws ((I, o) :: kp)) { s with heap := h, toks := tk } := by
      refine ⟨mv, l1 ++ (I, o) :: kp, F1, hV, fun p hp' => N1 p (hp.mem_iff.mp hp'), hR.app (rawsReal _), ?_⟩
      refine ((hp.map _).nodup_iff).mpr ?_
      rw [List.map_cons, List.nodup_cons]
      refine ⟨fun hm => ?_, hD⟩
      obtain ⟨p, hp', e⟩ := List.mem_map.mp hm
      exact hN p hp' e
    refine turn i a m1 n1 _ ha hI c ok u (hau u h hu) _ _ _ F0 fun _ m2 n2 h2 tk2 ⟨e1, hb⟩ F2 => ?_
    cases e1
    refine hb c ok _ _ _ F2 fun f m3 n3 h3 tk3 hr F3 => ?_
    have up : (∃ m2 n2, Inv (i + 1) m2 n2 ∧ (∀ p ∈ m2, p ∈ m3) ∧ (n2 ++ raws ((I, o) :: kp)).Sublist n3) →
        UnrEndW c.h₀ c.env.locals { s with heap := h, toks := tk } [(I, o)] (fun m' n' => SubL kp n' ∧ ItemsRest PR w c.A (fun _ _ => False) c.h₀ c.env tg body Q s [(I, cls)] kp (its.drop (i + 1)) m' n') { s with heap := h3, toks := tk3 } := by
      rintro ⟨m4, n4, hI4, hm4, hn4⟩
      obtain ⟨mv4, l4, F4, V4, N4, R4, D4⟩ := F3.sub hm4 hn4
      obtain ⟨l5, l6, rfl, R5, R6⟩ := R4.split
      obtain rfl := rawsEq R6
      have hp4 : (l5 ++ (I, o) :: kp ++ c.hid).Perm ((I, o) :: (kp ++ (l5 ++ c.hid))) := permH l5 ((I, o) :: kp) c.hid
      have D5 := ((hp4.map _).nodup_iff).mp D4
      rw [List.map_cons, List.nodup_cons] at D5
      have hI5 : ∀ p ∈ kp ++ (l5 ++ c.hid), p.1 ≠ I := fun p hp e => D5.1 (List.mem_map.mpr ⟨p, hp, e⟩)
      rw [hL]
      exact ⟨h3, tk3, mv4, kp ++ (l5 ++ c.hid), rfl, F4, fun p hp' => N4 p (hp4.mem_iff.mpr hp'), fun p hp q hq => by rw [List.mem_singleton.mp hq]; exact hI5 p hp,
        hks _, ih (i + 1) mv4 l5 m4 n4 (by (first | lia | omega)) hI4 V4 R5 D5.2 hI5⟩
    cases f with
    | next => exact up hr
    | cont => exact up hr
    | brk => exact hr.elim
    | ret v => exact ret v m3 n3 h3 tk3 hr F3
theorem Has.at {vs : List AV} {us : List Value} (h : Has vs us) : ∀ (i : Nat) (it : Itm), (us.map Itm.val)[i]? = some it → ∃ a : AV, vs[i]? = some a ∧ ∀ u h, it.Is u h → a.has u := by
  induction h with
  | nil => intro i it e; cases i <;> cases e
  | @cons a v as vs ha hb ih =>
    intro i it e
    cases i with
    | zero => cases e; exact ⟨a, rfl, fun u h hu => by have : u = _ := hu; rw [this]; exact ha⟩
    | succ i => exact ih i it e
theorem raw_lst {P : Params} {ax : Addr} {vs : List AV} {us : List Value} {k : Nat} {n1 : ALed} (hv : Has vs us) {l : Led} (h : Real P (n1 ++ [(ax, .raw (listOf us.toArray k))]) l) : ∃ l', l'.Perm l ∧ Real P ((ax, .lst vs) :: n1) l' := by
  obtain ⟨l1, l2, rfl, h1, h2⟩ := h.split
  obtain rfl := h2.one
  exact ⟨_ :: l1, (List.perm_append_singleton _ _).symm, .lst hv h1⟩
theorem raw_tup {P : Params} {ax : Addr} {vs : List AV} {us : List Value} {n1 : ALed} (hv : Has vs us) {l : Led} (h : Real P (n1 ++ [(ax, .raw (tupObj us))]) l) : ∃ l', l'.Perm l ∧ Real P ((ax, .tup vs) :: n1) l' := by
  obtain ⟨l1, l2, rfl, h1, h2⟩ := h.split
  obtain rfl := h2.one
  exact ⟨_ :: l1, (List.perm_append_singleton _ _).symm, .tup hv h1⟩
theorem Frm.taken {c : Cx} {s : Shared} {p : Addr × AO} {n0 n' : ALed} {m' : Vars} (F : Frm w c m n s) (h : Take p n n0) (hm : ∀ p ∈ m', p ∈ m) (hn : n'.Sublist n0) : ∃ mv own l0, Fr c.h₀ c.L s.heap mv ∧ VarsAt m' (c.lv mv) ∧ News c.h₀ c.L s.heap (own ++ (l0 ++ c.hid)) ∧ Real w.params [p] own ∧ Real w.params n' l0 ∧ ((own ++ (l0 ++ c.hid)).map (·.1)).Nodup := by
  obtain ⟨mv, l, F', V, N, Rl, D⟩ := F
  obtain ⟨own, l0, hp, h1, h2⟩ := Rl.take h
  obtain ⟨l1, hs, R1⟩ := h2.sub hn
  have hp2 : (l ++ c.hid).Perm (own ++ (l0 ++ c.hid)) := by rw [← List.append_assoc]; exact List.Perm.append_right _ hp
  have hs2 : (own ++ (l1 ++ c.hid)).Sublist (own ++ (l0 ++ c.hid)) := List.Sublist.append_left (List.Sublist.append_right hs _) own
  exact ⟨mv, own, l1, F', fun p hp => V p (hm p hp), fun p hp' => N p (hp2.mem_iff.mpr (hs2.subset hp')), h1, R1, (hs2.map _).nodup (((hp2.map _).nodup_iff).mp D)⟩
theorem ForK.lst {ax vs n0 tg body} (Inv : Nat → Vars → ALed → Prop) (ht : Take (ax, .lst vs) n n0) (h0 : Start Inv 0 m n0)
    (turn : ∀ i a m1 n1 ow, vs[i]? = some a → Inv i m1 n1 → AsgK ⟨w, sc, d, m1, n1 ++ ow⟩ tg a fun m2 => Ws ⟨w, sc, d, m2, n1 ++ ow⟩ [body] (TurnR Inv i ow R))
    (done : ∀ m1 n1, Inv vs.length m1 n1 → Ws ⟨w, sc, d, m1, (ax, .lst vs) :: n1⟩ (rest :: bs) R) : ForK ⟨w, sc, d, m, n⟩ (.ref ax) tg body (rest :: bs) R := fun c ok v hv s Q F q => by
  obtain rfl : v = .ref ax := hv
  obtain ⟨m', n', h0, hm', hn'⟩ := h0
  obtain ⟨mv, own, l0, F', V, N, h1, h2, D⟩ := F.taken ht hm' hn'
  obtain ⟨us, k, rfl, ha⟩ := h1.one
  have hL : c.env.locals = c.L := by rw [ok.main]
  refine iter_listTurns (env := c.env) (lo := listOf us.toArray k) (n := k) (vs := us) rfl (by rw [hL]; exact F') (by rw [hL]; exact N) (.head _) rfl rfl fun I hI => ?_
  have := Mine.ItemsRest.inv (cls := "list_iterator") (I := I) (s := s) (Q := Q) (kp := [(ax, listOf us.toArray k)]) ok Inv (by rw [List.length_map]; exact ha.length) ha.at (fun _ => ⟨.head _, trivial⟩) turn (fun v m' n' h' tk' hr F2 => q (.ret v) m' n' h' tk' (Cont.off (fun e => nomatch e) hr) F2)
    (fun m1 n1 h tk hI F2 => q .next m1 _ h tk (done m1 n1 hI c ok) (F2.of_perm (raw_lst ha))) vs.length 0 mv l0 m' n' (by (first | lia | omega)) h0 V h2 D fun p hp => Nat.ne_of_lt (hI p hp)
  rw [List.drop_zero] at this
  exact this
theorem ForK.tup {ax vs n0 tg body} (Inv : Nat → Vars → ALed → Prop) (ht : Take (ax, .tup vs) n n0) (h0 : Start Inv 0 m n0)
    (turn : ∀ i a m1 n1 ow, vs[i]? = some a → Inv i m1 n1 → AsgK ⟨w, sc, d, m1, n1 ++ ow⟩ tg a fun m2 => Ws ⟨w, sc, d, m2, n1 ++ ow⟩ [body] (TurnR Inv i ow R))
    (done : ∀ m1 n1, Inv vs.length m1 n1 → Ws ⟨w, sc, d, m1, (ax, .tup vs) :: n1⟩ (rest :: bs) R) : ForK ⟨w, sc, d, m, n⟩ (.ref ax) tg body (rest :: bs) R := fun c ok v hv s Q F q => by
  obtain rfl : v = .ref ax := hv
  obtain ⟨m', n', h0, hm', hn'⟩ := h0
  obtain ⟨mv, own, l0, F', V, N, h1, h2, D⟩ := F.taken ht hm' hn'
  obtain ⟨us, rfl, ha⟩ := h1.one
  have hL : c.env.locals = c.L := by rw [ok.main]
  refine iter_tupTurns (env := c.env) (lo := tupObj us) (n := 0) (vs := us) rfl (by rw [hL]; exact F') (by rw [hL]; exact N) (.head _) rfl rfl fun I hI => ?_
  have := Mine.ItemsRest.inv (cls := "tuple_iterator") (I := I) (s := s) (Q := Q) (kp := [(ax, tupObj us)]) ok Inv (by rw [List.length_map]; exact ha.length) ha.at (fun _ => ⟨.head _, trivial⟩) turn (fun v m' n' h' tk' hr F2 => q (.ret v) m' n' h' tk' (Cont.off (fun e => nomatch e) hr) F2)
    (fun m1 n1 h tk hI F2 => q .next m1 _ h tk (done m1 n1 hI c ok) (F2.of_perm (raw_tup ha))) vs.length 0 mv l0 m' n' (by (first | lia | omega)) h0 V h2 D fun p hp => Nat.ne_of_lt (hI p hp)
  rw [List.drop_zero] at this
  exact this
/-- the ints of a range call's arguments -/
inductive RangeOf : List AV → Int → Int → Int → Prop
  | one (b : Int) : RangeOf [.int b] 0 b 1
  | two (a b : Int) : RangeOf [.int a, .int b] a b 1
  | three (a b c : Int) : RangeOf [.int a, .int b, .int c] a b c
theorem range_new {as : List AV} {a b st : Int} (h : RangeOf as a b st) (hs : 0 < st ∧ st ≤ 8) (hab : 0 ≤ a ∧ 0 ≤ b ∧ b ≤ 1000000) :
    CallK w d n (.type "range") as fun v n' => ∃ r t u v', v = .ref r ∧ n' = (r, AO.raw { cls := .type "range", dict := Option.none, data := .fields #[.int a t, .int b u, .int st v'], slots := #[] }) :: n := by
  refine RangeOf.casesOn (motive := fun as a b st _ => 0 < st ∧ st ≤ 8 → CallK w d n (.type "range") as fun v n' => ∃ r t u v', v = .ref r ∧ n' = (r, AO.raw { cls := .type "range", dict := Option.none, data := .fields #[.int a t, .int b u, .int st v'], slots := #[] }) :: n) h (fun b _ => ?_) (fun a b _ => ?_) (fun a b st hs => ?_) hs
  · exact CallK.mk1 fun c sc ok m v ⟨t, e⟩ s Q E F q => e ▸ call_range_1 (q _ _ _ _ (.ref _) rfl ⟨_, _, _, _, rfl, rfl⟩ (F.push rfl fun l R => .raw R))
  · exact CallK.mk2 fun c sc ok m v u ⟨t, e⟩ ⟨t2, e2⟩ s Q E F q => e ▸ e2 ▸ call_range_2 (q _ _ _ _ (.ref _) rfl ⟨_, _, _, _, rfl, rfl⟩ (F.push rfl fun l R => .raw R))
  · intro c sc ok m us hv s Q E F q
    cases hv with | cons h1 hv => ?_
    obtain ⟨u, v, rfl, ⟨t2, rfl⟩, ⟨t3, rfl⟩⟩ := hv.two
    obtain ⟨t, rfl⟩ := h1
    exact call_range_3 (by (first | lia | omega)) (q _ _ _ _ _ ⟨rfl, .ref _, rfl, _, _, _, _, rfl, rfl⟩ (F.push rfl fun l R => .raw R)) (Or.inl (PyProof.noPylong_of_log2 (by
      have : st.natAbs < 2 ^ 62 := by (first | lia | omega)
      have h3 := (Nat.log2_lt (n := st.natAbs) (k := 62) (by (first | lia | omega))).mpr this
      (first | lia | omega))))
theorem letGo_name {A : Around} {x : Str} {p : Pos} {I : Addr} {v : Value} {Q : Unit → Shared → Prop} {E} {s : Shared} (h : Q () s) : wpAny (model PR w) A (letOwnedTupleGo (.Name x p) (.ref I) v) Q E s := by
  unfold letOwnedTupleGo
  exact wpAny_pure h
theorem size_one {a b : Int} {n : Nat} (h : b - a = n) : Builtin.Range.rangeSize a b 1 = n := by
  unfold Builtin.Range.rangeSize
  rw [if_pos (by decide)]
  split <;> (first | lia | omega)
theorem size_two {a b : Int} {n : Nat} (h : b - a = 2 * n) : Builtin.Range.rangeSize a b 2 = n := by
  unfold Builtin.Range.rangeSize
  rw [if_pos (by decide)]
  split <;> (first | lia | omega)
theorem small_of {a b c : Int} (ha : 0 ≤ a) (ha2 : a ≤ 1000000) (hb : 0 ≤ b) (hb2 : b ≤ 1000000) (hc : 0 < c) (hc2 : c ≤ 8) (n : Nat) (hn : Builtin.Range.rangeSize a b c = n) (hn2 : n ≤ 1000000) : Builtin.Range.small a b c = true := by
  have f : ∀ i : Int, 0 ≤ i → i ≤ 2000000 → Builtin.Range.rangeFitsLong i = true := by
    intro i h1 h2
    unfold Builtin.Range.rangeFitsLong
    simp only [Bool.and_eq_true, decide_eq_true_eq]
    (first | lia | omega)
  unfold Builtin.Range.small
  simp only [hn, f a ha (by (first | lia | omega)), f b hb (by (first | lia | omega)), f c (by (first | lia | omega)) (by (first | lia | omega)), f n (by (first | lia | omega)) (by (first | lia | omega)), hc, if_true, f (b + (c - 1)) (by (first | lia | omega)) (by (first | lia | omega)), Bool.or_true, Bool.and_true]
/-- a for over a range of k turns -/
theorem Ws.forR {x xp fe es body pos p as a b st} {k : Nat} (Inv : Nat → Vars → ALed → Prop) (hf : Ev ⟨w, sc, d, m, n⟩ fe (.v (.type "range"))) (hs : Evs ⟨w, sc, d, m, n⟩ es as) (hr : RangeOf as a b st) (hst : 0 < st ∧ st ≤ 8)
    (hab : 0 ≤ a ∧ a ≤ b ∧ b ≤ 1000000) (hsz : Builtin.Range.rangeSize a b st = k) (hk2 : k ≤ 1000000) (hp : es.all plainE = true) (hq : plainC fe = true) (h0 : Start Inv 0 m n)
    (turn : ∀ (i : Nat) m1 n1 ow, i < k → Inv i m1 n1 → AsgK ⟨w, sc, d, m1, n1 ++ ow⟩ (.Name x xp) (.int (a + (i : Int) * st)) fun m2 => Ws ⟨w, sc, d, m2, n1 ++ ow⟩ [body] (TurnR Inv i ow R))
    (done : ∀ m1 n1, Inv k m1 n1 → Ws ⟨w, sc, d, m1, n1⟩ (rest :: bs) R) : Ws ⟨w, sc, d, m, n⟩ ((.For (.Name x xp) (.Call fe es [] p) body [] pos :: rest) :: bs) R := Ws.cons fun c ok s Q E F q => by
  refine wpAny_mono (E := fun _ _ => False) ?_ (fun _ _ h => h) (fun _ _ h => h.elim)
  obtain ⟨mv, l, F', r⟩ := id F
  have hL : c.env.locals = c.L := by rw [ok.main]
  refine For_turns (env := c.env) (by rw [hL]; exact F') ?_ (fun x => rfl) PassesOwn.never
  refine Call_ (hf.runV ok.ok F fun h1 tk1 F1 => ?_) (by cases fe <;> first | rfl | cases hq)
  refine callEnd (P := fun v n' => ∃ r t u v', v = .ref r ∧ n' = (r, AO.raw { cls := .type "range", dict := Option.none, data := .fields #[.int a t, .int b u, .int st v'], slots := #[] }) :: n) ok.ok [] .nil rfl hp (EvKs.of hs (range_new hr hst (by (first | lia | omega)))) F1 fun v m2 n2 h2 tk2 ⟨e1, av, ha, r, t, u, v', e2, e3⟩ F2 => ?_
  rw [e1, e3] at F2
  rw [e2] at ha
  rw [show v = .ref r from ha]
  clear ha e1 e2 e3
  obtain ⟨m', n', h0, hm', hn'⟩ := h0
  obtain ⟨mv2, own, l0, F2', V2, N2, R1, R2, D2⟩ := F2.taken Take.head hm' hn'
  obtain rfl := R1.one
  refine wpAny_pyIter_range (N2 _ (.head _)).1 (small_of hab.1 (by (first | lia | omega)) (by (first | lia | omega)) hab.2.2 hst.1 hst.2 k hsz hk2) ?_
  rw [hsz]
  have W : Walks PR w c.A h2.objs.size [h2.objs.size] [h2.objs.size] k (fun i v => i < k ∧ ∃ t, v = .int (a + (i : Nat) * st) t) (fun i h => IsRangeIter h h2.objs.size (a + (i : Nat) * st) ((k : Int) - (i : Nat)) st) := (Walks.range rfl _ a st k).bound
  have hN : ∀ p ∈ l0 ++ c.hid, p.1 < h2.objs.size := fun p hp => Heap.lt_size (N2 p (.tail _ hp)).1
  have D3 := D2
  rw [List.singleton_append, List.map_cons, List.nodup_cons] at D3
  have := Mine.ItemsRest.inv (cls := "range_iterator") (I := h2.objs.size) (s := { s with heap := h2, toks := tk2 }) (Q := Q) (kp := []) (vs := (List.range k).map fun (i : Nat) => AV.int (a + (i : Int) * st)) (its := (List.range k).map fun (i : Nat) => Itm.tok fun t => .int (a + (i : Int) * st) t) ok Inv (by simp)
    (fun i it hit => by
      rw [List.getElem?_map] at hit ⊢
      obtain ⟨i', hi', rfl⟩ := Option.map_eq_some_iff.mp hit
      exact ⟨.int (a + (i' : Int) * st), by rw [hi']; rfl, fun u h hu => hu⟩) (fun _ => trivial)
    (fun i av m1 n1 ow hi hI => by
      rw [List.getElem?_map] at hi
      obtain ⟨i', hi', rfl⟩ := Option.map_eq_some_iff.mp hi
      obtain ⟨hlt, rfl⟩ := List.getElem?_eq_some_iff.mp hi'
      simp only [List.length_range] at hlt
      simp only [List.getElem_range]
      exact turn i m1 n1 ow hlt hI)
    (fun v m' n' h' tk' hr F2 => q (.ret v) m' n' h' tk' (Cont.off (fun e => nomatch e) hr) F2)
    (fun m1 n1 h tk hI F3 => q .next m1 n1 h tk (done m1 n1 (by simpa using hI) c ok) (by simpa using F3)) k 0 mv2 l0 m' n' (by simp) h0 V2 R2 D3.2 fun p hp => Nat.ne_of_lt (hN p hp)
  rw [List.drop_zero] at this
  refine ktu_core (tk0 := tk2) (keep := []) (ws := [(h2.objs.size, "range_iterator")]) (KTurns.ofWalks W fun i v s Q E st q => letGo_name q) (by simp) (fun i v h hp => ⟨.tok fun t => .int (a + (i : Int) * st) t, ?_, hp.2⟩) (fun i h st => ⟨[(h2.objs.size, _)], ⟨⟨rfl, rfl⟩, trivial⟩, fun p hp => by rw [List.mem_singleton.mp hp]; exact st⟩) (fun b hb => ?_) (fun b hb => hb) (fun b hb => .inl hb) ?_ (fun p hp hI => ?_) ?_ (by rw [hL]; exact F2'.push _) (fun p hp => by rw [hL]; exact ⟨Heap.get?_push_of_some _ (N2 p (.tail _ hp)).1, (N2 p (.tail _ hp)).2⟩) trivial this
  · rw [List.getElem?_map, List.getElem?_range hp.1]; rfl
  · obtain rfl : b = h2.objs.size := List.mem_singleton.mp hb
    exact ⟨List.mem_cons_self .., next_is_new F2'⟩
  · rw [hL]; intro hm
    exact absurd F2'.ns.lt ((List.mem_singleton.mp hm) ▸ Nat.lt_irrefl _)
  · exact absurd (hN p hp) ((List.mem_singleton.mp hI) ▸ Nat.lt_irrefl _)
  · show IsRangeIter _ _ _ _ _
    simpa using Heap.get?_push_size _ rfl
end

noncomputable def foldN (n : Int) : Int := if n = 0 then 0 else (n - 1) % 65535 + 1
theorem foldN_step {x : Int} (h : 65535 < x) : foldN (x % 65536 + x / 65536) = foldN x := by
  unfold foldN; split <;> split <;> (first | lia | omega)
theorem foldN_small {x : Int} (h : 0 ≤ x) (h1 : ¬ 65535 < x) : foldN x = x := by
  unfold foldN; split <;> (first | lia | omega)

inductive FoldI (k : Int) (n : ALed) : Nat → Vars → ALed → Prop
  | mk (x : Int) : 0 ≤ x → x < 2 ^ 40 → foldN x = foldN k → FoldI k n x.toNat [(Str.ofString "total", .int x)] n
theorem fold_fn {w : World} {n : ALed} {k : Int} (h0 : 0 ≤ k) (h1 : k < 2 ^ 40) : CallK w 1 n (.ref 107) [.int k] fun a n' => a = .int (foldN k) ∧ n' = n := by
  (refine' CallK.fn [(Str.ofString "total", .int k)] ?o ?c ?b ?s ?_; (case o => k_is); (case c => k_is); (case b => exact bind1 fun s9 _ X9 => by first | exact BindsTo.of_eq rfl | exact binds_K X9 rfl (by k_is) rfl rfl rfl); (case s => kernel_rfl!))
  refine Ws.while (FoldI k n) (k := k.toNat) ⟨_, _, .mk k h0 h1 rfl, fun p h => h, List.Sublist.refl _⟩ ?_
  refine fun j m1 n1 h9 => FoldI.casesOn h9 fun x hx0 hx1 hf => ?_
  refine ⟨_, by tm_at "tst", fun hb => ?_, fun hb => ?_⟩
  · have hb := of_decide_eq_true hb
    repeat' tm_at "ws"
    exact ⟨_, _, _, .mk (x % 65536 + x / 65536) (by (first | lia | omega)) (by (first | lia | omega)) ((foldN_step hb).trans hf), by (first | lia | omega), fun p h => h, List.Sublist.refl _⟩
  · have hb := of_decide_eq_false hb
    repeat' tm_at "ws"
    exact ⟨by rw [← hf, foldN_small hx0 (by (first | lia | omega))], rfl⟩
/-- the sum of the first k pairs of octets -/
noncomputable def pairs (x : By) : Nat → Int
  | 0 => 0
  | k + 1 => pairs x k + (oct x (2 * k) * 256 + oct x (2 * k + 1))
theorem pairs_bound (x : By) (k : Nat) : 0 ≤ pairs x k ∧ pairs x k ≤ 65535 * k := by
  induction k with
  | zero => simp [pairs]
  | succ k ih =>
    have := oct_nonneg x (2 * k); have := oct_nonneg x (2 * k + 1); have := oct_lt x (2 * k); have := oct_lt x (2 * k + 1)
    unfold pairs; (first | lia | omega)

theorem ones_sum_fn {w : World} {n : ALed} {b : By} {kk : Nat} (hb : b.length = 2 * kk) (hkk : kk ≤ 100) : CallK w 2 n (.ref 115) [.bytes b, .int 0] fun a n' => a = .int (foldN (pairs b kk)) ∧ n' = n := by
  (refine' CallK.fn [(Str.ofString "begin", .int 0), (Str.ofString "octets", .bytes b)] ?o ?c ?b ?s ?_; (case o => k_is); (case c => k_is); (case b => exact bind2 fun s9 _ _ X9 => by first | exact BindsTo.of_eq rfl | exact binds_K X9 rfl (by k_is) rfl rfl rfl); (case s => kernel_rfl!))
  have hz : b.length ≤ 200 := by (first | lia | omega)
  repeat tm_at "ws"
  refine' Ws.forR (k := kk) (fun i => Is [(Str.ofString "total", .int (pairs b i)), (Str.ofString "even", .int ((b.length : Int) - (b.length : Int) % 2)), (Str.ofString "octets", .bytes b)] n) ?f1 ?s1 ?r1 ?st1 ?ab1 (size_two ?sz1) ?k1 rfl rfl ⟨_, _, .of (M' := [(Str.ofString "total", .int 0), (Str.ofString "even", .int ((b.length : Int) - (b.length : Int) % 2)), (Str.ofString "octets", .bytes b)]) rfl, ?h1, List.Sublist.refl _⟩ ?turn ?done
  case f1 => tm_at "ev"
  case s1 => tm_at "evs"
  case r1 => constructor
  case st1 => decide
  case ab1 => (first | lia | omega)
  case sz1 => (first | lia | omega)
  case k1 => (first | lia | omega)
  case h1 => tm_at "sub"
  case turn =>
    refine fun i m1 n1 ow hi h9 => Is.casesOn h9 ?_
    refine' AsgK.name ?p1 ?q1 ?u1 ?_
    case p1 => tm_at "pick"
    case q1 => kernel_rfl!
    case u1 => kernel_rfl!
    have := oct_nonneg b (0 + (i : Int) * 2); have := oct_lt b (0 + (i : Int) * 2); have := oct_nonneg b (0 + (i : Int) * 2 + 1); have := oct_lt b (0 + (i : Int) * 2 + 1)
    repeat tm_at "ws"
    refine ⟨_, _, .of (M' := [(Str.ofString "total", .int (pairs b i + (oct b (0 + (i : Int) * 2) * 256 + oct b (0 + (i : Int) * 2 + 1)))), (Str.ofString "even", .int ((b.length : Int) - (b.length : Int) % 2)), (Str.ofString "octets", .bytes b)]) ?_, by tm_at "sub", List.Sublist.refl _⟩
    rw [show 0 + (i : Int) * 2 = 2 * (i : Int) by (first | lia | omega)]; rfl
  case done =>
    refine fun m1 n1 h9 => Is.casesOn h9 ?_
    have hpb := pairs_bound b kk
    repeat tm_at "ws"
    exact ⟨rfl, rfl⟩
/-- the one's complement sum that a head carries -/
noncomputable def sumOf (b : By) (kk : Nat) : Int := 65535 - foldN (pairs b kk)
theorem sumOf_range (b : By) (k : Nat) : 0 ≤ sumOf b k ∧ sumOf b k ≤ 65535 := by
  have := pairs_bound b k
  unfold sumOf foldN
  split <;> (first | lia | omega)
theorem checksum_fn {w : World} {n : ALed} {b : By} {kk : Nat} (hb : b.length = 2 * kk) (hkk : kk ≤ 100) : CallK w 3 n (.ref 123) [.bytes b] fun a n' => a = .int (sumOf b kk) ∧ n' = n := by
  refine' CallK.fn [(Str.ofString "begin", .int 0), (Str.ofString "octets", .bytes b)] ?o ?c ?b ?s ?_
  case o => k_is
  case c => k_is
  case b =>
    intro s9 vs9 X9 hv
    cases hv with | cons h1 hv => ?_
    cases hv
    exact ⟨[(Str.ofString "begin", .int 0 321), (Str.ofString "octets", _)], .cons ⟨_, rfl⟩ (.cons h1 .nil), binds_K X9 rfl (by k_is) rfl rfl rfl⟩
  case s => kernel_rfl!
  repeat tm_at "ws"
  exact ⟨rfl, rfl⟩
noncomputable def adjN (c o n : Int) : Int := 65535 - foldN (65535 - c + (65535 - o) + n)
theorem foldN_range {x : Int} (h : 0 ≤ x) : 0 ≤ foldN x ∧ foldN x ≤ 65535 := by unfold foldN; split <;> (first | lia | omega)
theorem adjN_range {c o k : Int} (h2 : c ≤ 65535) (h4 : o ≤ 65535) (h5 : 0 ≤ k) : 0 ≤ adjN c o k ∧ adjN c o k ≤ 65535 := by
  have := foldN_range (x := 65535 - c + (65535 - o) + k) (by (first | lia | omega))
  unfold adjN; (first | lia | omega)
theorem adjusted_fn {w : World} {n : ALed} {c o k : Int} (h1 : 0 ≤ c) (h2 : c ≤ 65535) (h3 : 0 ≤ o) (h4 : o ≤ 65535) (h5 : 0 ≤ k) (h6 : k ≤ 65535) : CallK w 2 n (.ref 130) [.int c, .int o, .int k] fun a n' => a = .int (adjN c o k) ∧ n' = n := by
  (refine' CallK.fn [(Str.ofString "new", .int k), (Str.ofString "old", .int o), (Str.ofString "check", .int c)] ?o ?c ?b ?s ?_; (case o => k_is); (case c => k_is); (case b => exact bind3 fun s9 _ _ _ X9 => by first | exact BindsTo.of_eq rfl | exact binds_K X9 rfl (by k_is) rfl rfl rfl); (case s => kernel_rfl!))
  repeat tm_at "ws"
  exact ⟨rfl, rfl⟩
theorem is_within_fn {w : World} {n : ALed} {k b : Int} (h1 : 0 ≤ k) (h2 : k < 2 ^ b.toNat) (h3 : 0 ≤ b) (h4 : b ≤ 64) : CallK w 1 n (.ref 194) [.int k, .int b] fun a n' => a = .bool true ∧ n' = n := by
  (refine' CallK.fn [(Str.ofString "bits", .int b), (Str.ofString "number", .int k)] ?o ?c ?b ?s ?_; (case o => k_is); (case c => k_is); (case b => exact bind2 fun s9 _ _ X9 => by first | exact BindsTo.of_eq rfl | exact binds_K X9 rfl (by k_is) rfl rfl rfl); (case s => kernel_rfl!))
  repeat tm_at "ws"
  exact ⟨by rw [decide_eq_true h1, decide_eq_true h2]; rfl, rfl⟩

/-- a fact on x is laid: in its place, or behind all -/
inductive PutF (x : Str) (a : AV) : Vars → Vars → Prop
  | nil : PutF x a [] [(x, a)]
  | hit {o r} : PutF x a ((x, o) :: r) ((x, a) :: r)
  | skip {p r r'} : (p.1 == x) = false → PutF x a r r' → PutF x a (p :: r) (p :: r')
theorem isStr_str (y x : Str) (t : Tok) : (Value.str y t).isStr x = (y == x) := rfl
theorem keyOut_mem {y : Str} {m : Vars} (h : ∀ p ∈ m, p.1 ≠ y) : keyOut y m = true := by
  induction m with
  | nil => rfl
  | cons q r ih => exact Bool.and_eq_true_iff.mpr ⟨by simpa using h q (.head _), ih fun p hp => h p (.tail _ hp)⟩
theorem PutF.keys {x : Str} {a : AV} {fs fs' : Vars} (h : PutF x a fs fs') : ∀ p ∈ fs', p.1 = x ∨ ∃ q ∈ fs, p.1 = q.1 := by
  induction h with
  | nil => exact List.forall_mem_cons.mpr ⟨.inl rfl, fun _ h => nomatch h⟩
  | hit => exact List.forall_mem_cons.mpr ⟨.inl rfl, fun p hp => .inr ⟨p, .tail _ hp, rfl⟩⟩
  | skip _ _ ih => exact List.forall_mem_cons.mpr ⟨.inr ⟨_, .head _, rfl⟩, fun p hp => (ih p hp).imp_right fun h => h.imp fun q h => ⟨.tail _ h.1, h.2⟩⟩
theorem PutF.nodup {x : Str} {a : AV} {fs fs' : Vars} (h : PutF x a fs fs') (k : nodupK fs = true) : nodupK fs' = true := by
  induction h with
  | nil => rfl
  | hit => exact k
  | @skip p r r' hx h ih =>
    have k := Bool.and_eq_true_iff.mp k
    refine Bool.and_eq_true_iff.mpr ⟨keyOut_mem fun q hq e => ?_, ih k.2⟩
    rcases h.keys q hq with h1 | ⟨y, hy, e2⟩
    · rw [← e, h1] at hx; simp at hx
    · exact keyOut_of k.1 y hy (e2.symm.trans e)
theorem PutF.flds {P : Params} {x : Str} {a : AV} {v : Value} {t : Tok} (ha : a.has v) {fs fs' : Vars} (h : PutF x a fs fs') : ∀ {es}, Flds P fs es → Flds P fs' (putL x (PyData.keyHash P x) (.str x t) v es) := by
  induction h with
  | nil => intro es k; cases k; exact .cons ha .nil
  | hit =>
    intro es k
    cases k with | cons h hr => ?_
    unfold putL
    rw [isStr_str, if_pos (by simp)]
    exact .cons ha hr
  | skip hx _ ih =>
    intro es k
    cases k with | cons h hr => ?_
    unfold putL
    rw [isStr_str, if_neg (by simpa using hx)]
    exact .cons h (ih hr)
theorem Flds.length {P : Params} {fs : Vars} {es} (h : Flds P fs es) : es.length = fs.length := by
  induction h with
  | nil => rfl
  | cons _ _ ih => exact congrArg (· + 1) ih
theorem Flds.noRef {P : Params} {fs : Vars} {es} (h : Flds P fs es) : es.any (·.refKey) = false := by
  induction h with
  | nil => rfl
  | cons _ _ ih => rw [List.any_cons, ih]; rfl
theorem Flds.find {P : Params} {x : Str} {a : AV} {fs : Vars} {es} (h : Flds P fs es) (k : nodupK fs = true) (hm : (x, a) ∈ fs) : ∃ e, es.find? (·.key.isStr x) = some e ∧ a.has e.val := by
  induction h with
  | nil => cases hm
  | @cons y b v t fs es ha hr ih =>
    have k := Bool.and_eq_true_iff.mp k
    rcases List.mem_cons.mp hm with e | h
    · cases e; exact ⟨_, by rw [List.find?_cons_of_pos (by simp [isStr_str])], ha⟩
    · have : (y == x) = false := by have := keyOut_of k.1 _ h; simpa using Ne.symm this
      rw [List.find?_cons_of_neg (by simp [isStr_str, this])]
      exact ih k.2 h
theorem Flds.findNone {P : Params} {x : Str} {fs : Vars} {es} (h : Flds P fs es) (k : keyOut x fs = true) : es.find? (·.key.isStr x) = none := by
  induction h with
  | nil => rfl
  | cons ha hr ih =>
    have k := Bool.and_eq_true_iff.mp k
    rw [List.find?_cons_of_neg (by rw [isStr_str]; simpa using k.1)]
    exact ih k.2
theorem Flds.get {P : Params} {x : Str} {a : AV} {fs : Vars} {es} (h : Flds P fs es) (k : nodupK fs = true) (hm : (x, a) ∈ fs) : ∃ v, getL x es = some (some v) ∧ a.has v := by
  obtain ⟨e, he, ha⟩ := h.find k hm
  exact ⟨e.val, by unfold getL; rw [he], ha⟩
theorem Flds.getNone {P : Params} {x : Str} {fs : Vars} {es} (h : Flds P fs es) (k : keyOut x fs = true) : getL x es = some none := by
  unfold getL; rw [h.findNone k, h.noRef]; rfl
theorem Flds.getSome {P : Params} {x : Str} {fs : Vars} {es} (h : Flds P fs es) : (getL x es).isSome = true := by
  unfold getL; rw [h.noRef]; cases es.find? (·.key.isStr x) <;> rfl
/-- one entry becomes another -/
inductive UpdA (x : Addr) (o o' : AO) : ALed → ALed → Prop
  | head {r} : UpdA x o o' ((x, o) :: r) ((x, o') :: r)
  | tail {p r r'} : UpdA x o o' r r' → UpdA x o o' (p :: r) (p :: r')
theorem UpdA.split {x : Addr} {o o' : AO} {n n' : ALed} (h : UpdA x o o' n n') : ∃ n1 n2, n = n1 ++ (x, o) :: n2 ∧ n' = n1 ++ (x, o') :: n2 := by
  induction h with
  | head => exact ⟨[], _, rfl, rfl⟩
  | @tail p _ _ _ ih =>
    obtain ⟨n1, n2, rfl, rfl⟩ := ih
    exact ⟨p :: n1, n2, rfl, rfl⟩
theorem UpdA.mem {x : Addr} {o o' : AO} {n n' : ALed} (h : UpdA x o o' n n') : (x, o) ∈ n := by
  obtain ⟨n1, n2, rfl, rfl⟩ := h.split
  exact List.mem_append_right _ (.head _)
theorem UpdA.app {x : Addr} {o o' : AO} {r r' : ALed} (h : UpdA x o o' r r') (a : ALed) : UpdA x o o' (a ++ r) (a ++ r') := by
  induction a with
  | nil => exact h
  | cons _ _ ih => exact .tail ih
theorem Upd.of {d : Addr} {o o' : Obj} {post pre : Led} (h : ((pre ++ (d, o) :: post).map (·.1)).Nodup) : Upd d o o' (pre ++ (d, o) :: post) (pre ++ (d, o') :: post) := by
  induction pre with
  | nil =>
    rw [List.nil_append, List.map_cons, List.nodup_cons] at h
    exact .head fun p hp e => h.1 (List.mem_map.mpr ⟨p, hp, e⟩)
  | cons q pre ih =>
    rw [List.cons_append, List.map_cons, List.nodup_cons] at h
    exact .tail (fun e => h.1 (List.mem_map.mpr ⟨(d, o), List.mem_append_right _ (.head _), e.symm⟩)) (ih h.2)
/-- one object of a ledger is changed -/
theorem chg {h₀ h h' : Heap} {L : Addr} {mv : Str → Option Value} {X1 X2 : Led} {a : Addr} {o o' : Obj} (F : Fr h₀ L h mv) (N : News h₀ L h (X1 ++ (a, o) :: X2)) (D : ((X1 ++ (a, o) :: X2).map (·.1)).Nodup)
    (e : ∀ b x, b ≠ a → h.get? b = some x → h'.get? b = some x) (ho : h'.get? a = some o') : Fr h₀ L h' mv ∧ News h₀ L h' (X1 ++ (a, o') :: X2) ∧ ((X1 ++ (a, o') :: X2).map (·.1)).Nodup := by
  have hm := N (a, o) (List.mem_append_right _ (.head _))
  rw [List.map_append, List.map_cons] at D ⊢
  have D' := (List.perm_middle.nodup_iff).mp D
  rw [List.nodup_cons, ← List.map_append] at D'
  refine ⟨⟨F.ns.at' fun x hx => e _ _ (Ne.symm hm.2.1) hx, fun b x hx => e b x (fun q => by rw [q] at hx; rw [hm.2.2] at hx; cases hx) (F.keep b x hx), F.above⟩, fun p hp => ?_, D⟩
  have go : p ∈ X1 ++ X2 → h'.get? p.1 = some p.2 ∧ p.1 ≠ L ∧ h₀.get? p.1 = none := fun hp => by
    have hp2 := N p (by rcases List.mem_append.mp hp with h | h; exact List.mem_append_left _ h; exact List.mem_append_right _ (.tail _ h))
    exact ⟨e _ _ (fun q => D'.1 (List.mem_map.mpr ⟨p, hp, q⟩)) hp2.1, hp2.2⟩
  rcases List.mem_append.mp hp with hp | hp
  · exact go (List.mem_append_left _ hp)
  rcases List.mem_cons.mp hp with rfl | hp
  · exact ⟨ho, hm.2⟩
  · exact go (List.mem_append_right _ hp)
/-- a list of the ledger and what it may become -/
theorem Frm.updL {w : World} {c : Cx} {m : Vars} {n n2 : ALed} {s : Shared} {l : Addr} {vs vs' : List AV} (hu : UpdA l (.lst vs) (.lst vs') n n2) (F : Frm w c m n s) : ∃ us k, Has vs us ∧ s.heap.get? l = some (listOf us.toArray k) ∧
    ∀ us' k' h' tk', Has vs' us' → (∀ b x, b ≠ l → s.heap.get? b = some x → h'.get? b = some x) → h'.get? l = some (listOf us'.toArray k') → Frm w c m n2 { s with heap := h', toks := tk' } := by
  obtain ⟨a1, a2, rfl, rfl⟩ := hu.split
  obtain ⟨mv, ld, F', V, N, Rl, D⟩ := F
  obtain ⟨l1, l2, rfl, R1, R2⟩ := Rl.split
  obtain ⟨_, news, rfl, ⟨us, k, rfl, hh⟩, R3⟩ := R2.ent
  rw [List.append_assoc] at N D
  refine ⟨us, k, hh, (N (l, _) (List.mem_append_right _ (.head _))).1, fun us' k' h' tk' hh' e ho => ?_⟩
  obtain ⟨F3, N3, D3⟩ := chg F' N D e ho
  exact ⟨mv, l1 ++ (l, listOf us'.toArray k') :: news, F3, V, by rw [List.append_assoc]; exact N3, R1.app (.lst hh' R3), by rw [List.append_assoc]; exact D3⟩
/-- an object as it is -/
theorem Frm.updR {w : World} {c : Cx} {m : Vars} {a1 a2 : ALed} {s : Shared} {l : Addr} {o : Obj} (F : Frm w c m (a1 ++ (l, .raw o) :: a2) s) : ∃ mv l1 l2, Real w.params (a1 ++ (l, .raw o) :: a2) (l1 ++ (l, o) :: l2) ∧ Fr c.h₀ c.L s.heap mv ∧ News c.h₀ c.L s.heap (l1 ++ (l, o) :: (l2 ++ c.hid)) ∧ ((l1 ++ (l, o) :: (l2 ++ c.hid)).map (·.1)).Nodup ∧
    ∀ o' h' tk', Fr c.h₀ c.L h' mv → News c.h₀ c.L h' (l1 ++ (l, o') :: (l2 ++ c.hid)) → ((l1 ++ (l, o') :: (l2 ++ c.hid)).map (·.1)).Nodup → Frm w c m (a1 ++ (l, .raw o') :: a2) { s with heap := h', toks := tk' } := by
  obtain ⟨mv, ld, F', V, N, Rl, D⟩ := F
  obtain ⟨l1, l2, rfl, R1, R2⟩ := id Rl.split
  obtain ⟨_, l2, rfl, rfl, R3⟩ := R2.ent
  rw [List.append_assoc] at N D
  exact ⟨mv, l1, l2, Rl, F', N, D, fun o' h' tk' F3 N3 D3 => ⟨mv, l1 ++ (l, o') :: _, F3, V, by rw [List.append_assoc]; exact N3, R1.app (.raw R3), by rw [List.append_assoc]; exact D3⟩⟩
noncomputable def getsOk (w : World) (C : Addr) (x : Str) : Bool := plainGet (Mine.hd.heap_39 w.params) C x && hasDictIn (Mine.hd.heap_39 w.params) C && (match findIn (Mine.hd.heap_39 w.params) (.ref C) x with | some a => noGet (Mine.hd.heap_39 w.params) a | none => false)
noncomputable def setsOk (w : World) (C : Addr) (x : Str) : Bool := (findIn (Mine.hd.heap_39 w.params) (.ref C) "__setattr__" == some (some (.builtin "object.__setattr__"))) && plainOver (Mine.hd.heap_39 w.params) C && (takerIn (Mine.hd.heap_39 w.params) C x == some none) && hasDictIn (Mine.hd.heap_39 w.params) C
noncomputable def methOk (w : World) (C : Addr) (x : Str) (f : Addr) : Bool := plainGet (Mine.hd.heap_39 w.params) C x && isFn (Mine.hd.heap_39 w.params) (.ref f) && keepIn (Mine.hd.heap_39 w.params) (.ref f)
noncomputable def handed : AV → Bool
  | .v v => handedIn v
  | _ => true
theorem handed_of {a : AV} {v : Value} (h : handed a = true) (ha : a.has v) : handedIn v = true := by
  cases a with
  | int i => obtain ⟨t, rfl⟩ := ha; rfl
  | bytes b => obtain ⟨t, rfl⟩ := ha; rfl
  | v x => cases ha; exact h
/-- no call of super -/
noncomputable def plainB (e : Expr) : Bool := !(Nat.beq e.ctorIdx 16)
section
variable {w : World} {sc : Scope} {d : Nat} {m : Vars} {n : ALed} {R : Flow → Vars → ALed → Prop} {rest : List Stmt} {bs : List (List Stmt)} {P : AV → ALed → Prop}
theorem Frm.instAt {c : Cx} {s : Shared} {x C : Addr} {fs : Vars} (F : Frm w c m n s) (h : (x, .inst C fs) ∈ n) : ∃ mv news dx es k, Fr c.h₀ c.L s.heap mv ∧ News c.h₀ c.L s.heap (news ++ c.hid) ∧ InstAt s.heap x (instObj C dx) C (some (dictOf es k)) ∧ Flds w.params fs es ∧ nodupK fs = true := by
  obtain ⟨mv, ld, F', V, N, R, D⟩ := F
  obtain ⟨l1, own, l2, rfl, h1⟩ := R.at h
  obtain ⟨dx, es, k, rfl, z, a⟩ := h1.one
  exact ⟨mv, _, dx, es, k, F', N, InstAt.of_news N (List.mem_append_left _ (List.mem_append_right _ (List.mem_append_left _ (.head _)))) (List.mem_append_left _ (List.mem_append_right _ (List.mem_append_left _ (.tail _ (.head _))))), a, z⟩
theorem Ev.attr {o x C fs attr a pos} (ho : Ev ⟨w, sc, d, m, n⟩ o (.ref x)) (hx : (x, .inst C fs) ∈ n) (ha : (attr, a) ∈ fs) (hk : getsOk w C attr = true) (hh : handed a = true) (hp : plainB o = true) : Ev ⟨w, sc, d, m, n⟩ (.Attribute o attr pos) a := fun c ok s Q E F q =>
  Attribute_any_ (ho.runV ok F fun h1 tk1 F1 => by
    obtain ⟨mv, news, dx, es, k, F', N, I, hf, nd⟩ := F1.instAt hx
    obtain ⟨v, hv, hav⟩ := hf.get nd ha
    have hk := Bool.and_eq_true_iff.mp hk
    have h3 := hk.2
    have hk := Bool.and_eq_true_iff.mp hk.1
    split at h3
    · rename_i at' he
      exact get_own F' ok.inK I hk.1 hk.2 he h3 hv (handed_of hh hav) (q v m n h1 (tk1 + 1) (evPut hav) F1)
    · cases h3) (by cases o <;> first | rfl | cases hp)
/-- an attribute is stored -/
inductive SetK (w : World) (sc : Scope) (d : Nat) (m : Vars) (n : ALed) (o : Expr) (attr : Str) (a : AV) (K : ALed → Prop) : Prop
  | mk {x C fs fs' n2} (ho : Ev ⟨w, sc, d, m, n⟩ o (.ref x)) (hu : UpdA x (.inst C fs) (.inst C fs') n n2) (hf : PutF attr a fs fs') (hk : setsOk w C attr = true) (hz : Nat.ble fs'.length 1000 = true) (k : K n2)
theorem Ws.setA {o attr p' value pos} (h : EvK ⟨w, sc, d, m, n⟩ value fun a n1 => SetK w sc d m n1 o attr a fun n2 => Ws ⟨w, sc, d, m, n2⟩ (rest :: bs) R) (hn : noComp value = true) : Ws ⟨w, sc, d, m, n⟩ ((.Assign [.Attribute o attr p'] value pos :: rest) :: bs) R := Ws.cons fun c ok s Q E F q =>
  plainObj_wpAny_Assign_Attribute (h.run ok.ok F fun v n1 h1 tk1 a ha hs F1 => by
    obtain ⟨ho, hu, hf, hk, hz, k⟩ := hs
    rename_i x C fs fs' n2
    refine ho.runV ok.ok F1 fun h2 tk2 F2 => ?_
    obtain ⟨a1, a2, rfl, rfl⟩ := hu.split
    obtain ⟨mv, l, F', V, N, Rl, D⟩ := F2
    obtain ⟨l1, l2, rfl, R1, R2⟩ := Rl.split
    obtain ⟨_, news, rfl, ⟨dx, es, kk, rfl, z, hfl⟩, R3⟩ := R2.ent
    have hk1 := Bool.and_eq_true_iff.mp hk
    have hk2 := Bool.and_eq_true_iff.mp hk1.1
    have hk3 := Bool.and_eq_true_iff.mp hk2.1
    have N' : News c.h₀ c.L h2 (l1 ++ (x, instObj C dx) :: (dx, dictOf es kk) :: (news ++ c.hid)) := by have N2 := N; rw [List.append_assoc] at N2; exact N2
    have I : InstAt h2 x (instObj C dx) C (some (dictOf es kk)) := InstAt.of_news N' (List.mem_append_right _ (.head _)) (List.mem_append_right _ (.tail _ (.head _)))
    have e4 : ∀ q, l1 ++ (x, instObj C dx) :: (dx, q) :: (news ++ c.hid) = (l1 ++ [(x, instObj C dx)]) ++ (dx, q) :: (news ++ c.hid) := fun q => by simp
    rw [List.append_assoc] at D
    have D' : (((l1 ++ [(x, instObj C dx)]) ++ (dx, dictOf es kk) :: (news ++ c.hid)).map (·.1)).Nodup := by rw [← e4]; exact D
    rw [e4] at N'
    refine set_dict (s := { s with heap := h2, toks := tk2 }) F' ok.ok.inK N' I rfl (beq_iff_eq.mp hk3.1) hk3.2 (beq_iff_eq.mp hk2.2) hk1.2 hfl.getSome rfl (Upd.of D') ?_ fun h' F3 N3 => ?_
    · rw [(hf.flds (t := tk2 + 1) ha hfl).length]; exact Nat.le_of_ble_eq_true hz
    · rw [← e4] at N3
      refine q .next m _ h' (tk2 + 2) (k c ok) ⟨mv, l1 ++ (x, instObj C dx) :: (dx, _) :: news, F3, V, by rw [List.append_assoc]; exact N3, R1.app (.inst (hf.nodup z) (hf.flds ha hfl) R3), ?_⟩
      rw [List.append_assoc, List.map_append]
      rw [List.map_append] at D
      exact D) (noSwap hn _ _ _)
/-- a method's call as it is written: no star, few arguments, one line -/
noncomputable def callOk (es : List Expr) (apos pos : Pos) : Bool := es.all plainE && (decide (es.length < 30) && apos.endLine == pos.line)
theorem starEach_length : ∀ (es : List Expr) (env : Env), es.all plainE = true → (starEach es env).length = es.length
  | [], _, _ => rfl
  | e :: r, env, h => by
    rw [List.all_cons, Bool.and_eq_true] at h
    rw [starEach_plain h.1, List.length_cons, List.length_cons, starEach_length r env h.2]
theorem attributeBase_plain {o : Expr} (hb : plainB o = true) (name : Str) (env : Env) (t : Sem Value) : attributeBase o name env t = t := by
  cases o <;> first | rfl | cases hb
theorem methodCall_eq {o : Expr} {name : Str} {apos pos : Pos} {args : List Expr} (hb : plainB o = true) (hc : callOk args apos pos = true) (env : Env) : ∃ pl : Sem Bool, eval (.Call (.Attribute o name apos) args [] pos) env = (do
      let ov ← eval o env
      standAt apos.atName
      let (f, first) ← holding [ov] (getMethod ov name pl)
      callWith pos f first (backTo pos (starEach args env)) []) := by
  obtain ⟨h1, h2⟩ := Bool.and_eq_true_iff.mp hc
  obtain ⟨h2, h3⟩ := Bool.and_eq_true_iff.mp h2
  have hs := star_any h1 pos env
  have hform : methodCallForm (args.length + ([] : List Keyword).length) (backTo pos (starEach args env)) (backToKw pos (keywordEach [] env)) = true := by
    unfold methodCallForm
    refine Bool.and_eq_true_iff.mpr ⟨Bool.and_eq_true_iff.mpr ⟨?_, rfl⟩, h2⟩
    rw [List.all_eq_true]
    intro x hx
    rw [List.any_eq_false] at hs
    simpa using hs x hx
  refine ⟨do return (← importBound o env).getD true, ?_⟩
  show (do
    let ov ← attributeBase o name env (eval o env)
    standAt apos.atName
    methodCall o name apos pos env ov (args.length + ([] : List Keyword).length) (backTo pos (starEach args env)) (backToKw pos (keywordEach [] env))) = _
  rw [attributeBase_plain hb]
  unfold methodCall
  rw [hform]
  unfold calleeOf methodCallPos
  simp only [if_true, Bool.not_true, Bool.false_or, h3, pure_bind]
  rfl
/-- a method of an own class is called -/
theorem EvK.meth {o x C fs attr f es apos pos} (ho : Ev ⟨w, sc, d, m, n⟩ o (.ref x)) (hx : (x, .inst C fs) ∈ n) (hi : findIn (Mine.hd.heap_39 w.params) (.ref C) attr = some (some (.ref f))) (hk : methOk w C attr f = true) (hf : keyOut attr fs = true) (hp : callOk es apos pos = true) (hb : plainB o = true)
    (h : EvKs ⟨w, sc, d, m, n⟩ es fun as n1 => CallK w d n1 (.ref f) (.ref x :: as) P) : EvK ⟨w, sc, d, m, n⟩ (.Call (.Attribute o attr apos) es [] pos) P := fun c ok s Q E F q => by
  obtain ⟨pl, he⟩ := methodCall_eq (name := attr) hb hp c.env
  have hp := (Bool.and_eq_true_iff.mp hp).1
  refine MethodCall_ (ho.runV ok F fun h1 tk1 F1 => ?_) he
  obtain ⟨mv, news, dx, es', k, F', N, I, hfl, nd⟩ := F1.instAt hx
  have hk := Bool.and_eq_true_iff.mp hk
  have hk1 := Bool.and_eq_true_iff.mp hk.1
  exact method_inst F' ok.inK I hk1.1 hi hk1.2 (hfl.getNone hf) (callEnd ok [.ref x] (.cons rfl .nil) (show mayCall w (.ref f) = true from hk.2) hp h F1 q)
theorem Ev.meth {o x C fs attr f es apos pos as a} (ho : Ev ⟨w, sc, d, m, n⟩ o (.ref x)) (hx : (x, .inst C fs) ∈ n) (hi : findIn (Mine.hd.heap_39 w.params) (.ref C) attr = some (some (.ref f))) (hk : methOk w C attr f = true) (hf : keyOut attr fs = true) (hp : callOk es apos pos = true) (hb : plainB o = true)
    (hs : Evs ⟨w, sc, d, m, n⟩ es as) (h : CallK w d n (.ref f) (.ref x :: as) fun b n' => b = a ∧ n' = n) : Ev ⟨w, sc, d, m, n⟩ (.Call (.Attribute o attr apos) es [] pos) a := EvK.meth ho hx hi hk hf hp hb (EvKs.of hs h)
/-- a method of a list -/
theorem EvK.lmeth {o l vs attr id es apos pos} (ho : Ev ⟨w, sc, d, m, n⟩ o (.ref l)) (hl : (l, .lst vs) ∈ n) (slot : Slot "list" attr id) (hty : typeOf (.builtin id) = Pure.pure (.type "method_descriptor")) (hp : callOk es apos pos = true) (hb : plainB o = true)
    (h : EvKs ⟨w, sc, d, m, n⟩ es fun as n1 => CallK w d n1 (.builtin id) (.ref l :: as) P) : EvK ⟨w, sc, d, m, n⟩ (.Call (.Attribute o attr apos) es [] pos) P := fun c ok s Q E F q => by
  obtain ⟨pl, he⟩ := methodCall_eq (name := attr) hb hp c.env
  have hp := (Bool.and_eq_true_iff.mp hp).1
  refine MethodCall_ (ho.runV ok F fun h1 tk1 F1 => ?_) he
  obtain ⟨us, k, hu, hlo⟩ := F1.lstAt hl
  exact getMethod_builtin ⟨_, hlo, rfl⟩ PySem.F.plainAttrs_list slot hty (fun a e => by cases e; exact ⟨_, hlo, rfl⟩) (callEnd ok [.ref l] (.cons rfl .nil) rfl hp h F1 q)
theorem Has.snoc {as us} {a : AV} {u : Value} (h : Has as us) (h' : a.has u) : Has (as ++ [a]) (us ++ [u]) := h.append (.cons h' .nil)
theorem CallK.append {l vs a n2} (hu : UpdA l (.lst vs) (.lst (vs ++ [a])) n n2) (hz : vs.length ≤ 100000) (hP : P .none n2) : CallK w d n (.builtin "list.append") [.ref l, a] P := CallK.mk2 fun c sc ok m v u hv ha s Q E F q => by
  obtain ⟨us, k, hh, ho, up⟩ := F.updL hu
  rw [show v = .ref l from hv]
  exact append_at (hsz := by rw [List.size_toArray, hh.length, sizeLine_eq]; (first | lia | omega)) ho fun h' hs' hD' => q .none n2 h' s.toks .none rfl hP (up (us ++ [u]) (k + 1) h' s.toks (hh.snoc ha) (fun b x hb e => hs'.extBut b x hb e) (hD'.trans (by rw [List.push_toArray])))
/-- an object of an own class is made -/
theorem CallK.cls {C f : Addr} {as : List AV} (ps : Addr → Vars)
    {name qual : Str} {params : Arguments} {body : List Stmt} {scope : Scope} {dV kV doc pm cdv ct oc : Value} {an od : Option Addr} {osl : Array (Option Value)}
    (hm : makesIn (Mine.hd.heap_39 w.params) C = true) (hi : findIn (Mine.hd.heap_39 w.params) (.ref C) "__init__" = some (some (.ref f))) (hf : isFn (Mine.hd.heap_39 w.params) (.ref f) = true)
    (ho : (Mine.hd.heap_39 w.params).lookup f = some ⟨oc, od, .func (fnOf name qual params body scope dV kV doc pm an cdv ct), osl⟩) (hcd : codeIn (Mine.hd.heap_39 w.params) cdv qual = true)
    (hbind : ∀ x s vs, (Mine.hd.heap_39 w.params).In s.heap → Has (.ref x :: as) vs → ∃ bs, HasB (ps x) bs ∧ BindsTo s (fnOf name qual params body scope dV kV doc pm an cdv ct) ⟨vs, []⟩ bs.reverse)
    (hsc : ∀ x, (goodSc scope && allLoc scope (ps x) && nodupK (ps x)) = true)
    (h : ∀ x, Ws ⟨w, scope, d, ps x, (x, .inst C []) :: n⟩ [body] (RetP fun a n' => a = .none ∧ P (.ref x) n')) : CallK w (d + 2) n (.ref C) as P := fun c sc ok m vs hv s Q E F q => by
  obtain ⟨mv, l, F', V, N, Rl, D⟩ := F
  refine call_cls F' ok.inK N hm hi hf fun x dx h' F2 N2 l1 l2 => ?_
  obtain ⟨hsc, hnd⟩ := Bool.and_eq_true_iff.mp (hsc x)
  obtain ⟨hsc, hloc⟩ := Bool.and_eq_true_iff.mp hsc
  obtain ⟨hsc, hcell⟩ := Bool.and_eq_true_iff.mp hsc
  obtain ⟨hsc, hks⟩ := Bool.and_eq_true_iff.mp hsc
  obtain ⟨hco, hgen⟩ := Bool.and_eq_true_iff.mp hsc
  obtain ⟨bs, hb, hbd⟩ := hbind x { s with heap := h' } (.ref x :: vs) (ok.inK.keeps F2.keep) (.cons rfl hv)
  have hks' : scope.kind = .function := beq_iff_eq.mp hks
  have hd1 := ok.dp
  have hd2 := ok.un
  have hum : (c.A).under (.builtin "type.__call__" ⟨.ref C :: vs, []⟩) = ktrTop (c.dp + 1) (c.un + 1) c.gd c.cn c.cs c.L c.a c.ccd c.cl c.outer := by
    have hg : (Code.builtin "type.__call__" ⟨.ref C :: vs, []⟩).guards = [] := by rfl
    have he : (Code.builtin "type.__call__" ⟨.ref C :: vs, []⟩).envs = [] := by rfl
    unfold Around.under
    rw [hg, he]
    rfl
  rw [hum]
  have D2 : (((x, instObj C dx) :: (dx, dictOf [] 0) :: (l ++ c.hid)).map (·.1)).Nodup := by
    simp only [List.map_cons, List.nodup_cons, List.mem_cons, List.mem_map, not_or, not_exists, not_and]
    exact ⟨⟨Nat.ne_of_gt l2, fun p hp => Nat.ne_of_lt (Nat.lt_trans (l1 p hp) l2)⟩, fun p hp => Nat.ne_of_lt (l1 p hp), D⟩
  refine code_def (s := { s with heap := h' }) ok.below F2 ok.inK N2 ok.top rfl rfl ok.fkind ho hcd (by show c.dp + 1 < _; (first | lia | omega)) hbd (fun y hy => allLoc_of hb hloc y (List.mem_reverse.mp hy)) (fun g L' h₁ a1 a2 a3 a4 a5 a6 => ?_) (by simpa using hco) (by simpa using hgen) hks' (fun x hx => by simpa using List.all_eq_true.mp hcell x hx)
  rw [List.reverse_reverse] at a2
  let c' : Cx := ⟨c.mean, c.mg, c.mb, c.dp + 2, c.un + 4, c.gd, qual, scope, L', f, cdv, [], c.fenv :: c.outer, ktrTop (c.dp + 1) (c.un + 1) c.gd c.cn c.cs c.L c.a c.ccd c.cl c.outer, c.base, g, envX qual scope L' f cdv [], c.hid, fun m => m⟩
  have ok' : c'.OkM w scope d := ⟨⟨a4, a5, a6, hks', rfl, hks', rfl, rfl, fun h mv x v F _ _ e => ⟨mv, F.ns, e⟩, fun h mv x v _ _ k _ => absurd (kindIs_of k).1 (noCell_of hcell), by show c.dp + 2 + d < _; (first | lia | omega), by show c.un + 4 + 8 * d + 2 < _; (first | lia | omega)⟩, rfl, fun _ _ _ _ => rfl⟩
  have hA : (ktrTop (c.dp + 1) (c.un + 1) c.gd c.cn c.cs c.L c.a c.ccd c.cl c.outer).deeper (envOf qual scope L' f cdv) = c'.A := rfl
  rw [hA]
  refine h x c' ok' _ _ _ ⟨_, (x, instObj C dx) :: (dx, dictOf [] 0) :: l, a2, hb.at hnd, a3, .inst (k := 0) rfl .nil Rl, D2⟩ fun fl m1 n1 h1 tk1 hf F1 => ?_
  have fin : ∀ (v : Value), v = .none → P (.ref x) n1 → LeaveK c.h₀ c.L mv g (InitBack x fun r s' => match r with | .ok (.ret v) => Q v s' | .ok _ => False | .error e => E e s') v { s with heap := h1, toks := tk1 } := by
    intro v ha hP
    obtain ⟨mv1, l1, G1, _, N1, R1, D1⟩ := F1
    exact ⟨L', mv1, l1 ++ c.hid, G1, N1, fun FF NN => ⟨ha, q _ m n1 h1 tk1 ⟨rfl, .ref x, rfl, hP⟩ ⟨mv, l1, FF, V, NN, R1, D1⟩⟩⟩
  cases fl with
  | ret v =>
    obtain ⟨a, ha, e, hP⟩ := hf
    cases e
    exact fin v ha hP
  | next => exact fin .none rfl hf.2
  | _ => exact hf.elim
end

/-- names take values, one after the other -/
inductive AsgsK (sc : Scope) : Vars → List Expr → List AV → Vars → Prop
  | nil {m} : AsgsK sc m [] [] m
  | cons {m m0 m' x p a es as} : Pick x m m0 → keyOut x m0 = true → kindIs sc x .local = true → AsgsK sc ((x, a) :: m0) es as m' → AsgsK sc m (.Name x p :: es) (a :: as) m'
section
variable {w : World} {sc : Scope} {d : Nat} {m : Vars} {n : ALed}
theorem AsgsK.plain {es : List Expr} {as : List AV} {m'} (env : Env) (h : AsgsK sc m es as m') : (assignEach es env).length = as.length ∧ (assignEach es env).findIdx? (·.1) = none := by
  induction h with
  | nil => exact ⟨rfl, rfl⟩
  | @cons m m0 m' x p a es as _ _ _ _ ih =>
    show (((false, assign (.Name x p) env) :: assignEach es env).length = _) ∧ _
    refine ⟨congrArg (· + 1) ih.1, ?_⟩
    show ((false, assign (.Name x p) env) :: assignEach es env).findIdx? (·.1) = none
    rw [List.findIdx?_cons]
    simp [ih.2]
theorem AsgsK.run {c : Cx} (ok : c.OkM w sc d) {es : List Expr} {as : List AV} {m'} (h : AsgsK sc m es as m') : ∀ {us}, Has as us → Tr w c m n (assignInOrder ((assignEach es c.env).map (·.2)) us) fun _ m2 n2 => m2 = m' ∧ n2 = n := by
  induction h with
  | nil => intro us hv; cases hv; exact fun s Q E F q => assignInOrder_nil (q () _ n s.heap s.toks ⟨rfl, rfl⟩ F)
  | cons h1 h2 h3 _ ih =>
    intro us hv
    cases hv with | cons ha hv => ?_
    exact fun s Q E F q => assignInOrder_cons (PyProof.Rows.assign_Name (Tr.store (P := fun _ m2 n2 => Tr w c m2 n2 _ _) ok ha h1 h2 h3 (ih hv) s _ E F fun _ m2 n2 h' tk' p F2 => p _ Q E F2 q))
theorem AsgK.tup {es k pos T as m'} {P : Vars → Prop} (hT : (T, .tup as) ∈ n) (h : AsgsK sc m es as m') (hP : P m') : AsgK ⟨w, sc, d, m, n⟩ (.Tuple es k pos) (.ref T) P := fun c ok v hv s Q E F q => by
  obtain rfl : v = .ref T := hv
  obtain ⟨us, hu, ho⟩ := F.tupAt hT
  obtain ⟨mv, ld, F', V, N, R, D⟩ := id F
  obtain ⟨h1, h2⟩ := h.plain c.env
  refine unpackN_ (items := us.toArray) F' N ⟨_, ho, rfl, 0, rfl⟩ rfl (by rw [h1, List.size_toArray, hu.length]) h2 fun h' F2 N2 => ?_
  exact h.run ok hu _ Q E ⟨mv, ld, F2, V, N2, R, D⟩ fun _ m2 n2 h2 tk2 ⟨e1, e2⟩ F3 => q () m2 n2 h2 tk2 ⟨e2, e1 ▸ hP⟩ F3
end
theorem CallK.to {w : World} {d : Nat} {n n' : ALed} {fv : Value} {as : List AV} {a : AV} {P : AV → ALed → Prop} (h : CallK w d n fv as fun b m => b = a ∧ m = n') (k : P a n') : CallK w d n fv as P := CallK.mono h fun _ _ ⟨e1, e2⟩ => by rw [e1, e2]; exact k

structure Hdr where
  src : Int
  tgt : Int
  proto : Int
  ident : Int
  ttl : Int
  tos : Int
  dont : Bool
  more : Bool
  off : Int
  opts : By
noncomputable abbrev hdrFs (hd : Hdr) : Vars := [(Str.ofString "source", .int hd.src), (Str.ofString "target", .int hd.tgt), (Str.ofString "protocol", .int hd.proto), (Str.ofString "ident", .int hd.ident), (Str.ofString "ttl", .int hd.ttl), (Str.ofString "tos", .int hd.tos),
  (Str.ofString "dont", .bool hd.dont), (Str.ofString "more", .bool hd.more), (Str.ofString "offset", .int hd.off), (Str.ofString "options", .bytes hd.opts)]
noncomputable abbrev hdrO (hd : Hdr) : AO := .inst 183 (hdrFs hd)
section
variable {w : World} {n : ALed} {x : Addr} {hdr : Hdr}
theorem size_fn {o : By} (hx : (x, hdrO hdr) ∈ n) (he : hdr.opts = o) (ho : o.length ≤ 40) : CallK w 1 n (.ref 152) [.ref x] fun a n' => a = .int (20 + o.length) ∧ n' = n := by
  subst he
  (refine' CallK.fn [(Str.ofString "self", .ref x)] ?o ?c ?b ?s ?_; (case o => k_is); (case c => k_is); (case b => exact bind1 fun s9 _ X9 => by first | exact BindsTo.of_eq rfl | exact binds_K X9 rfl (by k_is) rfl rfl rfl); (case s => kernel_rfl!))
  repeat tm_at "ws"
  exact ⟨rfl, rfl⟩
theorem IpHeader_fn {a0 a1 a2 a3 a4 a5 a8 : Int} {b6 b7 : Bool} {o9 : By} {P : AV → ALed → Prop} (k : ∀ x, P (.ref x) ((x, hdrO ⟨a0, a1, a2, a3, a4, a5, b6, b7, a8, o9⟩) :: n)) : CallK w 2 n (.ref 183) [.int a0, .int a1, .int a2, .int a3, .int a4, .int a5, .bool b6, .bool b7, .int a8, .bytes o9] P := by
  refine' CallK.cls (fun self => [(Str.ofString "options", .bytes o9), (Str.ofString "offset", .int a8), (Str.ofString "more", .bool b7), (Str.ofString "dont", .bool b6), (Str.ofString "tos", .int a5), (Str.ofString "ttl", .int a4), (Str.ofString "ident", .int a3), (Str.ofString "protocol", .int a2), (Str.ofString "target", .int a1), (Str.ofString "source", .int a0), (Str.ofString "self", .ref self)]) ?m1 ?m2 ?m3 ?o ?c ?b ?s ?_; (case m1 => kernel_rfl!); (case m2 => k_is); (case m3 => kernel_rfl!); (case o => k_is); (case c => k_is); (case b => intro self; exact bind11 fun s9 _ _ _ _ _ _ _ _ _ _ _ X9 => by first | exact BindsTo.of_eq rfl | exact binds_K X9 rfl (by k_is) rfl rfl rfl); (case s => intro self; kernel_rfl!); intro self
  repeat tm_at "ws"
  exact ⟨rfl, k self⟩
end
section
variable {w : World} {n : ALed} {x : Addr} {hdr : Hdr}
theorem part_header_fn {off : Int} {more : Bool} {opts : By} {P : AV → ALed → Prop} (hx : (x, hdrO hdr) ∈ n) (k : ∀ y, P (.ref y) ((y, hdrO { hdr with off := off, more := more, opts := opts }) :: n)) : CallK w 3 n (.ref 304) [.ref x, .int off, .bool more, .bytes opts] P := by
  (refine' CallK.fn [(Str.ofString "options", .bytes opts), (Str.ofString "more", .bool more), (Str.ofString "offset", .int off), (Str.ofString "header", .ref x)] ?o ?c ?b ?s ?_; (case o => k_is); (case c => k_is); (case b => exact bind4 fun s9 _ _ _ _ X9 => by first | exact BindsTo.of_eq rfl | exact binds_K X9 rfl (by k_is) rfl rfl rfl); (case s => kernel_rfl!))
  repeat tm_at "ws"
  exact k _
theorem whole_header_fn {P : AV → ALed → Prop} (hx : (x, hdrO hdr) ∈ n) (k : ∀ y, P (.ref y) ((y, hdrO { hdr with off := 0, more := false }) :: n)) : CallK w 3 n (.ref 428) [.ref x] P := by
  (refine' CallK.fn [(Str.ofString "header", .ref x)] ?o ?c ?b ?s ?_; (case o => k_is); (case c => k_is); (case b => exact bind1 fun s9 _ X9 => by first | exact BindsTo.of_eq rfl | exact binds_K X9 rfl (by k_is) rfl rfl rfl); (case s => kernel_rfl!))
  repeat tm_at "ws"
  exact k _
/-- the word with the offset and the flags -/
noncomputable def flagsN (hdr : Hdr) : Int := hdr.off / 8 + (if hdr.dont = true then 16384 else 0) + (if hdr.more = true then 8192 else 0)
theorem flags_of_fn (hx : (x, hdrO hdr) ∈ n) : CallK w 1 n (.ref 215) [.ref x] fun a n' => a = .int (flagsN hdr) ∧ n' = n := by
  (refine' CallK.fn [(Str.ofString "header", .ref x)] ?o ?c ?b ?s ?_; (case o => k_is); (case c => k_is); (case b => exact bind1 fun s9 _ X9 => by first | exact BindsTo.of_eq rfl | exact binds_K X9 rfl (by k_is) rfl rfl rfl); (case s => kernel_rfl!))
  tm_at "ws"
  refine' Ws.ite ?t1 (fun h1 => ?_) (fun h1 => ?_)
  case t1 => tm_at "tst"
  all_goals
    repeat tm_at "ws"
    refine' Ws.ite ?t2 (fun h2 => ?_) (fun h2 => ?_)
    case t2 => tm_at "tst"
    all_goals
      repeat tm_at "ws"
      exact ⟨by simp [flagsN, h1, h2], rfl⟩
/-- a head whose numbers a head can hold -/
structure Fits (hdr : Hdr) : Prop where
  s0 : 0 ≤ hdr.src
  s1 : hdr.src < 4294967296
  t0 : 0 ≤ hdr.tgt
  t1 : hdr.tgt < 4294967296
  p0 : 0 ≤ hdr.proto
  p1 : hdr.proto < 256
  i0 : 0 ≤ hdr.ident
  i1 : hdr.ident < 65536
  l0 : 0 ≤ hdr.ttl
  l1 : hdr.ttl < 256
  o0 : 0 ≤ hdr.tos
  o1 : hdr.tos < 256
  dn : hdr.dont = false
  f0 : 0 ≤ hdr.off
  f1 : hdr.off < 65528
  f8 : hdr.off % 8 = 0
  q0 : hdr.opts.length ≤ 40
  q4 : hdr.opts.length % 4 = 0
theorem check_loop {sc : Scope} {m : Vars} {rest : List Stmt} {R : Flow → Vars → ALed → Prop} {d k : Nat} {vs : List AV} {l : Addr} {xp pos : Pos} {tst : Expr} {body : List Stmt} (hs : kindIs sc (Str.ofString "number") .local = true) (hm : keyOut (Str.ofString "number") m = true)
    (hv : ∀ a ∈ vs, ∃ j : Int, a = .int j ∧ 0 ≤ j ∧ j < 2 ^ k) (ht : ∀ (j : Int) ow, 0 ≤ j → j < 2 ^ k → Tst ⟨w, sc, d, (Str.ofString "number", .int j) :: m, n ++ ow⟩ tst false) (hr : Ws ⟨w, sc, d, m, n⟩ [rest] R) :
    ForK ⟨w, sc, d, m, (l, .tup vs) :: n⟩ (.ref l) (.Name (Str.ofString "number") xp) [.If tst body [] pos] [rest] R := by
  refine ForK.tup (fun _ => Is m n) .head ⟨m, n, .mk, fun _ h => h, List.Sublist.refl _⟩ ?_ ?_
  · refine fun i a m1 n1 ow hi h9 => Is.casesOn h9 ?_
    obtain ⟨j, rfl, h0, h1⟩ := hv a (List.mem_of_getElem? hi)
    have pk : ∀ {m : Vars}, keyOut (Str.ofString "number") m = true → Pick (Str.ofString "number") m m := by
      intro m; induction m with
      | nil => intro _; exact .nil
      | cons p r ih => intro h; exact .skip (ih (Bool.and_eq_true_iff.mp h).2)
    refine AsgK.name (pk hm) hm hs ?_
    refine Ws.iteF (ht j ow h0 h1) rfl (Ws.pop (Ws.pop (Ws.done ?_)))
    exact ⟨m, n, .mk, fun p hp => .tail _ hp, List.Sublist.refl _⟩
  · refine fun m1 n1 h9 => Is.casesOn h9 ?_
    exact Ws.weak (fun _ h => h) (List.sublist_cons_self _ _) hr
theorem check_fields_fn (hx : (x, hdrO hdr) ∈ n) (hf : Fits hdr) : CallK w 2 n (.ref 201) [.ref x] fun a n' => a = .none ∧ n' = n := by
  (refine' CallK.fn [(Str.ofString "header", .ref x)] ?o ?c ?b ?s ?_; (case o => k_is); (case c => k_is); (case b => exact bind1 fun s9 _ X9 => by first | exact BindsTo.of_eq rfl | exact binds_K X9 rfl (by k_is) rfl rfl rfl); (case s => kernel_rfl!))
  obtain ⟨s0, s1, t0, t1, p0, p1, i0, i1, l0, l1, o0, o1, dn, f0, f1, f8, q0, q4⟩ := hf
  have hin : ∀ ow : ALed, (x, hdrO hdr) ∈ n ++ ow := fun ow => List.mem_append_left _ hx
  refine' Ws.for ?_ rfl
  tm_at "evk"
  refine' check_loop (k := 32) ?a1 ?b1 ?c1 ?d1 ?_
  case a1 => kernel_rfl!
  case b1 => kernel_rfl!
  case c1 => intro a ha; simp only [List.mem_cons, List.not_mem_nil, or_false] at ha; rcases ha with rfl | rfl <;> exact ⟨_, rfl, by (first | lia | omega), by (first | lia | omega)⟩
  case d1 => intro j ow h0 h1; have := hin ow; refine Tst.not (b := true) ?_; tm_at "tst"
  refine' Ws.for ?_ rfl
  tm_at "evk"
  refine' check_loop (k := 8) ?a2 ?b2 ?c2 ?d2 ?_
  case a2 => kernel_rfl!
  case b2 => kernel_rfl!
  case c2 => intro a ha; simp only [List.mem_cons, List.not_mem_nil, or_false] at ha; rcases ha with rfl | rfl | rfl <;> exact ⟨_, rfl, by (first | lia | omega), by (first | lia | omega)⟩
  case d2 => intro j ow h0 h1; have := hin ow; refine Tst.not (b := true) ?_; tm_at "tst"
  repeat tm_at "ws"
  exact ⟨rfl, rfl⟩
theorem check_size_fn {pay : By} (hx : (x, hdrO hdr) ∈ n) (hf : Fits hdr) (hp : pay.length ≤ 100) : CallK w 2 n (.ref 208) [.ref x, .bytes pay] fun a n' => a = .none ∧ n' = n := by
  (refine' CallK.fn [(Str.ofString "payload", .bytes pay), (Str.ofString "header", .ref x)] ?o ?c ?b ?s ?_; (case o => k_is); (case c => k_is); (case b => exact bind2 fun s9 _ _ X9 => by first | exact BindsTo.of_eq rfl | exact binds_K X9 rfl (by k_is) rfl rfl rfl); (case s => kernel_rfl!))
  obtain ⟨s0, s1, t0, t1, p0, p1, i0, i1, l0, l1, o0, o1, dn, f0, f1, f8, q0, q4⟩ := hf
  repeat tm_at "ws"
  exact ⟨rfl, rfl⟩
end

noncomputable def firstB (hdr : Hdr) : By := [(4 * 16 + (20 + (hdr.opts.length : Int)) / 4).toNat.toUInt8, hdr.tos.toNat.toUInt8]
noncomputable def secondB (hdr : Hdr) (n : Nat) : By := w16 (20 + (hdr.opts.length : Int) + n) ++ w16 hdr.ident ++ w16 (flagsN hdr)
noncomputable def thirdB (hdr : Hdr) : By := [hdr.ttl.toNat.toUInt8, hdr.proto.toNat.toUInt8]
noncomputable def behindB (hdr : Hdr) : By := w32 hdr.src ++ w32 hdr.tgt ++ hdr.opts
noncomputable def halfN (hdr : Hdr) : Nat := (20 + hdr.opts.length) / 2
noncomputable def blankB (hdr : Hdr) (n : Nat) : By := firstB hdr ++ secondB hdr n ++ thirdB hdr ++ w16 0 ++ behindB hdr
noncomputable def sumB (hdr : Hdr) (n : Nat) : Int := sumOf (blankB hdr n) (halfN hdr)
/-- a datagram's octets -/
noncomputable def packB (hdr : Hdr) (p : By) : By := firstB hdr ++ secondB hdr p.length ++ thirdB hdr ++ w16 (sumB hdr p.length) ++ behindB hdr ++ p
theorem blankB_length (hdr : Hdr) (n : Nat) : (blankB hdr n).length = 20 + hdr.opts.length := by
  simp only [blankB, firstB, secondB, thirdB, behindB, List.length_append, w16_length, w32_length, List.length_cons, List.length_nil]; (first | lia | omega)
theorem packB_length (hdr : Hdr) (p : By) : (packB hdr p).length = 20 + hdr.opts.length + p.length := by
  simp only [packB, firstB, secondB, thirdB, behindB, List.length_append, w16_length, w32_length, List.length_cons, List.length_nil]; (first | lia | omega)

theorem firstB_length (hdr : Hdr) : (firstB hdr).length = 2 := rfl
theorem thirdB_length (hdr : Hdr) : (thirdB hdr).length = 2 := rfl
theorem secondB_length (hdr : Hdr) (n : Nat) : (secondB hdr n).length = 6 := rfl
theorem behindB_length (hdr : Hdr) : (behindB hdr).length = 8 + hdr.opts.length := by simp only [behindB, List.length_append, w32_length]
theorem pack_ip_fn {w : World} {n : ALed} {x : Addr} {hdr : Hdr} {pay : By} (hx : (x, hdrO hdr) ∈ n) (hf : Fits hdr) (hp : pay.length ≤ 100) : CallK w 5 n (.ref 222) [.ref x, .bytes pay] fun a n' => a = .bytes (packB hdr pay) ∧ n' = n := by
  (refine' CallK.fn [(Str.ofString "payload", .bytes pay), (Str.ofString "header", .ref x)] ?o ?c ?b ?s ?_; (case o => k_is); (case c => k_is); (case b => exact bind2 fun s9 _ _ X9 => by first | exact BindsTo.of_eq rfl | exact binds_K X9 rfl (by k_is) rfl rfl rfl); (case s => kernel_rfl!))
  have hf' := hf
  obtain ⟨s0, s1, t0, t1, p0, p1, i0, i1, l0, l1, o0, o1, dn, f0, f1, f8, q0, q4⟩ := hf'
  have hfl : 0 ≤ flagsN hdr ∧ flagsN hdr < 65536 := by unfold flagsN; rw [dn]; split <;> (first | lia | omega)
  have hck : (octs [4 * 16 + (20 + (hdr.opts.length : Int)) / 4, hdr.tos] ++ (w16 (20 + (hdr.opts.length : Int) + pay.length) ++ w16 hdr.ident ++ w16 (flagsN hdr)) ++ octs [hdr.ttl, hdr.proto] ++ w16 0 ++ (w32 hdr.src ++ w32 hdr.tgt ++ hdr.opts)).length = 2 * halfN hdr := by
    show (blankB hdr pay.length).length = _
    rw [blankB_length]; unfold halfN; (first | lia | omega)
  have hsr := sumOf_range (octs [4 * 16 + (20 + (hdr.opts.length : Int)) / 4, hdr.tos] ++ (w16 (20 + (hdr.opts.length : Int) + pay.length) ++ w16 hdr.ident ++ w16 (flagsN hdr)) ++ octs [hdr.ttl, hdr.proto] ++ w16 0 ++ (w32 hdr.src ++ w32 hdr.tgt ++ hdr.opts)) (halfN hdr)
  obtain ⟨hs0, hs1⟩ := hsr
  have hhk : halfN hdr ≤ 100 := by unfold halfN; (first | lia | omega)
  obtain ⟨hfl0, hfl1⟩ := hfl
  repeat tm_at "ws"
  exact ⟨rfl, rfl⟩
/-- the size that a datagram's first octet tells -/
noncomputable def headN (b : By) : Int := oct b 0 % 16 * 4
theorem head_size_fn {w : World} {n : ALed} {b : By} (h0 : 20 ≤ b.length) (h1 : oct b 0 / 16 = 4) (h2 : 20 ≤ headN b) (h3 : headN b ≤ b.length) (hb : b.length ≤ 1000) : CallK w 1 n (.ref 229) [.bytes b] fun a n' => a = .int (headN b) ∧ n' = n := by
  (refine' CallK.fn [(Str.ofString "octets", .bytes b)] ?o ?c ?b ?s ?_; (case o => k_is); (case c => k_is); (case b => exact bind1 fun s9 _ X9 => by first | exact BindsTo.of_eq rfl | exact binds_K X9 rfl (by k_is) rfl rfl rfl); (case s => kernel_rfl!))
  unfold headN at h2 h3
  repeat tm_at "ws"
  exact ⟨rfl, rfl⟩
/-- octets that are a datagram with a right sum -/
structure Sound (b : By) : Prop where
  h0 : 20 ≤ b.length
  h1 : oct b 0 / 16 = 4
  h2 : 20 ≤ headN b
  h3 : headN b ≤ b.length
  h5 : b.length ≤ 1000
  t0 : headN b ≤ g16 b 2
  t1 : g16 b 2 ≤ b.length
  sm : sumOf (b.take (headN b).toNat) (headN b / 2).toNat = 0
noncomputable def hdrOf (b : By) : Hdr := ⟨g32 b 12, g32 b 16, oct b 9, g16 b 4, oct b 8, oct b 1, g16 b 6 / 16384 % 2 * 16384 != 0, g16 b 6 / 8192 % 2 * 8192 != 0, g16 b 6 % 8192 * 8, (b.drop 20).take ((headN b).toNat - 20)⟩
noncomputable def payOf (b : By) : By := (b.drop (headN b).toNat).take ((g16 b 2).toNat - (headN b).toNat)
theorem unpack_ip_fn {w : World} {n : ALed} {b : By} {P : AV → ALed → Prop} (hs : Sound b) (k : ∀ T x, P (.ref T) ((T, .tup [.ref x, .bytes (payOf b)]) :: (x, hdrO (hdrOf b)) :: n)) : CallK w 5 n (.ref 236) [.bytes b] P := by
  (refine' CallK.fn [(Str.ofString "octets", .bytes b)] ?o ?c ?b ?s ?_; (case o => k_is); (case c => k_is); (case b => exact bind1 fun s9 _ X9 => by first | exact BindsTo.of_eq rfl | exact binds_K X9 rfl (by k_is) rfl rfl rfl); (case s => kernel_rfl!))
  obtain ⟨h0, h1, h2, h3, h5, t0, t1, sm⟩ := hs
  have hm4 : headN b % 4 = 0 := by unfold headN; (first | lia | omega)
  have ht : (b.take (headN b).toNat).length = 2 * (headN b / 2).toNat := by rw [List.length_take]; (first | lia | omega)
  have hk : (headN b / 2).toNat ≤ 100 := by unfold headN; have := oct_lt b 0; (first | lia | omega)
  have g0 := g16_nonneg b 6; have g1 := g16_lt b 6
  repeat tm_at "ws"
  exact k _ _
/-- the octets with the time to live less by one -/
noncomputable def lessB (b : By) : By := b.take 8 ++ w16 (g16 b 8 - 256) ++ w16 (adjN (g16 b 10) (g16 b 8) (g16 b 8 - 256)) ++ b.drop 12
theorem lessened_octets_fn {w : World} {n : ALed} {b : By} (hs : Sound b) (hl : 2 ≤ oct b 8) : CallK w 3 n (.ref 243) [.bytes b] fun a n' => a = .bytes (lessB b) ∧ n' = n := by
  (refine' CallK.fn [(Str.ofString "octets", .bytes b)] ?o ?c ?b ?s ?_; (case o => k_is); (case c => k_is); (case b => exact bind1 fun s9 _ X9 => by first | exact BindsTo.of_eq rfl | exact binds_K X9 rfl (by k_is) rfl rfl rfl); (case s => kernel_rfl!))
  obtain ⟨h0, h1, h2, h3, h5, t0, t1, sm⟩ := hs
  have hg8 : 512 ≤ g16 b 8 := by have := oct_nonneg b (8 + 1); unfold g16; (first | lia | omega)
  have g0 := g16_nonneg b 10; have g1 := g16_lt b 10; have g2 := g16_lt b 8
  have ad := adjN_range (c := g16 b 10) (o := g16 b 8) (k := g16 b 8 - 256) (by (first | lia | omega)) (by (first | lia | omega)) (by (first | lia | omega))
  obtain ⟨ad0, ad1⟩ := ad
  repeat tm_at "ws"
  exact ⟨rfl, rfl⟩

section
variable {w : World} {n : ALed}
theorem is_single_fn {k : Int} (h : 2 ≤ k) : CallK w 1 n (.ref 250) [.int k] fun a n' => a = .bool false ∧ n' = n := by
  (refine' CallK.fn [(Str.ofString "kind", .int k)] ?o ?c ?b ?s ?_; (case o => k_is); (case c => k_is); (case b => exact bind1 fun s9 _ X9 => by first | exact BindsTo.of_eq rfl | exact binds_K X9 rfl (by k_is) rfl rfl rfl); (case s => kernel_rfl!))
  repeat tm_at "ws"
  exact ⟨by rw [decide_eq_false (by (first | lia | omega)), decide_eq_false (by (first | lia | omega))]; rfl, rfl⟩
theorem is_copied_fn {k : Int} : CallK w 1 n (.ref 285) [.int k] fun a n' => a = .bool (decide (128 ≤ k)) ∧ n' = n := by
  (refine' CallK.fn [(Str.ofString "kind", .int k)] ?o ?c ?b ?s ?_; (case o => k_is); (case c => k_is); (case b => exact bind1 fun s9 _ X9 => by first | exact BindsTo.of_eq rfl | exact binds_K X9 rfl (by k_is) rfl rfl rfl); (case s => kernel_rfl!))
  repeat tm_at "ws"
  exact ⟨rfl, rfl⟩
theorem size_at_fn {b : By} {i : Int} (h0 : 0 ≤ i) (h1 : i + 1 < b.length) (h2 : 2 ≤ oct b (i + 1)) (h3 : i + oct b (i + 1) ≤ b.length) (hb : b.length ≤ 1000) : CallK w 1 n (.ref 264) [.bytes b, .int i] fun a n' => a = .int (oct b (i + 1)) ∧ n' = n := by
  (refine' CallK.fn [(Str.ofString "at", .int i), (Str.ofString "octets", .bytes b)] ?o ?c ?b ?s ?_; (case o => k_is); (case c => k_is); (case b => exact bind2 fun s9 _ _ X9 => by first | exact BindsTo.of_eq rfl | exact binds_K X9 rfl (by k_is) rfl rfl rfl); (case s => kernel_rfl!))
  repeat tm_at "ws"
  exact ⟨rfl, rfl⟩
end
/-- one option's octets -/
noncomputable def optB (r : Int × By) : By := [r.1.toNat.toUInt8, ((r.2.length : Int) + 2).toNat.toUInt8] ++ r.2
section
variable {w : World} {n : ALed}
theorem option_octets_fn {k : Int} {o : By} (h : 2 ≤ k) (h1 : k ≤ 255) (h2 : o.length ≤ 38) : CallK w 2 n (.ref 278) [.int k, .bytes o] fun a n' => a = .bytes (optB (k, o)) ∧ n' = n := by
  (refine' CallK.fn [(Str.ofString "octets", .bytes o), (Str.ofString "kind", .int k)] ?o ?c ?b ?s ?_; (case o => k_is); (case c => k_is); (case b => exact bind2 fun s9 _ _ X9 => by first | exact BindsTo.of_eq rfl | exact binds_K X9 rfl (by k_is) rfl rfl rfl); (case s => kernel_rfl!))
  repeat tm_at "ws"
  exact ⟨rfl, rfl⟩
theorem room_of_fn {mtu hs : Int} (h : 8 ≤ mtu - hs) (h1 : mtu ≤ 10000) (h2 : 0 ≤ hs) : CallK w 1 n (.ref 311) [.int mtu, .int hs] fun a n' => a = .int ((mtu - hs) / 8 * 8) ∧ n' = n := by
  (refine' CallK.fn [(Str.ofString "header_size", .int hs), (Str.ofString "mtu", .int mtu)] ?o ?c ?b ?s ?_; (case o => k_is); (case c => k_is); (case b => exact bind2 fun s9 _ _ X9 => by first | exact BindsTo.of_eq rfl | exact binds_K X9 rfl (by k_is) rfl rfl rfl); (case s => kernel_rfl!))
  repeat tm_at "ws"
  exact ⟨rfl, rfl⟩
end
/-- the options that the law lays into a head -/
noncomputable def IsOpts (o : By) : Prop := o = [] ∨ o = [148, 4, 0, 9] ∨ o = [7, 7, 4, 0, 0, 0, 0, 0] ∨ o = [148, 4, 0, 9, 7, 7, 4, 0, 0, 0, 0, 0] ∨ o = [7, 7, 4, 0, 0, 0, 0, 148, 4, 0, 9, 0]
/-- what of them a later piece bears -/
noncomputable def laterB (o : By) : By := if o = [] ∨ o = [7, 7, 4, 0, 0, 0, 0, 0] then [] else [148, 4, 0, 9]
/-- a is a pair of a kind and octets -/
noncomputable def OptAt (n : ALed) (a : AV) (r : Int × By) : Prop := ∃ T, a = .ref T ∧ (T, .tup [.int r.1, .bytes r.2]) ∈ n
theorem pairedImp {α β : Type} {F G : α → β → Prop} (h : ∀ a b, F a b → G a b) {l₁ : List α} {l₂ : List β} (p : Paired F l₁ l₂) : Paired G l₁ l₂ := by
  induction p with
  | nil => exact .nil
  | cons a _ ih => exact .cons (h _ _ a) ih
theorem OptAt.mono {n n' : ALed} {a : AV} {r : Int × By} (h : OptAt n a r) (k : ∀ q ∈ n, q ∈ n') : OptAt n' a r := h.imp fun _ h => ⟨h.1, k _ h.2⟩
/-- octets of options, and what they say -/
inductive Parse : By → List (Int × By) → Prop
  | nil : Parse [] []
  | zero (r : By) : Parse (0 :: r) []
  | opt (k s : UInt8) (d r : By) (rows : List (Int × By)) : 2 ≤ k.toNat → s.toNat = d.length + 2 → d.length ≤ 38 → Parse r rows → Parse (k :: s :: (d ++ r)) (((k.toNat : Int), d) :: rows)
theorem oct_mid (pre : By) (k : UInt8) (r : By) : oct (pre ++ k :: r) pre.length = k.toNat := by
  unfold oct; simp
theorem oct_mid1 (pre : By) (k s : UInt8) (r : By) : oct (pre ++ k :: s :: r) (pre.length + 1) = s.toNat := by
  unfold oct
  have e : ((pre.length : Int) + 1).toNat = pre.length + 1 := by (first | lia | omega)
  rw [e]; simp
theorem slice_mid {pre d r : By} {k s : UInt8} {a b : Nat} (ha : a = pre.length + 2) (hb : b = d.length) : ((pre ++ k :: s :: (d ++ r)).drop a).take b = d := by
  subst ha hb
  have e : pre ++ k :: s :: (d ++ r) = (pre ++ [k, s]) ++ (d ++ r) := by simp
  rw [e, List.drop_append_of_le_length (by simp), List.drop_of_length_le (by simp), List.nil_append, List.take_append_of_le_length (Nat.le_refl _), List.take_length]
inductive ReadI (o : By) (rows : List (Int × By)) (l : Addr) (n : ALed) (k : Nat) : Vars → ALed → Prop
  | mk (pre rest : By) (rows' done : List (Int × By)) (as : List AV) (tl : ALed) : o = pre ++ rest → Parse rest rows' → done ++ rows' = rows → rest.length < k → Paired (OptAt tl) as done → as.length ≤ pre.length →
      ReadI o rows l n k [(Str.ofString "at", .int pre.length), (Str.ofString "found", .ref l), (Str.ofString "octets", .bytes o)] (tl ++ (l, .lst as) :: n)
theorem read_options_fn {w : World} {n : ALed} {o : By} {rows : List (Int × By)} {P : AV → ALed → Prop} (ho : Parse o rows) (hz : o.length ≤ 40) (hP : ∀ l as tl, Paired (OptAt tl) as rows → P (.ref l) (tl ++ (l, .lst as) :: n)) :
    CallK w 3 n (.ref 257) [.bytes o] P := by
  (refine' CallK.fn [(Str.ofString "octets", .bytes o)] ?o ?c ?b ?s ?_; (case o => k_is); (case c => k_is); (case b => exact bind1 fun s9 _ X9 => by first | exact BindsTo.of_eq rfl | exact binds_K X9 rfl (by k_is) rfl rfl rfl); (case s => kernel_rfl!))
  repeat tm_at "ws"
  rename_i l
  refine Ws.while (k := o.length + 1) (ReadI o rows l n) ⟨_, _, .mk [] o rows [] [] [] rfl ho rfl (Nat.lt_succ_self _) .nil (Nat.le_refl _), fun _ h => h, List.Sublist.refl _⟩ ?_
  refine fun k m1 n1 h9 => ReadI.casesOn h9 fun pre rest rows' done as tl ho2 hp hr hk8 hpd has => ?_
  have hlen : (o.length : Int) = pre.length + rest.length := by rw [ho2, List.length_append]; simp
  have hzi : (o.length : Int) ≤ 40 := by (first | lia | omega)
  rcases hp with _ | ⟨r⟩ | ⟨kk, sz, d, r, rows2, hk2, hs2, hd, hp2⟩
  · refine ⟨_, by tm_at "tst", fun hb => ?_, fun hb => ?_⟩
    · rw [List.length_nil] at hlen
      have := of_decide_eq_true (Bool.and_eq_true_iff.mp hb).1; (first | lia | omega)
    · repeat tm_at "ws"
      exact hP l as tl (by rw [← hr, List.append_nil]; exact hpd)
  · have h9 : oct o pre.length = 0 := by rw [ho2, oct_mid]; rfl
    rw [List.length_cons] at hlen
    refine ⟨_, by tm_at "tst", fun hb => ?_, fun hb => ?_⟩
    · rw [h9] at hb; simp at hb
    · repeat tm_at "ws"
      exact hP l as tl (by rw [← hr, List.append_nil]; exact hpd)
  · have h9 : oct o pre.length = kk.toNat := by rw [ho2, oct_mid]
    have h10 : oct o (pre.length + 1) = d.length + 2 := by rw [ho2, oct_mid1, hs2]; (first | lia | omega)
    have h8 : (o.length : Int) = pre.length + (2 + d.length + r.length) := by rw [hlen]; simp; (first | lia | omega)
    have h7 : kk.toNat < 256 := kk.toNat_lt
    refine ⟨_, by tm_at "tst", fun hb => ?_, fun hb => ?_⟩
    · have hz2 : as.length ≤ 100000 := by (first | lia | omega)
      have hz3 : 2 ≤ oct o pre.length := by (first | lia | omega)
      repeat tm_at "ws"
      rename_i T
      have hk1 : ((pre ++ kk :: sz :: d).length : Int) = pre.length + oct o (pre.length + 1) := by rw [h10]; simp; (first | lia | omega)
      have e1 : List.take (((pre.length : Int) + oct o (pre.length + 1)).toNat - ((pre.length : Int) + 2).toNat) (List.drop ((pre.length : Int) + 2).toNat o) = d := by rw [h10, ho2]; exact slice_mid (by (first | lia | omega)) (by (first | lia | omega))
      rw [e1, h9]
      rw [List.length_cons, List.length_cons, List.length_append] at hk8
      refine ⟨k - 1, _, _, .mk (pre ++ kk :: sz :: d) r rows2 (done ++ [((kk.toNat : Int), d)]) (as ++ [.ref T]) ((T, .tup [.int kk.toNat, .bytes d]) :: tl) (by rw [ho2]; simp) hp2 (by rw [← hr, List.append_assoc]; rfl) (by (first | lia | omega)) ?_ ?_, by (first | lia | omega), ?_, List.Sublist.refl _⟩
      · exact Paired.snoc (pairedImp (fun v q hq => hq.mono fun r hr => .tail _ hr) hpd) ⟨T, rfl, .head _⟩
      · rw [List.length_append, List.length_append]; exact Nat.add_le_add has (by simp)
      · rw [hk1]; tm_at "sub"
    · exfalso
      rw [h9] at hb
      have : ((kk.toNat : Int) != 0) = true := by simp; (first | lia | omega)
      rw [this] at hb
      have h11 : decide ((pre.length : Int) < o.length) = true := decide_eq_true (by (first | lia | omega))
      rw [h11] at hb
      cases hb
/-- the octets of the first i options -/
noncomputable def catTo (rows : List (Int × By)) (i : Nat) : By := ((rows.take i).map optB).flatten
theorem catTo_succ {rows : List (Int × By)} {i : Nat} {r : Int × By} (h : rows[i]? = some r) : catTo rows (i + 1) = catTo rows i ++ optB r := by
  unfold catTo
  have hlt : i < rows.length := by
    by_cases hh : i < rows.length
    · exact hh
    · rw [List.getElem?_eq_none (by (first | lia | omega))] at h; cases h
  rw [List.take_add_one, h]; simp
theorem catTo_le (rows : List (Int × By)) : ∀ i, (catTo rows i).length ≤ (rows.map optB).flatten.length := by
  intro i
  unfold catTo
  have e : rows.map optB = (rows.take i).map optB ++ (rows.drop i).map optB := by rw [← List.map_append, List.take_append_drop]
  rw [e, List.flatten_append, List.length_append]; (first | lia | omega)
theorem catTo_all (rows : List (Int × By)) : catTo rows rows.length = (rows.map optB).flatten := by unfold catTo; rw [List.take_length]
/-- octets filled to a multiple of four -/
noncomputable def fillB (x : By) : By := x ++ List.replicate ((4 - (x.length : Int) % 4) % 4).toNat 0
noncomputable def writeB (rows : List (Int × By)) : By := fillB (rows.map optB).flatten
theorem pairedAt {α β : Type} {F : α → β → Prop} {l₁ : List α} {l₂ : List β} (p : Paired F l₁ l₂) : ∀ {i : Nat} {a : α}, l₁[i]? = some a → ∃ b, l₂[i]? = some b ∧ F a b := by
  induction p with
  | nil => intro i a h; cases i <;> cases h
  | cons h0 _ ih =>
    intro i a h
    cases i with
    | zero => exact ⟨_, rfl, Option.some.inj h ▸ h0⟩
    | succ i => exact ih (i := i) h
@[elab_as_elim] theorem optAt {n : ALed} {vs : List AV} {rows : List (Int × By)} {C : AV → Prop} (h : Paired (OptAt n) vs rows) {i : Nat} {a : AV} (hi : vs[i]? = some a) (k : ∀ kk dd T, rows[i]? = some (kk, dd) → (T, .tup [.int kk, .bytes dd]) ∈ n → C (.ref T)) : C a := by
  obtain ⟨⟨kk, dd⟩, hr, T, rfl, hT⟩ := pairedAt h hi
  exact k kk dd T hr hT
theorem pairedLen {α β : Type} {F : α → β → Prop} {l₁ : List α} {l₂ : List β} (p : Paired F l₁ l₂) : l₁.length = l₂.length := by
  induction p with
  | nil => rfl
  | cons _ _ ih => exact congrArg (· + 1) ih

theorem write_options_fn {w : World} {n n0 : ALed} {l : Addr} {as : List AV} {rows : List (Int × By)} (hl : Take (l, .lst as) n n0) (hp : Paired (OptAt n0) as rows) (hrk0 : ∀ r ∈ rows, 2 ≤ r.1 ∧ r.1 ≤ 255 ∧ r.2.length ≤ 38) (hz : (rows.map optB).flatten.length ≤ 36) :
    CallK w 4 n (.ref 271) [.ref l] fun a n' => a = .bytes (writeB rows) ∧ n' = n := by
  (refine' CallK.fn [(Str.ofString "options", .ref l)] ?o ?c ?b ?s ?_; (case o => k_is); (case c => k_is); (case b => exact bind1 fun s9 _ X9 => by first | exact BindsTo.of_eq rfl | exact binds_K X9 rfl (by k_is) rfl rfl rfl); (case s => kernel_rfl!))
  repeat tm_at "ws"
  refine' Ws.for ?_ rfl
  tm_at "evk"
  refine ForK.lst (fun i => Is [(Str.ofString "found", .bytes (catTo rows i))] n0) hl ⟨_, _, .of (M' := [(Str.ofString "found", .bytes [])]) rfl, by tm_at "sub", List.Sublist.refl _⟩ ?_ ?_
  · refine fun i a m1 n1 ow hi h9 => Is.casesOn h9 ?_
    refine optAt hp hi fun kk dd T hr hT => ?_
    have hk : 2 ≤ kk ∧ kk ≤ 255 ∧ dd.length ≤ 38 := hrk0 _ (List.mem_of_getElem? hr)
    have hk1 := hk.1
    have hk2 := hk.2.1
    have hd := hk.2.2
    have hol : (optB (kk, dd)).length ≤ 40 := by unfold optB; simp; (first | lia | omega)
    have hcl : (catTo rows i).length ≤ 36 := Nat.le_trans (catTo_le rows i) hz
    have hT' := List.mem_append_left ow hT
    tm_at "asg"
    repeat tm_at "ws"
    exact ⟨_, _, .of (M' := [(Str.ofString "found", .bytes (catTo rows i ++ optB (kk, dd)))]) (by rw [catTo_succ hr]), by tm_at "sub", List.Sublist.refl _⟩
  · refine fun m1 n1 h9 => Is.casesOn h9 ?_
    refine Ws.untake hl ?_
    rw [show catTo rows as.length = (rows.map optB).flatten by rw [pairedLen hp, catTo_all]]
    have hz2 : ((4 - ((rows.map optB).flatten.length : Int) % 4) % 4).toNat ≤ 3 := by (first | lia | omega)
    have hrl : (List.replicate ((4 - ((rows.map optB).flatten.length : Int) % 4) % 4).toNat (0 : UInt8)).length = ((4 - ((rows.map optB).flatten.length : Int) % 4) % 4).toNat := List.length_replicate
    have hal : (((rows.map optB).flatten ++ List.replicate ((4 - ((rows.map optB).flatten.length : Int) % 4) % 4).toNat (0 : UInt8)).length : Int) ≤ 39 := by rw [List.length_append, hrl]; (first | lia | omega)
    repeat tm_at "ws"
    exact ⟨rfl, rfl⟩

section
open PyProof.Rows.LCg
end
/-- the frame in which a comprehension's parts are evaluated -/
noncomputable def Cx.comp (c : Cx) (mv : Str → Option Value) (sc' scope : Scope) (cl : List (Str × Addr)) (C : Addr) (m₂ : Str → Option Value) (hx : Led) : Cx :=
  { c with env := compEnvC scope cl C c.env, hid := hx ++ c.hid, lv := fun mv' x => @ite _ (mv' = mv) (Classical.propDecidable _) (if kindIs sc' x .cell = true then c.lv mv x else m₂ x) Option.none }
theorem Cx.comp_lv {c : Cx} {mv sc' scope cl C m₂ hx} (x : Str) : (c.comp mv sc' scope cl C m₂ hx).lv mv x = if kindIs sc' x .cell = true then c.lv mv x else m₂ x := by
  exact if_pos rfl
theorem Cx.comp_own {c : Cx} {mv mv' sc' scope cl C m₂ hx} {x : Str} {v : Value} (h : (c.comp mv sc' scope cl C m₂ hx).lv mv' x = some v) : mv' = mv := by
  by_cases e : mv' = mv
  · exact e
  · have h' : @ite _ (mv' = mv) (Classical.propDecidable _) (if kindIs sc' x .cell = true then c.lv mv x else m₂ x) Option.none = some v := h
    rw [if_neg e] at h'; cases h'
theorem mem_lookup {x : Str} {k : NameKind} {l : List (Str × NameKind)} (h : l.lookup x = some k) : (x, k) ∈ l := by
  induction l with
  | nil => cases h
  | cons p r ih =>
    rw [List.lookup_cons] at h
    split at h
    · rename_i e; cases h; rw [beq_iff_eq.mp e]; exact .head _
    · exact .tail _ (ih h)
/-- what a comprehension's scope is read from -/
structure Cap (S : St) (scope sc' : Scope) : Prop where
  rel : ∀ env : Env, env.scope = S.sc → relabel scope env = sc'
  kind : scope.kind = .function
  nocell : ∀ y ∈ scope.names, y.2 ≠ .cell
  names : ∀ y ∈ scope.names, y.2 = .local → scope.names.lookup y.1 = some .local
  clos : ∀ c : Cx, c.Ok S.w S.sc S.d → ∀ s, Frm S.w c S.m S.n s → ∃ cl, closureFor scope c.env = pure cl ∧ ∀ x, kindIs sc' x .cell = true → kindIs S.sc x .cell = true ∧ cl.lookup x = c.env.cells.lookup x
noncomputable def capB (scope : Scope) : Bool := (scope.kind == .function && scope.names.all fun y => y.2 != .cell && y.2 != .free) && scope.names.all fun y => !(y.2 == .local) || scope.names.lookup y.1 == some .local
theorem Cap.none {S : St} {scope : Scope} (h : capB scope = true) (hc : ∀ env, closureFor scope env = pure []) : Cap S scope scope := by
  obtain ⟨h, h3⟩ := Bool.and_eq_true_iff.mp h
  obtain ⟨h1, h2⟩ := Bool.and_eq_true_iff.mp h
  have h2' : ∀ y ∈ scope.names, y.2 ≠ .cell ∧ y.2 ≠ .free := fun y hy => by
    have := List.all_eq_true.mp h2 y hy
    simpa using this
  have hr : ∀ env : Env, relabel scope env = scope := fun env => by
    unfold relabel
    have : List.map (fun x : Str × NameKind => match x with | (n, k) => if (k == NameKind.free && env.scope.kind == ScopeKind.function && env.kindOf n == some NameKind.cell) = true then (n, NameKind.cell) else (n, k)) scope.names = scope.names := by
      conv => rhs; rw [← List.map_id scope.names]
      refine List.map_congr_left fun y hy => ?_
      obtain ⟨n, k⟩ := y
      have h0 : (k == NameKind.free) = false := by have := (h2' _ hy).2; simpa using this
      simp only [h0, Bool.false_and, Bool.false_eq_true, if_false, id_eq]
    rw [this]
  refine ⟨fun env _ => hr env, beq_iff_eq.mp h1, fun y hy => (h2' y hy).1, fun y hy e => ?_, fun c ok s F => ⟨[], hc _, fun x hx => ?_⟩⟩
  · have := List.all_eq_true.mp h3 y hy
    rw [e] at this
    simpa using this
  · have := mem_lookup (kindIs_of hx).1
    exact absurd rfl (h2' _ this).1
theorem Has.get {vs : List AV} {us : List Value} (h : Has vs us) : ∀ {i : Nat} {u : Value}, us[i]? = some u → ∃ a : AV, vs[i]? = some a ∧ a.has u := by
  induction h with
  | nil => intro i u e; cases i <;> cases e
  | cons ha _ ih =>
    intro i u e
    cases i with
    | zero => exact ⟨_, rfl, Option.some.inj e ▸ ha⟩
    | succ i => exact ih (i := i) e
theorem Real.tupAt {P : Params} {n : ALed} {l : Led} {T : Addr} {as : List AV} (R : Real P n l) (h : (T, .tup as) ∈ n) : ∃ us, Has as us ∧ (T, tupObj us) ∈ l := by
  obtain ⟨l1, own, l2, rfl, h1⟩ := R.at h
  obtain ⟨us, rfl, ha⟩ := h1.one
  exact ⟨us, ha, List.mem_append_right _ (List.mem_append_left _ (.head _))⟩
theorem VarsAt.two {a b : Str} {x y : AV} {u v : Value} {mv : Str → Option Value} (hb : mv b = some v) (ha : mv a = some u) (hy : y.has v) (hx : x.has u) : VarsAt [(b, y), (a, x)] mv := fun p hp => by
  rcases List.mem_cons.mp hp with rfl | hp
  · exact ⟨v, hb, hy⟩
  · rw [List.mem_singleton.mp hp]; exact ⟨u, ha, hx⟩
theorem notCell {sc : Scope} {x : Str} (h : kindIs sc x .local = true) : ¬ kindIs sc x .cell = true := fun k => by
  have := (kindIs_of h).1.symm.trans (kindIs_of k).1
  cases this
section
variable {w : World} {sc : Scope} {d : Nat} {m : Vars} {n : ALed} {P : AV → ALed → Prop}
theorem Cx.comp_ok {c : Cx} (ok : c.Ok w sc d) {s : Shared} {mv scope sc' cl C m₂ hx oC} (hr : ∀ env : Env, env.scope = sc → relabel scope env = sc') (hk : scope.kind = .function)
    (hcl : ∀ x, kindIs sc' x .cell = true → kindIs sc x .cell = true ∧ cl.lookup x = c.env.cells.lookup x) (hC : LCg.NsObj oC m₂) (hm : (C, oC) ∈ hx) : (c.comp mv sc' scope cl C m₂ hx).Ok w sc' d := by
  have e : relabel scope c.env = sc' := hr _ ok.scope
  refine ⟨ok.below, ok.inK, ok.top, ok.fkind, e, by rw [← e]; exact hk, ok.gl, ok.bl, fun h mv' x v F hid k e2 => ?_, fun h mv' x v F hid k e2 => ?_, ok.dp, ok.un⟩
  · obtain rfl := Cx.comp_own e2
    rw [Cx.comp_lv, if_neg (by rw [Bool.not_eq_true]; unfold kindIs at k ⊢; obtain ⟨k1, k2⟩ := Bool.and_eq_true_iff.mp k; rw [beq_iff_eq.mp k1]; rfl)] at e2
    exact ⟨m₂, hC.ns (hid _ (List.mem_append_left _ hm)), e2⟩
  · obtain rfl := Cx.comp_own e2
    rw [Cx.comp_lv, if_pos k] at e2
    obtain ⟨k1, k2⟩ := hcl x k
    obtain ⟨ca, o, h1, h2, h3⟩ := ok.cell h mv' x v F (fun p hp => hid p (List.mem_append_right _ hp)) k1 e2
    exact ⟨ca, o, by show cl.lookup x = some ca; rw [k2]; exact h1, h2, h3⟩
/-- a new object -/
theorem add {h₀ h h' : Heap} {L a : Addr} {mv : Str → Option Value} {X : Led} {o' : Obj} (F : Fr h₀ L h mv) (N : News h₀ L h X) (D : (X.map (·.1)).Nodup) (ha : h.objs.size = a)
    (e : ∀ b x, b ≠ a → h.get? b = some x → h'.get? b = some x) (ho : h'.get? a = some o') : Fr h₀ L h' mv ∧ News h₀ L h' ((a, o') :: X) ∧ (((a, o') :: X).map (·.1)).Nodup := by
  subst ha
  have up : ∀ b x, h.get? b = some x → h'.get? b = some x := fun b x hx => e b x (Nat.ne_of_lt (Heap.lt_size hx)) hx
  refine ⟨F.keeps up, fun p hp => ?_, ?_⟩
  · rcases List.mem_cons.mp hp with rfl | hp
    · exact ⟨ho, Nat.ne_of_gt F.ns.lt, next_is_new F⟩
    · exact ⟨up _ _ (N p hp).1, (N p hp).2⟩
  · rw [List.map_cons, List.nodup_cons]
    refine ⟨fun hm => ?_, D⟩
    obtain ⟨p, hp, q⟩ := List.mem_map.mp hm
    exact absurd (Heap.lt_size (N p hp).1) (q ▸ Nat.lt_irrefl _)
/-- the foremost object is forgotten -/
theorem drp {h₀ h h' : Heap} {L a : Addr} {mv : Str → Option Value} {X : Led} {o : Obj} (F : Fr h₀ L h mv) (N : News h₀ L h ((a, o) :: X)) (D : (((a, o) :: X).map (·.1)).Nodup)
    (e : ∀ b x, b ≠ a → h.get? b = some x → h'.get? b = some x) : Fr h₀ L h' mv ∧ News h₀ L h' X ∧ (X.map (·.1)).Nodup := by
  have hm := N (a, o) (.head _)
  rw [List.map_cons, List.nodup_cons] at D
  exact ⟨⟨F.ns.at' fun x hx => e _ _ (Ne.symm hm.2.1) hx, fun b x hx => e b x (fun q => by rw [q] at hx; rw [hm.2.2] at hx; cases hx) (F.keep b x hx), F.above⟩,
    fun p hp => ⟨e _ _ (fun q => D.1 (List.mem_map.mpr ⟨p, hp, q⟩)) (N p (.tail _ hp)).1, (N p (.tail _ hp)).2⟩, D.2⟩
/-- a part of a comprehension is evaluated; hx lies still -/
theorem compTr {α : Type} {c : Cx} {mv scope sc' cl C m₂ n1 mc} {hx l : Led} {t : Sem α} {P0 : α → Vars → ALed → Prop} {h : Heap} {tk : Nat} {s : Shared} {Q : α → Shared → Prop} {E : Value → Shared → Prop}
    (ht : Tr w (c.comp mv sc' scope cl C m₂ hx) mc n1 t P0) (hP : ∀ a m2 n2, P0 a m2 n2 → m2 = mc) (hne : mc ≠ [])
    (F : Fr c.h₀ c.L h mv) (V : VarsAt mc ((c.comp mv sc' scope cl C m₂ hx).lv mv)) (N : News c.h₀ c.L h (hx ++ (l ++ c.hid))) (D : ((hx ++ (l ++ c.hid)).map (·.1)).Nodup) (R : Real w.params n1 l)
    (q : ∀ a n2 l2 h' tk', P0 a mc n2 → Fr c.h₀ c.L h' mv → News c.h₀ c.L h' (hx ++ (l2 ++ c.hid)) → ((hx ++ (l2 ++ c.hid)).map (·.1)).Nodup → Real w.params n2 l2 → Q a { s with heap := h', toks := tk' }) :
    wpAny (model PR w) c.A t Q E { s with heap := h, toks := tk } := by
  have perm : ∀ l : Led, (l ++ (hx ++ c.hid)).Perm (hx ++ (l ++ c.hid)) := fun l => by rw [← List.append_assoc]; exact permH l hx c.hid
  refine ht _ Q E ⟨mv, l, F, V, fun p hp => N p ((perm l).mem_iff.mp hp), R, (((perm l).map _).nodup_iff).mpr D⟩ fun a m2 n2 h' tk' hp F2 => ?_
  obtain rfl := hP _ _ _ hp
  obtain ⟨mv2, l2, F2, V2, N2, R2, D2⟩ := F2
  obtain rfl : mv2 = mv := by
    cases m2 with
    | nil => exact absurd rfl hne
    | cons p r => obtain ⟨v, hv, _⟩ := V2 p (.head _); exact Cx.comp_own hv
  exact q a n2 l2 h' tk' hp F2 (fun p hp' => N2 p ((perm l2).mem_iff.mpr hp')) ((((perm l2).map _).nodup_iff).mp D2) R2
/-- v may be walked through: its items are vs; kp is what it is made of -/
noncomputable def Src (w : World) (tg : Expr) (v : Value) (vs : List AV) (kp : Led) : Prop :=
  ∀ (A : Around) (s : Shared) (Q : Value → Shared → Prop) (E : Value → Shared → Prop), A.handled = none → (∀ p ∈ kp, s.heap.get? p.1 = some p.2) →
    (∀ oI St, Walks PR w A s.heap.objs.size (s.heap.objs.size :: kp.map (·.1)) [s.heap.objs.size] vs.length (fun i v => ∃ a, vs[i]? = some a ∧ a.has v) St → oI.isFreed = false → St 0 (s.heap.push oI) → (∀ i h, St i h → ∃ o, h.get? s.heap.objs.size = some o) →
      (∀ i a v s' Q E, vs[i]? = some a → a.has v → St (i + 1) s'.heap → Q () s' → wpAny (model PR w) A (letOwnedTupleGo tg (.ref s.heap.objs.size) v) Q E s') → Q (.ref s.heap.objs.size) { s with heap := s.heap.push oI }) → wpAny (model PR w) A (pyIter v) Q E s
/-- a may be walked through; np of the ledger lies still meanwhile -/
noncomputable def SrcAt (w : World) (tg : Expr) (a : AV) (vs : List AV) (np : ALed) (vp : Led) (n1 n0 : ALed) : Prop :=
  ∀ l, Real w.params n1 l → ∃ own l0, l.Perm (own ++ l0) ∧ Real w.params np own ∧ Real w.params n0 l0 ∧ ∀ v, a.has v → Src w tg v vs (own ++ vp)
theorem Walks.sub' {A : Around} {I : Addr} {fp wr : List Addr} {n : Nat} {P P' : Nat → Value → Prop} {St : Nat → Heap → Prop} (W : Walks PR w A I fp wr n P St) (h : ∀ i v, i < n → P i v → P' i v) : Walks PR w A I fp wr n P' St :=
  { W with item := fun i s Q E hi st hQ => W.item i s Q E hi st fun v h' tk hp => hQ v h' tk (h i v hi hp) }
/-- the target can take every item so -/
noncomputable def plainG (e : Expr) : Bool := Nat.beq e.ctorIdx 23
theorem letGo_plain {A : Around} {tg : Expr} {I : Addr} {v : Value} {Q : Unit → Shared → Prop} {E} {s : Shared} (h : plainG tg = true) (q : Q () s) : wpAny (model PR w) A (letOwnedTupleGo tg (.ref I) v) Q E s := by
  cases tg <;> first | exact letGo_name q | cases h
theorem SrcAt.lst {tg ax vs n1 n0} (ht : Take (ax, .lst vs) n1 n0) (hg : plainG tg = true ∨ (∃ es k p, tg = .Tuple es k p) ∧ ∀ a ∈ vs, ∃ T, a = .ref T) : SrcAt w tg (.ref ax) vs [(ax, .lst vs)] [] n1 n0 := fun l R => by
  obtain ⟨own, l0, hp, h1, h2⟩ := R.take ht
  refine ⟨own, l0, hp, h1, h2, fun v hv A s Q E hh hk q => ?_⟩
  obtain rfl : v = .ref ax := hv
  obtain ⟨us, k, rfl, ha⟩ := h1.one
  have hl : s.heap.IsList ax us.toArray := ⟨_, hk _ (.head _), rfl, _, rfl⟩
  have hlt : ax < s.heap.objs.size := Heap.lt_size (hk _ (.head _))
  refine wpAny_pyIter_list hl (q _ (fun i h => h.IsListIter s.heap.objs.size ax i ∧ h.IsList ax us.toArray) ?_ rfl ⟨⟨_, Heap.get?_push_size _ rfl, rfl, rfl⟩, ⟨_, Heap.get?_push_of_some _ (hk _ (.head _)), rfl, _, rfl⟩⟩ (fun i h st => let ⟨o, e, _⟩ := st.1; ⟨o, e⟩) ?_)
  · have W := Walks.sub' (Walks.list (prog := PR) (w := w) hh s.heap.objs.size ax (Nat.ne_of_lt hlt) us.toArray) (P' := fun i v => ∃ a, vs[i]? = some a ∧ a.has v) fun i v hi hp => ha.get (show us[i]? = some v by simpa using hp)
    rw [show us.toArray.size = vs.length from ha.length] at W
    exact W
  · intro i a v s' Q' E' ha' hv st q'
    rcases hg with hg | ⟨⟨es, k, p, rfl⟩, hg⟩
    · exact letGo_plain hg q'
    · obtain ⟨T, rfl⟩ := hg a (List.mem_of_getElem? ha')
      obtain rfl : v = .ref T := hv
      exact wpAny_letOwnedTupleGo_listiter st.1 q'
/-- a target takes a, tv are the names that it binds -/
noncomputable def TgtK (w : World) (sc' : Scope) (n1 : ALed) (tg : Expr) (a : AV) (tv : Vars) : Prop := (∀ p ∈ tv, kindIs sc' p.1 .local = true) ∧ tv ≠ [] ∧
  ∀ (A : Around) (env : Env) (v : Value) (l : Led) (s : Shared) (Q : Unit → Shared → Prop) (E : Value → Shared → Prop) (m1 : Str → Option Value), A.handled = none → env.scope = sc' → sc'.kind = .function → a.has v → Real w.params n1 l → (∀ p ∈ l, s.heap.get? p.1 = some p.2) → s.heap.Ns env.locals m1 →
    (∀ h' tk m₂, h'.Ns env.locals m₂ → (∀ b o, b ≠ env.locals → s.heap.get? b = some o → h'.get? b = some o) → VarsAt tv m₂ → Q () { s with heap := h', toks := tk }) → wpAny (model PR w) A (assign tg env v) Q E s
theorem TgtK.name {sc' n1 x px a} (hx : kindIs sc' x .local = true) : TgtK w sc' n1 (.Name x px) a [(x, a)] :=
  ⟨fun p hp => by rw [List.mem_singleton.mp hp]; exact hx, List.cons_ne_nil _ _, fun A env v l s Q E m1 hh he hk hv R hl hn q => by
    refine wpAny_assign_Name (wpAny_storeName_local (by unfold Env.kindOf; rw [he]; exact (kindIs_of hx).1) hn (fun h₂ hn₂ hs₂ => q h₂ _ _ hn₂ (fun b o hb e => hs₂.extBut b o hb e) fun p hp => ?_) (by rw [he, hk]; rfl))
    rw [List.mem_singleton.mp hp]; exact ⟨v, if_pos rfl, hv⟩⟩
theorem TgtK.pair {sc' n1 a b pa pb kk tp T} {x y : AV} (hT : (T, .tup [x, y]) ∈ n1) (ha : kindIs sc' a .local = true) (hb : kindIs sc' b .local = true) (hab : (a == b) = false) : TgtK w sc' n1 (.Tuple [.Name a pa, .Name b pb] kk tp) (.ref T) [(b, y), (a, x)] :=
  ⟨fun p hp => by
    rcases List.mem_cons.mp hp with rfl | hp
    · exact hb
    · rw [List.mem_singleton.mp hp]; exact ha, List.cons_ne_nil _ _, fun A env v l s Q E m1 hh he hk hv R hl hn q => by
    obtain rfl : v = .ref T := hv
    obtain ⟨us, hu, hm⟩ := R.tupAt hT
    obtain ⟨u, v, rfl, h1, h2⟩ := hu.two
    refine kcp_assign hh ⟨_, hl _ hm, rfl, _, rfl⟩ (by unfold Env.kindOf; rw [he]; exact (kindIs_of ha).1) (by unfold Env.kindOf; rw [he]; exact (kindIs_of hb).1) (by rw [he, hk]; rfl) hn fun h₄ tk₄ hn₄ hs₄ => q h₄ tk₄ _ hn₄ hs₄ (VarsAt.two (if_pos rfl) ?_ h2 h1)
    have : ¬ a = b := by simpa using hab
    show (if a = b then _ else if a = a then _ else _) = _
    rw [if_neg this, if_pos rfl]⟩
/-- the tests of a comprehension come out as b -/
noncomputable def Tests (S : St) (ifs : List Expr) (b : Bool) : Prop := ∀ c : Cx, c.Ok S.w S.sc S.d → Tr S.w c S.m S.n (forIn ifs true fun t r => if r = true then do let ok ← isTrue t c.env (eval t c.env); pure (ForInStep.yield ok) else pure (ForInStep.yield r)) fun v m' n' => m' = S.m ∧ n' = S.n ∧ v = b
theorem Tests.nil {S : St} : Tests S [] true := fun c ok s Q E F q => wpAny_tests_nil (q _ _ _ s.heap s.toks ⟨rfl, rfl, rfl⟩ F)
theorem Tests.one {S : St} {t b} (h : Tst S t b) : Tests S [t] b := fun c ok s Q E F q => wpAny_tests_one (h c ok s Q E F q)
theorem comp_loop {A : Around} {elt target iter : Expr} {ifs : List Expr} {scope : Scope} {pos : Pos} {it acc : Value} {env : Env} {R : Result → Shared → Prop} (I : Nat → Shared → Prop)
    (turn : ∀ n s, I n s → wpAny (model PR w) A (pyNext it) (fun r s₁ => match r with
      | none => R (.ok .next) s₁
      | some v => wpAny (model PR w) A (letOwnedTupleGo target it v) (fun _ s₀ => wpAny (model PR w) A (assign target env v) (fun _ s₂ =>
          wpAny (model PR w) A (forIn ifs true fun c r => if r = true then do let ok ← isTrue c env (eval c env); pure (ForInStep.yield ok) else pure (ForInStep.yield r)) (fun ok s₃ => if ok = true then wpAny (model PR w) A (eval elt env) (fun x s₄ =>
            wpAny (model PR w) A (call (.builtin "list.append") [acc, x]) (fun _ s₅ => ∃ m, m < n ∧ I m s₅) (notedBy (model PR w) A env fun e s' => R (.error e) s') s₄) (notedBy (model PR w) A env fun e s' => R (.error e) s') s₃
            else ∃ m, m < n ∧ I m s₃) (notedBy (model PR w) A env fun e s' => R (.error e) s') s₂)
          (notedBy (model PR w) A env fun e s' => R (.error e) s') s₀) (notedBy (model PR w) A env fun e s' => R (.error e) s') s₁) (notedBy (model PR w) A env fun e s' => R (.error e) s') s)
    (n : Nat) (s : Shared) (h : I n s) : codeAny (model PR w) A (.compLoop (.ListComp elt [⟨target, iter, ifs, 0⟩] scope pos) 0 it acc env) R s := by
  refine codeAny_loop rfl I (fun n s hI => ?_) n h
  show wpAny _ A ((compTurn (.ListComp elt [⟨target, iter, ifs, 0⟩] scope pos) 0 it acc env).onRaise (fun x => do noteFrame x env; theTreesLotGoes x)) _ _ s
  refine wpAny_noted ?_
  rw [compTurn_list]
  refine wpAny_bind (wpAny_standAt (wpAny_bind (wpAny_mono (turn n s hI) (fun r s₁ h₁ => ?_) fun _ _ h' => h')))
  cases r with
  | none => exact wpAny_pure h₁
  | some v =>
    refine wpAny_bind (wpAny_mono h₁ (fun _ s₀ h₀' => wpAny_bind (wpAny_mono h₀' (fun _ s₂ h₂ => wpAny_bind (wpAny_mono h₂ (fun okb s₃ h₃ => ?_) fun _ _ h' => h')) fun _ _ h' => h')) fun _ _ h' => h')
    cases okb with
    | false => exact wpAny_pure ⟨rfl, h₃⟩
    | true => exact wpAny_bind (wpAny_bind (wpAny_mono h₃ (fun x s₄ h₄ => wpAny_bind (wpAny_mono h₄ (fun _ s₅ h₅ => wpAny_pure (wpAny_pure ⟨rfl, h₅⟩)) fun _ _ h' => h')) fun _ _ h' => h'))
/-- how a comprehension comes to its end -/
inductive CompK (w : World) (sc sc' : Scope) (d : Nat) (m cv : Vars) (tg : Expr) (ifs : List Expr) (elt : Expr) (K : Addr → List AV → ALed → Prop) (a : AV) (n1 : ALed) : Prop
  | mk (vs : List AV) (np : ALed) (vp : Led) (n0 : ALed) (Inv : Nat → List AV → ALed → Prop) : SrcAt w tg a vs np vp n1 n0 → (∀ i as1 n2 l, Inv i as1 n2 → Real w.params n2 l → ∀ p ∈ vp, p ∈ l) → vs.length ≤ 100000 → Inv 0 [] n0 →
      (∀ i v as1 n2, vs[i]? = some v → Inv i as1 n2 → ∃ tv, TgtK w sc' n2 tg v tv ∧ ∃ b, Tests ⟨w, sc', d, tv ++ cv, n2⟩ ifs b ∧ (b = true → EvK ⟨w, sc', d, tv ++ cv, n2⟩ elt fun z n3 => Inv (i + 1) (as1 ++ [z]) n3) ∧ (b = false → Inv (i + 1) as1 n2)) →
      (∀ D as1 n2, Inv vs.length as1 n2 → K D as1 (np ++ n2)) → CompK w sc sc' d m cv tg ifs elt K a n1
/-- the loop's state -/
inductive CompI (w : World) (c : Cx) (mv : Str → Option Value) (N : Nat) (kp : Led) (I C D : Addr) (St : Nat → Heap → Prop) (Inv : Nat → List AV → ALed → Prop) (s : Shared) : Nat → Shared → Prop
  | mk (h' : Heap) (tk i : Nat) (us : List Value) (oI oC : Obj) (m' : Str → Option Value) (l : Led) (n1 : ALed) (as : List AV) : i ≤ N → as.length ≤ i → St i h' → Fr c.h₀ c.L h' mv → LCg.NsObj oC m' → News c.h₀ c.L h' (((I, oI) :: (C, oC) :: (D, LCg.lst us) :: kp) ++ (l ++ c.hid)) →
      ((((I, oI) :: (C, oC) :: (D, LCg.lst us) :: kp) ++ (l ++ c.hid)).map (·.1)).Nodup → Real w.params n1 l → Has as us → Inv i as n1 → CompI w c mv N kp I C D St Inv s (N + 1 - i) { s with heap := h', toks := tk }
theorem compCore {c : Cx} (ok : c.Ok w sc d) {elt iter tg : Expr} {ifs : List Expr} {scope sc' : Scope} {pos pos' : Pos} (cv : Vars) {K : Addr → List AV → ALed → Prop} {use : Option (Value → Sem Unit)} {s : Shared} {Q : Value → Shared → Prop} {E : Value → Shared → Prop} (F : Frm w c m n s)
    (h : EvK ⟨w, sc, d, m, n⟩ iter (CompK w sc sc' d m cv tg ifs elt K)) (cap : Cap ⟨w, sc, d, m, n⟩ scope sc') (hc : ∀ p ∈ cv, p ∈ m ∧ kindIs sc' p.1 .cell = true) (hs : ∀ env x, foldedSetIterable iter env x = pure x)
    (hend : ∀ D as1 n2 C oC m' h' tk', K D as1 n2 → LCg.NsObj oC m' → Frm w c m ((C, .raw oC) :: (D, .lst as1) :: n2) { s with heap := h', toks := tk' } → compPost (model PR w) c.A E use Q (.ref D) C (.ok .next) { s with heap := h', toks := tk' }) :
    wpAny (model PR w) c.A (comprehension (.ListComp elt [⟨tg, iter, ifs, 0⟩] scope pos) scope c.env pos' (newList []) false (eval iter c.env) use) Q E s := by
  obtain ⟨cl, hcl, hcc⟩ := cap.clos c ok s F
  refine wpAny_comprehension_free rfl (hs _) hcl cap.kind cap.names ?_
  refine h.run ok F fun v n1 h1 tk1 a hv hk F1 => CompK.casesOn hk fun vs np vp n0 Inv src hvis hsz hI0 turn fin => ?_
  clear hk
  obtain ⟨mv, l, F', V, N, R, D⟩ := F1
  obtain ⟨kp, l0, hp, Rk, R0, src⟩ := src l R
  have hp2 : (l ++ c.hid).Perm (kp ++ (l0 ++ c.hid)) := by rw [← List.append_assoc]; exact List.Perm.append_right _ hp
  replace N : News c.h₀ c.L h1 (kp ++ (l0 ++ c.hid)) := fun p hp' => N p (hp2.mem_iff.mpr hp')
  replace D := ((hp2.map _).nodup_iff).mp D
  clear hp hp2 R
  refine src v hv c.A _ _ _ rfl (fun p hp => (N p ((List.mem_append.mp hp).elim (fun h => List.mem_append_left _ h) fun h => List.mem_append_right _ (List.mem_append_left _ (hvis _ _ _ _ hI0 R0 p h)))).1) fun oI St W hfr st0 hget hlet => ?_
  dsimp only at W st0 hget hlet ⊢
  obtain ⟨F2, N2, D2⟩ := add F' N D rfl (fun b x hb e => Heap.get?_push_of_some _ e) (Heap.get?_push_size _ hfr)
  clear N D F' src
  generalize h1.objs.size = I at *
  generalize h1.push oI = h2 at *
  have stay : ∀ {i : Nat} {h h' : Heap} {X Y : Led} {o : Obj}, St i h → News c.h₀ c.L h ((I, o) :: X) → News c.h₀ c.L h' ((I, o) :: Y) → (∀ p ∈ kp ++ vp, p ∈ X ∧ p ∈ Y) → St i h' := fun st A B k => W.frame _ _ _ st fun b hb x e => by
    rcases List.mem_cons.mp hb with rfl | hb
    · have := (A _ (.head _)).1; rw [e] at this; cases this; exact (B _ (.head _)).1
    · obtain ⟨p, hp, rfl⟩ := List.mem_map.mp hb
      have := (A _ (.tail _ (k p hp).1)).1; rw [e] at this; cases this; exact (B _ (.tail _ (k p hp).2)).1
  refine wpAny_newObj_type (wpAny_newFunctionEnv cap.nocell (by intro y hy; simp at hy) (fun h₁ hns₁ hsb₁ => ?_) cap.kind)
  dsimp only at hns₁ hsb₁ ⊢
  obtain ⟨F3, N3, D3⟩ := add (o' := LCg.lst []) F2 N2 D2 rfl (fun b x hb e => Heap.get?_push_of_some _ e) (Heap.get?_push_size _ rfl)
  clear D2 F2
  generalize h2.objs.size = DD at *
  generalize h2.push { cls := .type "list", dict := none, data := .seq ([] : List Value).toArray } = h3 at *
  obtain ⟨oC, heC, hoC⟩ := LCg.ns_obj hns₁
  obtain ⟨F4, N4, D4⟩ := add F3 N3 D3 rfl (fun b x hb e => hsb₁.extBut b x hb (Heap.get?_push_of_some _ e)) heC
  clear N3 D3 F3 hsb₁ hns₁ heC
  generalize h3.objs.size = C at *
  have swap : ∀ {x y z : Addr × Obj} {r : Led}, (x :: y :: z :: r).Perm (z :: x :: y :: r) := fun {x y z r} => ((List.Perm.swap z y r).cons x).trans (List.Perm.swap z x (y :: r))
  have N5 : News c.h₀ c.L h₁ (((I, oI) :: (C, oC) :: (DD, LCg.lst []) :: kp) ++ (l0 ++ c.hid)) := fun p hp => N4 p (swap.mem_iff.mpr hp)
  have D5 : ((((I, oI) :: (C, oC) :: (DD, LCg.lst []) :: kp) ++ (l0 ++ c.hid)).map (·.1)).Nodup := ((swap.map _).nodup_iff).mp D4
  clear N4 D4
  have inX : ∀ {x y : Addr × Obj} {i as n l}, Inv i as n → Real w.params n l → ∀ p ∈ kp ++ vp, p ∈ x :: y :: (kp ++ (l ++ c.hid)) := fun hI R p hp => .tail _ (.tail _ ((List.mem_append.mp hp).elim (fun h => List.mem_append_left _ h) fun h => List.mem_append_right _ (List.mem_append_left _ (hvis _ _ _ _ hI R p h))))
  have hsc : ∀ C, (compEnvC scope cl C c.env).scope = sc' := fun C => cap.rel _ ok.scope
  have hsk : sc'.kind = .function := by rw [← cap.rel _ ok.scope]; exact cap.kind
  have st1 : St 0 h₁ := stay st0 N2 N5 fun p hp => ⟨(List.mem_append.mp hp).elim (fun h => List.mem_append_left _ h) fun h => List.mem_append_right _ (List.mem_append_left _ (hvis _ _ _ _ hI0 R0 p h)), inX hI0 R0 p hp⟩
  have loop := comp_loop (w := w) (A := c.A) (elt := elt) (target := tg) (iter := iter) (ifs := ifs) (scope := scope) (pos := pos) (it := .ref I) (acc := .ref DD) (env := compEnvC scope cl C c.env) (R := compPost (model PR w) c.A E use Q (.ref DD) C)
    (CompI w c mv vs.length kp I C DD St Inv s) ?_ (vs.length + 1) { s with heap := h₁, toks := tk1 } (.mk h₁ tk1 0 [] oI oC _ l0 n0 [] (Nat.zero_le _) (Nat.le_refl _) st1 F4 hoC N5 D5 R0 .nil hI0)
  · exact codeAny_compStart_list loop (W.self 0 _ _ _ st1 loop)
  · refine fun k s' h9 => CompI.casesOn h9 fun h' tk i us oI oC m' l n1 as hi hal st F hoC N D R hu hI => ?_
    clear h9
    by_cases hlt : i < vs.length
    · refine W.item i _ _ _ hlt st fun v h₂ tk₂ ⟨a, ha, hav⟩ st₂ hk₂ => ?_
      obtain ⟨oI2, hoI2⟩ := hget _ _ st₂
      obtain ⟨F2, N2, D2⟩ := chg (X1 := []) F N D (fun b x hb e => hk₂ b x (by simpa using hb) e) hoI2
      obtain ⟨tv, ⟨htl, htn, htk⟩, b, hb, hbt, hbf⟩ := turn i a as n1 ha hI
      refine hlet i a v _ _ _ ha hav st₂ ?_
      refine htk c.A _ v l _ _ _ m' rfl (hsc C) hsk hav R (fun p hp => (N2 p (List.mem_append_right ((I, oI2) :: (C, oC) :: (DD, LCg.lst us) :: kp) (List.mem_append_left _ hp))).1) (hoC.ns (N2 (C, oC) (.tail _ (.head _))).1) fun h₃ tk₃ m₂ hn₃ hk₃ hV₃ => ?_
      obtain ⟨oC3, heC3, hoC3⟩ := LCg.ns_obj hn₃
      obtain ⟨F3, N3, D3⟩ := chg (X1 := [(I, oI2)]) F2 N2 D2 hk₃ heC3
      have st₃ := stay st₂ N2 N3 fun p hp => ⟨inX hI R p hp, inX hI R p hp⟩
      have okc := Cx.comp_ok (s := s) (mv := mv) (hx := (I, oI2) :: (C, oC3) :: (DD, LCg.lst us) :: kp) ok cap.rel cap.kind hcc hoC3 (.tail _ (.head _))
      have Vc : VarsAt (tv ++ cv) ((c.comp mv sc' scope cl C m₂ ((I, oI2) :: (C, oC3) :: (DD, LCg.lst us) :: kp)).lv mv) := fun p hp => by
        rw [Cx.comp_lv]
        rcases List.mem_append.mp hp with hp | hp
        · rw [if_neg (notCell (htl p hp))]; exact hV₃ p hp
        · rw [if_pos (hc p hp).2]; exact V p (hc p hp).1
      have hne : tv ++ cv ≠ [] := fun e => htn (List.append_eq_nil_iff.mp e).1
      refine compTr (hb _ okc) (fun _ _ _ h => h.1) hne F3 Vc N3 D3 R ?_
      intro tb n2 l2 h₄ tk₄ e4 F4 N4 D4 R4
      have R4 := (show n2 = n1 from e4.2.1) ▸ R4
      rw [e4.2.2]
      cases b with
      | false =>
        rw [if_neg (by decide)]
        exact ⟨vs.length + 1 - (i + 1), by (first | lia | omega), .mk h₄ tk₄ (i + 1) us oI2 oC3 m₂ l2 n1 as hlt (Nat.le_succ_of_le hal) (stay st₃ N3 N4 fun p hp => ⟨inX hI R p hp, inX hI R4 p hp⟩) F4 hoC3 N4 D4 R4 hu (hbf rfl)⟩
      | true =>
        rw [if_pos rfl]
        refine compTr (s := s) (hbt rfl _ okc) (fun _ _ _ h => h.1) hne F4 Vc N4 D4 R4 ?_
        refine fun y n3 l3 h₅ tk₅ p5 F5 N5 D5 R5 => p5.2.elim fun z p5 => ?_
        have hz := p5.1
        have hI3 := p5.2
        clear p5
        refine append_at (hsz := by rw [List.size_toArray, hu.length, sizeLine_eq]; (first | lia | omega)) (N5 (DD, LCg.lst us) (.tail _ (.tail _ (.head _)))).1 fun h₆ hs₆ hD₆ => ?_
        obtain ⟨F6, N6, D6⟩ := chg (X1 := [(I, oI2), (C, oC3)]) (o' := LCg.lst (us ++ [y])) F5 N5 D5 (fun b x hb e => hs₆.extBut b x hb e) (hD₆.trans (congrArg some (LCg.lst_snoc us y)))
        exact ⟨vs.length + 1 - (i + 1), by (first | lia | omega), .mk h₆ tk₅ (i + 1) (us ++ [y]) oI2 oC3 m₂ l3 n3 (as ++ [z]) hlt (by rw [List.length_append, List.length_singleton]; exact Nat.succ_le_succ hal) (stay st₃ N3 N6 fun p hp => ⟨inX hI R p hp, inX hI3 R5 p hp⟩) F6 hoC3 N6 D6 R5 (hu.snoc hz) hI3⟩
    · obtain rfl : i = vs.length := Nat.le_antisymm hi (Nat.not_lt.mp hlt)
      refine W.done _ _ _ st fun h₂ tk₂ hk₂ => ?_
      obtain ⟨F2, N2, D2⟩ := drp F N D fun b x hb e => hk₂ b x (by simpa using hb) e
      refine hend DD as (np ++ n1) C oC m' h₂ tk₂ (fin DD as n1 hI) hoC ⟨mv, (C, oC) :: (DD, LCg.lst us) :: (kp ++ l), F2, V, ?_, .raw (.lst hu (Rk.app R)), ?_⟩
      · simpa using N2
      · simpa using D2
theorem Frm.letGo {c : Cx} {s : Shared} {C : Addr} {oC : Obj} {h'' : Heap} (F : Frm w c m ((C, .raw oC) :: n) s) (hs : Heap.SameBut C s.heap h'') : Frm w c m n { s with heap := h'' } := by
  obtain ⟨mv, l, F', V, N, R, D⟩ := F
  obtain ⟨_, l, rfl, rfl, R4⟩ := R.ent
  obtain ⟨F3, N3, D3⟩ := drp F' N D fun b x hb e => hs.extBut b x hb e
  exact ⟨mv, _, F3, V, N3, R4, D3⟩
theorem Frm.rawAt {c : Cx} {s : Shared} {C : Addr} {oC : Obj} (F : Frm w c m ((C, .raw oC) :: n) s) : s.heap.get? C = some oC := by
  obtain ⟨mv, l, F', V, N, R, D⟩ := F
  obtain ⟨_, l, rfl, rfl, R4⟩ := R.ent
  exact (N _ (.head _)).1
/-- a comprehension: cv are the captured names -/
theorem EvK.comp {elt iter tg : Expr} {ifs : List Expr} {scope sc' : Scope} {pos : Pos} (cv : Vars)
    (h : EvK ⟨w, sc, d, m, n⟩ iter (CompK w sc sc' d m cv tg ifs elt fun D as1 n2 => ∃ n3, (∀ (c : Cx) (m : Vars) (s : Shared), Frm w c m ((D, .lst as1) :: n2) s → Frm w c m n3 s) ∧ P (.ref D) n3))
    (cap : Cap ⟨w, sc, d, m, n⟩ scope sc') (hc : ∀ p ∈ cv, p ∈ m ∧ kindIs sc' p.1 .cell = true) (hs : ∀ env x, foldedSetIterable iter env x = pure x) :
    EvK ⟨w, sc, d, m, n⟩ (.ListComp elt [⟨tg, iter, ifs, 0⟩] scope pos) P := fun c ok s Q E F q => by
  rw [eval_ListComp]
  refine compCore ok cv F h cap hc hs fun D as1 n2 C oC m' h' tk' ⟨n3, h3, hP⟩ hoC F2 => ⟨m', hoC.ns F2.rawAt, fun h'' hs'' => ?_⟩
  exact q (.ref D) m n3 h'' tk' ⟨rfl, AV.ref D, rfl, hP⟩ (h3 _ _ _ (F2.letGo hs''))
/-- a name takes a comprehension -/
theorem Ws.assignC {elt iter tg : Expr} {x : Str} {xp : Pos} {ifs : List Expr} {scope sc' : Scope} {pos spos : Pos} {m0 : Vars} {R : Flow → Vars → ALed → Prop} {rest : List Stmt} {bs : List (List Stmt)} (cv : Vars)
    (h : EvK ⟨w, sc, d, m, n⟩ iter (CompK w sc sc' d m cv tg ifs elt fun D as1 n2 => ∃ n3, (∀ (c : Cx) (m : Vars) (s : Shared), Frm w c m ((D, .lst as1) :: n2) s → Frm w c m n3 s) ∧ Ws ⟨w, sc, d, (x, .ref D) :: m0, n3⟩ (rest :: bs) R))
    (cap : Cap ⟨w, sc, d, m, n⟩ scope sc') (hc : ∀ p ∈ cv, p ∈ m ∧ kindIs sc' p.1 .cell = true) (hs : ∀ env x, foldedSetIterable iter env x = pure x) (hp : Pick x m m0) (hk : keyOut x m0 = true) (k : kindIs sc x .local = true)
    (hsw : ∀ env : Env, env.scope = sc → swapsWith (.ListComp elt [⟨tg, iter, ifs, 0⟩] scope pos) (some (.Name x xp)) spos.line env = pure true) :
    Ws ⟨w, sc, d, m, n⟩ ((.Assign [.Name x xp] (.ListComp elt [⟨tg, iter, ifs, 0⟩] scope pos) spos :: rest) :: bs) R := Ws.cons fun c ok s Q E F q => by
  rw [exec_Assign_Name_used _ _ _ _ (hsw _ ok.ok.scope)]
  refine wpAny_bind (wpAny_standAt (wpAny_bind ?_))
  show wpAny _ c.A (do let _ ← comprehension (.ListComp elt [⟨tg, iter, ifs, 0⟩] scope pos) scope c.env _ (newList []) false (eval iter c.env) (some (PySem.assign (.Name x xp) c.env))) _ _ s
  refine wpAny_bind (wpAny_mono (compCore (Q := fun _ s' => Q .next s') ok.ok cv F h cap hc hs fun D as1 n2 C oC m' h' tk' ⟨n3, h3, hW⟩ hoC F2 => ?_) (fun _ s' hq => wpAny_pure (wpAny_pure hq)) fun _ _ e => e)
  refine PyProof.Rows.assign_Name (Tr.store (P := fun _ m' n' => m' = (x, .ref D) :: m0 ∧ n' = (C, .raw oC) :: (D, .lst as1) :: n2) ok (a := .ref D) (v := .ref D) rfl hp hk k ⟨rfl, rfl⟩ _ _ _ F2 fun _ m2 n4 h4 tk4 ⟨e1, e2⟩ F4 => ?_)
  cases e1; cases e2
  exact ⟨m', hoC.ns F4.rawAt, fun h'' hs'' => q .next _ n3 h'' tk4 (hW c ok) (h3 _ _ _ (F4.letGo hs''))⟩
end

section
variable {w : World} {sc : Scope} {d : Nat} {m : Vars} {n : ALed} {R : Flow → Vars → ALed → Prop} {rest : List Stmt} {bs : List (List Stmt)}
/-- a body from which nothing is raised -/
noncomputable def TryR (w : World) (sc : Scope) (d : Nat) (rest : List Stmt) (bs : List (List Stmt)) (R : Flow → Vars → ALed → Prop) : Flow → Vars → ALed → Prop := fun f m n => match f with
  | .next => Ws ⟨w, sc, d, m, n⟩ (rest :: bs) R
  | f => R f m n
theorem Ws.try {body h₀ hs pos} (h : Ws ⟨w, sc, d, m, n⟩ [body] (TryR w sc d rest bs R)) : Ws ⟨w, sc, d, m, n⟩ ((.Try body (h₀ :: hs) [] [] pos :: rest) :: bs) R := Ws.cons fun c ok s Q E F q => by
  refine wpAny_Try_except (h c ok s _ _ F fun f m1 n1 h1 tk1 k F1 => ?_)
  cases f with
  | next => exact wpAny_execs_nil (q .next m1 n1 h1 tk1 (k c ok) F1)
  | _ => exact q _ m1 n1 h1 tk1 (Cont.off (fun e => nomatch e) k) F1
theorem Take.sub {p : Addr × AO} {n n0 : ALed} (h : Take p n n0) : ∀ q ∈ n0, q ∈ n := by
  induction h with
  | head => exact fun q hq => .tail _ hq
  | tail _ ih => intro q hq; rcases List.mem_cons.mp hq with rfl | hq; exact .head _; exact .tail _ (ih q hq)
theorem EvK.sweep {S : St} {e : Expr} {P : AV → ALed → Prop} (h : EvK S e fun a n1 => ∃ n2, n2.Sublist n1 ∧ P a n2) : EvK S e P := fun c ok s Q E F q =>
  h c ok s Q E F fun v m1 n1 h1 tk1 ⟨e1, a, ha, n2, hs, hp⟩ F1 => q v m1 n2 h1 tk1 ⟨e1, a, ha, hp⟩ (F1.sub (fun p hp => hp) hs)
theorem Frm.front {w : World} {c : Cx} {m : Vars} {n n0 : ALed} {s : Shared} {p : Addr × AO} (F : Frm w c m n s) (h : Take p n n0) : Frm w c m (p :: n0) s :=
  F.of_perm fun R => by
    obtain ⟨own, l0, hp, h1, h2⟩ := R.take h
    exact ⟨own ++ l0, hp.symm, by rw [← List.singleton_append]; exact h1.app h2⟩
theorem EvK.front {S : St} {e : Expr} {P : AV → ALed → Prop} (h : EvK S e fun a n1 => ∃ p n0 n2, Take p n1 n0 ∧ n2.Sublist n0 ∧ P a (p :: n2)) : EvK S e P := fun c ok s Q E F q =>
  h c ok s Q E F fun v m1 n1 h1 tk1 ⟨e1, a, ha, p, n0, n2, ht, hs, hp⟩ F1 => q v m1 (p :: n2) h1 tk1 ⟨e1, a, ha, hp⟩ ((F1.front ht).sub (fun p hp => hp) (hs.cons_cons p))
theorem Take.app {p : Addr × AO} {n n0 : ALed} (h : Take p n n0) (tl : ALed) : Take p (tl ++ n) (tl ++ n0) := by
  induction tl with
  | nil => exact h
  | cons _ _ ih => exact .tail ih
end
theorem Frm.back {w : World} {c : Cx} {m : Vars} {n n0 : ALed} {s : Shared} {x p : Addr × AO} (h : Take p n n0) (F : Frm w c m (x :: p :: n0) s) : Frm w c m (x :: n) s :=
  (F.front (.tail .head)).of_perm (Real.untake (.tail h))
inductive CopI (n0 : ALed) (rows : List (Int × By)) (i : Nat) (as1 : List AV) : ALed → Prop
  | mk (tl : ALed) : Paired (OptAt (tl ++ n0)) as1 ((rows.take i).filter fun r => decide (128 ≤ r.1)) → as1.length ≤ i → CopI n0 rows i as1 (tl ++ n0)
theorem copied_fn {w : World} {n n0 : ALed} {l : Addr} {as : List AV} {rows : List (Int × By)} {P : AV → ALed → Prop} (hl : Take (l, .lst as) n n0) (hp : Paired (OptAt n0) as rows) (hz : as.length ≤ 40)
    (hP : ∀ D as2 tl, Paired (OptAt (tl ++ n)) as2 (rows.filter fun r => decide (128 ≤ r.1)) → as2.length ≤ 40 → P (.ref D) ((D, .lst as2) :: (tl ++ n))) : CallK w 2 n (.ref 290) [.ref l] P := by
  (refine' CallK.fn [(Str.ofString "options", .ref l)] ?o ?c ?b ?s ?_; (case o => k_is); (case c => k_is); (case b => exact bind1 fun s9 _ X9 => by first | exact BindsTo.of_eq rfl | exact binds_K X9 rfl (by k_is) rfl rfl rfl); (case s => kernel_rfl!))
  refine Ws.retP ?_
  refine EvK.comp (sc' := _) [] (EvK.ofE (by tm_at "ev") ⟨as, [(l, .lst as)], [], n0, CopI n0 rows, SrcAt.lst hl (.inr ⟨⟨_, _, _, rfl⟩, ?_⟩), fun _ _ _ _ _ _ _ h => (nomatch h), by (first | lia | omega), .mk [] .nil (Nat.le_refl _), ?_, ?_⟩) (Cap.none (by rfl) fun _ => rfl) (List.forall_mem_nil _) (fun _ _ => rfl)
  · intro a ha
    obtain ⟨i, hi⟩ := List.mem_iff_getElem?.mp ha
    obtain ⟨r, _, T, e, _⟩ := pairedAt hp hi
    exact ⟨T, e⟩
  · refine fun i v as1 n1 hv h9 => CopI.casesOn h9 fun tl hpd hy => ?_
    refine optAt hp hv fun kk dd T hr hT => ?_
    have htk : rows.take (i + 1) = rows.take i ++ [(kk, dd)] := by rw [List.take_add_one, hr]; rfl
    have hT' := List.mem_append_right tl hT
    refine ⟨_, TgtK.pair hT' (by kernel_rfl!) (by kernel_rfl!) (by rfl), _, Tests.one (by tm_at "tst"), fun hb => ?_, fun hb => ?_⟩
    · tm_at "evk"
      refine .mk (_ :: tl) ?_ (by simp; (first | lia | omega))
      rw [htk, List.filter_append, List.filter_cons_of_pos (by simpa using hb), List.filter_nil]
      exact Paired.snoc (pairedImp (fun v q hq => hq.mono fun r hr => .tail _ hr) hpd) ⟨_, rfl, .head _⟩
    · refine .mk tl ?_ (by (first | lia | omega))
      rw [htk, List.filter_append, List.filter_cons_of_neg (by simpa using hb), List.filter_nil, List.append_nil]
      exact hpd
  · refine fun D as1 n1 h9 => CopI.casesOn h9 fun tl hpd hy => ?_
    refine ⟨_, fun _ _ _ F => F.back (hl.app tl), hP D as1 tl ?_ (by (first | lia | omega))⟩
    rw [pairedLen hp, List.take_length] at hpd
    exact pairedImp (fun v q hq => hq.mono fun r hr => by rcases List.mem_append.mp hr with h | h; exact List.mem_append_left _ h; exact List.mem_append_right _ (hl.sub _ h)) hpd
theorem Ws.front {w : World} {sc : Scope} {d : Nat} {m : Vars} {n n0 : ALed} {R : Flow → Vars → ALed → Prop} {rest : List Stmt} {bs : List (List Stmt)} {p : Addr × AO} (h : Take p n n0) (k : Ws ⟨w, sc, d, m, p :: n0⟩ (rest :: bs) R) : Ws ⟨w, sc, d, m, n⟩ (rest :: bs) R := fun c ok =>
  Tr.weak (fun _ F => F.front h) (k c ok)
theorem sub_drop {s r : ALed} (h : s.Sublist r) (tl : ALed) : s.Sublist (tl ++ r) := h.trans (List.sublist_append_right tl r)
/-- options that lie in a part of a ledger -/
theorem Paired.opts {n n' : ALed} {as : List AV} {rows : List (Int × By)} (h : Paired (OptAt n) as rows) (k : ∀ q ∈ n, q ∈ n') : Paired (OptAt n') as rows := pairedImp (fun _ _ hq => hq.mono k) h
/-- the rows of the options that the law lays into a head -/
theorem IsOpts.parse {o : By} (h : IsOpts o) : ∃ rows, Parse o rows ∧ o.length ≤ 40 ∧ (∀ r ∈ rows.filter (fun r => decide (128 ≤ r.1)), 2 ≤ r.1 ∧ r.1 ≤ 255 ∧ r.2.length ≤ 38) ∧ ((rows.filter fun r => decide (128 ≤ r.1)).map optB).flatten.length ≤ 36 ∧ writeB (rows.filter fun r => decide (128 ≤ r.1)) = laterB o := by
  rcases h with rfl | rfl | rfl | rfl | rfl
  · exact ⟨[], .nil, by decide, by decide, by decide, by decide⟩
  · exact ⟨[(148, [0, 9])], .opt 148 4 [0, 9] [] [] (by decide) (by decide) (by decide) .nil, by decide, by decide, by decide, by decide⟩
  · exact ⟨[(7, [4, 0, 0, 0, 0])], .opt 7 7 [4, 0, 0, 0, 0] [0] [] (by decide) (by decide) (by decide) (.zero _), by decide, by decide, by decide, by decide⟩
  · exact ⟨[(148, [0, 9]), (7, [4, 0, 0, 0, 0])], .opt 148 4 [0, 9] _ _ (by decide) (by decide) (by decide) (.opt 7 7 [4, 0, 0, 0, 0] [0] [] (by decide) (by decide) (by decide) (.zero _)), by decide, by decide, by decide, by decide⟩
  · exact ⟨[(7, [4, 0, 0, 0, 0]), (148, [0, 9])], .opt 7 7 [4, 0, 0, 0, 0] _ _ (by decide) (by decide) (by decide) (.opt 148 4 [0, 9] [0] [] (by decide) (by decide) (by decide) (.zero _)), by decide, by decide, by decide, by decide⟩
theorem Parse.length {o : By} {rows : List (Int × By)} (h : Parse o rows) : rows.length ≤ o.length := by
  induction h with
  | nil => exact Nat.le_refl _
  | zero r => exact Nat.zero_le _
  | opt k s d r rows _ _ _ _ ih => simp; (first | lia | omega)
theorem later_options_fn {w : World} {n : ALed} {o : By} (ho : IsOpts o) : CallK w 5 n (.ref 297) [.bytes o] fun a n' => a = .bytes (laterB o) ∧ n' = n := by
  obtain ⟨rows, hpr, hz, hk1, hk2, hw⟩ := ho.parse
  (refine' CallK.fn [(Str.ofString "options", .bytes o)] ?o ?c ?b ?s ?_; (case o => k_is); (case c => k_is); (case b => exact bind1 fun s9 _ X9 => by first | exact BindsTo.of_eq rfl | exact binds_K X9 rfl (by k_is) rfl rfl rfl); (case s => kernel_rfl!))
  refine Ws.try (Ws.ret (EvK.sweep ?_))
  refine' EvK.call ?a ?b ?c ?d ?_; (case d => exact rfl); (case a => tm_at "ev"); (case b => kernel_rfl!); (case c => exact rfl)
  refine' EvKs.cons ?_ ?a; (case a => exact rfl)
  refine' EvK.call ?a ?b ?c ?d ?_; (case d => exact rfl); (case a => tm_at "ev"); (case b => kernel_rfl!); (case c => exact rfl)
  refine' EvKs.cons ?_ ?a; (case a => exact rfl)
  refine' EvK.call ?a ?b ?c ?d ?_; (case d => exact rfl); (case a => tm_at "ev"); (case b => kernel_rfl!); (case c => exact rfl)
  tm_at "evks"
  refine' CallK.le (read_options_fn hpr hz fun l as tl hp => ?_) (Eq.refl true)
  have hlen := pairedLen hp
  have hrl := hpr.length
  refine EvKs.nil ?_
  refine' CallK.le (copied_fn (n0 := tl ++ n) ?a (Paired.opts hp fun q hq => List.mem_append_left _ hq) (by (first | lia | omega)) fun D as2 tl2 hp2 hz2 => ?_) (Eq.refl true); (case a => tm_at "take")
  refine EvKs.nil ?_
  refine' CallK.to ?a ?_; (case a => tm_at "fn")
  refine ⟨n, by tm_at "sl", fun v hv => ⟨_, hv, by rw [hw], rfl⟩⟩

theorem laterB_length (o : By) : (laterB o).length ≤ 4 := by unfold laterB; split <;> simp
theorem IsOpts.length {o : By} (h : IsOpts o) : o.length ≤ 12 := by rcases h with rfl | rfl | rfl | rfl | rfl <;> simp
/-- v is a tuple of a head and octets -/
noncomputable def PieceAt (n : ALed) (a : AV) (p : Hdr × By) : Prop := ∃ T x, a = .ref T ∧ (T, .tup [.ref x, .bytes p.2]) ∈ n ∧ (x, hdrO p.1) ∈ n
@[elab_as_elim] theorem pieceAt {n : ALed} {vs : List AV} {L : List (Hdr × By)} {C : AV → Prop} (h : Paired (PieceAt n) vs L) {i : Nat} {a : AV} (hi : vs[i]? = some a) (k : ∀ y T x, L[i]? = some y → (T, .tup [.ref x, .bytes y.2]) ∈ n → (x, hdrO y.1) ∈ n → C (.ref T)) : C a := by
  obtain ⟨y, hy, T, z, rfl, h1, h2⟩ := pairedAt h hi
  exact k y T z hy h1 h2
theorem PieceAt.mono {n n' : ALed} {a : AV} {p : Hdr × By} (h : PieceAt n a p) (k : ∀ q ∈ n, q ∈ n') : PieceAt n' a p :=
  h.imp fun _ h => h.imp fun _ h => ⟨h.1, k _ h.2.1, k _ h.2.2⟩
/-- the pieces from the octet at on -/
noncomputable def cutGo (hdr : Hdr) (pay : By) (mtu : Int) : Nat → Int → By → List (Hdr × By)
  | 0, _, _ => []
  | f + 1, at', o => if 20 + (o.length : Int) + ((pay.length : Int) - at') ≤ mtu then [({ hdr with off := hdr.off + at', opts := o }, pay.drop at'.toNat)]
    else ({ hdr with off := hdr.off + at', more := true, opts := o }, (pay.drop at'.toNat).take ((at' + (mtu - (20 + (o.length : Int))) / 8 * 8).toNat - at'.toNat)) :: cutGo hdr pay mtu f (at' + (mtu - (20 + (o.length : Int))) / 8 * 8) (laterB hdr.opts)
theorem cutGo_succ {hdr : Hdr} {pay : By} {mtu : Int} {f : Nat} {at' : Int} {o : By} : cutGo hdr pay mtu (f + 1) at' o = if 20 + (o.length : Int) + ((pay.length : Int) - at') ≤ mtu then [({ hdr with off := hdr.off + at', opts := o }, pay.drop at'.toNat)]
    else ({ hdr with off := hdr.off + at', more := true, opts := o }, (pay.drop at'.toNat).take ((at' + (mtu - (20 + (o.length : Int))) / 8 * 8).toNat - at'.toNat)) :: cutGo hdr pay mtu f (at' + (mtu - (20 + (o.length : Int))) / 8 * 8) (laterB hdr.opts) := rfl
noncomputable def cutF (hdr : Hdr) (pay : By) (mtu : Int) : List (Hdr × By) :=
  if 20 + (hdr.opts.length : Int) + (pay.length : Int) ≤ mtu then [(hdr, pay)] else cutGo hdr pay mtu (pay.length + 1) 0 hdr.opts
inductive CutI (hdr : Hdr) (pay : By) (mtu : Int) (x l : Addr) (n : ALed) (k : Nat) : Vars → ALed → Prop
  | mk (at' : Int) (o : By) (done : List (Hdr × By)) (vs : List AV) (tl : ALed) : 0 ≤ at' → at' ≤ pay.length → o.length ≤ 12 → (pay.length : Int) - at' < 8 * k → done ++ cutGo hdr pay mtu k at' o = cutF hdr pay mtu → 8 * (vs.length : Int) ≤ at' → Paired (PieceAt (tl ++ n)) vs done →
      CutI hdr pay mtu x l n k [(Str.ofString "at", .int at'), (Str.ofString "options", .bytes o), (Str.ofString "later", .bytes (laterB hdr.opts)), (Str.ofString "found", .ref l), (Str.ofString "mtu", .int mtu), (Str.ofString "payload", .bytes pay), (Str.ofString "header", .ref x)] (tl ++ (l, .lst vs) :: n)
theorem cut_fn {w : World} {n : ALed} {x : Addr} {hdr : Hdr} {pay : By} {mtu : Int} (hx : (x, hdrO hdr) ∈ n) (hf : Fits hdr) (hp : pay.length ≤ 100) (ho : IsOpts hdr.opts) (hmtu : 40 ≤ mtu) (hmtu2 : mtu ≤ 1000) {P : AV → ALed → Prop}
    (hP : ∀ l vs tl, Paired (PieceAt (tl ++ n)) vs (cutF hdr pay mtu) → P (.ref l) ((l, .lst vs) :: (tl ++ n))) : CallK w 7 n (.ref 318) [.ref x, .bytes pay, .int mtu] P := by
  (refine' CallK.fn [(Str.ofString "mtu", .int mtu), (Str.ofString "payload", .bytes pay), (Str.ofString "header", .ref x)] ?o ?c ?b ?s ?_; (case o => k_is); (case c => k_is); (case b => exact bind3 fun s9 _ _ _ X9 => by first | exact BindsTo.of_eq rfl | exact binds_K X9 rfl (by k_is) rfl rfl rfl); (case s => kernel_rfl!))
  obtain ⟨s0, s1, t0, t1, p0, p1, i0, i1, l0, l1, o0, o1, dn, f0, f1, f8, q0, q4⟩ := hf
  have hol := ho.length
  have hll := laterB_length hdr.opts
  have hcp : (pay.length : Int) ≤ 100 := by (first | lia | omega)
  refine Ws.iteD (by tm_at "tst") (fun hc => ?_) (fun hc => ?_)
  · have hcut : cutF hdr pay mtu = [(hdr, pay)] := by unfold cutF; rw [if_pos (by (first | lia | omega))]
    repeat tm_at "ws"
    rename_i T l
    refine hP l [.ref T] [(T, .tup [.ref x, .bytes pay])] ?_
    rw [hcut]
    exact .cons ⟨_, _, rfl, .head _, .tail _ hx⟩ .nil
  · have hcut : cutF hdr pay mtu = cutGo hdr pay mtu (pay.length + 1) 0 hdr.opts := by unfold cutF; rw [if_neg (by (first | lia | omega))]
    repeat tm_at "ws"
    rename_i l
    refine Ws.while (k := pay.length + 1) (CutI hdr pay mtu x l n) ⟨_, _, .mk 0 hdr.opts [] [] [] (by (first | lia | omega)) (by (first | lia | omega)) hol (by (first | lia | omega)) (by rw [hcut]; rfl) (by simp) .nil, by tm_at "sub", List.Sublist.refl _⟩ ?_
    refine fun k m1 n1 h9 => CutI.casesOn h9 fun at' o done vs tl ha0 ha1 ho12 hk8 hgo hvs hpd => ?_
    obtain ⟨k, rfl⟩ : ∃ j, k = j + 1 := ⟨k - 1, by (first | lia | omega)⟩
    rw [cutGo_succ] at hgo
    refine ⟨_, by tm_at "tst", fun _ => ?_, fun hb => by cases hb⟩
    have hx' : (x, hdrO hdr) ∈ tl ++ (l, .lst vs) :: n := List.mem_append_right _ (.tail _ hx)
    have hvz : vs.length ≤ 100000 := by (first | lia | omega)
    by_cases hfit : 20 + (o.length : Int) + ((pay.length : Int) - at') ≤ mtu
    · rw [if_pos hfit] at hgo
      repeat tm_at "ws"
      refine Ws.ret (EvK.front ?_)
      tm_at "evk"
      rename_i h9 x9 T
      refine ⟨(l, .lst (vs ++ [.ref T])), _, (T, .tup [.ref x9, .bytes (List.drop at'.toNat pay)]) :: (x9, hdrO { hdr with off := hdr.off + at', opts := o }) :: (tl ++ n), by tm_at "take", by tm_at "sl", fun v hv => ⟨_, hv, hP l _ ((T, .tup [.ref x9, .bytes (List.drop at'.toNat pay)]) :: (x9, hdrO { hdr with off := hdr.off + at', opts := o }) :: tl) ?_⟩⟩
      rw [← hgo]
      exact Paired.snoc (pairedImp (fun v q hq => hq.mono fun r hr => .tail _ (.tail _ hr)) hpd) ⟨T, x9, rfl, .head _, .tail _ (.head _)⟩
    · rw [if_neg hfit] at hgo
      have hroom : 8 ≤ (mtu - (20 + (o.length : Int))) / 8 * 8 := by (first | lia | omega)
      repeat tm_at "ws"
      rename_i x9 T
      refine ⟨k, _, _, .mk (at' + (mtu - (20 + (o.length : Int))) / 8 * 8) (laterB hdr.opts) (done ++ [({ hdr with off := hdr.off + at', more := true, opts := o }, List.take ((at' + (mtu - (20 + (o.length : Int))) / 8 * 8).toNat - at'.toNat) (List.drop at'.toNat pay))]) (vs ++ [.ref T]) ((T, .tup [.ref x9, .bytes (List.take ((at' + (mtu - (20 + (o.length : Int))) / 8 * 8).toNat - at'.toNat) (List.drop at'.toNat pay))]) :: (x9, hdrO { hdr with off := hdr.off + at', more := true, opts := o }) :: tl) (by (first | lia | omega)) (by (first | lia | omega)) (by (first | lia | omega)) (by (first | lia | omega)) ?_ ?_ (Paired.snoc (pairedImp (fun v q hq => hq.mono fun r hr => .tail _ (.tail _ hr)) hpd) ⟨T, x9, rfl, .head _, .tail _ (.head _)⟩), Nat.lt_succ_self _, by tm_at "sub", List.Sublist.refl _⟩
      · rw [← hgo, List.append_assoc]; rfl
      · rw [List.length_append, List.length_singleton]; (first | lia | omega)

section
variable {w : World} {n : ALed} {d : Nat}
theorem CallK.maxI {a b : Int} : CallK w d n (.builtin "max") [.int a, .int b] fun r n' => r = .int (max a b) ∧ n' = n := CallK.mk2 fun c sc ok m va vb ⟨t, e1⟩ ⟨u, e2⟩ s Q E F q => by
  rw [e1, e2]
  obtain ⟨mv, l, F', V, N, Rl, D⟩ := F
  have e : (if b > a then b else a) = max a b := by split <;> (first | lia | omega)
  exact max_two_N rfl F' N fun h' k F2 N2 => q _ n h' k (.int (max a b)) (by rw [← e]; exact ⟨_, rfl⟩) ⟨rfl, rfl⟩ ⟨mv, l, F2, V, N2, Rl, D⟩
theorem CallK.minI {a b : Int} : CallK w d n (.builtin "min") [.int a, .int b] fun r n' => r = .int (min a b) ∧ n' = n := CallK.mk2 fun c sc ok m va vb ⟨t, e1⟩ ⟨u, e2⟩ s Q E F q => by
  rw [e1, e2]
  obtain ⟨mv, l, F', V, N, Rl, D⟩ := F
  have e : (if b < a then b else a) = min a b := by split <;> (first | lia | omega)
  exact min_two_N rfl F' N fun h' k F2 N2 => q _ n h' k (.int (min a b)) (by rw [← e]; exact ⟨_, rfl⟩) ⟨rfl, rfl⟩ ⟨mv, l, F2, V, N2, Rl, D⟩
theorem CallK.front {n0 : ALed} {p : Addr × AO} {fv as} {R : AV → ALed → Prop} (h : Take p n n0) (k : CallK w d (p :: n0) fv as R) : CallK w d n fv as R := fun c sc ok m vs hv s Q E F q => k c sc ok m vs hv s Q E (F.front h) q
theorem UpdA.left {x : Addr} {o o' : AO} {r r' : ALed} (h : UpdA x o o' r r') (a : ALed) : UpdA x o o' (r ++ a) (r' ++ a) := by
  induction h with
  | head => exact .head
  | tail _ ih => exact .tail ih
end
/-- a is a pair of ints -/
noncomputable def RowAt (n : ALed) (a : AV) (r : Int × Int) : Prop := ∃ T, a = .ref T ∧ (T, .tup [.int r.1, .int r.2]) ∈ n
theorem RowAt.mono {n n' : ALed} {a : AV} {r : Int × Int} (h : RowAt n a r) (k : ∀ q ∈ n, q ∈ n') : RowAt n' a r := h.imp fun _ h => ⟨h.1, k _ h.2⟩
@[elab_as_elim] theorem rowAt {n : ALed} {vs : List AV} {rows : List (Int × Int)} {C : AV → Prop} (h : Paired (RowAt n) vs rows) {i : Nat} {a : AV} (hi : vs[i]? = some a) (k : ∀ lo hi T, rows[i]? = some (lo, hi) → (T, .tup [.int lo, .int hi]) ∈ n → C (.ref T)) : C a := by
  obtain ⟨⟨x, y⟩, hr, T, rfl, hT⟩ := pairedAt h hi
  exact k x y T hr hT
theorem rowsUp {n n' : ALed} {vs : List AV} {rows : List (Int × Int)} (h : Paired (RowAt n) vs rows) (k : ∀ q ∈ n, q ∈ n') : Paired (RowAt n') vs rows := pairedImp (fun _ _ hq => hq.mono k) h
theorem rowsAdd {n : ALed} {vs : List AV} {rows : List (Int × Int)} {D : Addr} {lo hi : Int} (h : Paired (RowAt n) vs rows) (hm : (D, .tup [.int lo, .int hi]) ∈ n) : Paired (RowAt n) (vs ++ [.ref D]) (rows ++ [(lo, hi)]) :=
  Paired.snoc h ⟨D, rfl, hm⟩
noncomputable abbrev holesO (most : Int) (lr : Addr) : AO := .inst 363 [(Str.ofString "most", .int most), (Str.ofString "rows", .ref lr)]
theorem Holes_fn {w : World} {n : ALed} {most : Int} {P : AV → ALed → Prop} (k : ∀ x lr T, P (.ref x) ((lr, .lst [.ref T]) :: (T, .tup [.int 0, .int most]) :: (x, holesO most lr) :: n)) : CallK w 2 n (.ref 363) [.int most] P := by
  refine' CallK.cls (fun self => [(Str.ofString "most", .int most), (Str.ofString "self", .ref self)]) ?m1 ?m2 ?m3 ?o ?c ?b ?s ?_; (case m1 => kernel_rfl!); (case m2 => k_is); (case m3 => kernel_rfl!); (case o => k_is); (case c => k_is); (case b => intro self; exact bind2 fun s9 _ _ X9 => by first | exact BindsTo.of_eq rfl | exact binds_K X9 rfl (by k_is) rfl rfl rfl); (case s => intro self; kernel_rfl!); intro self
  repeat tm_at "ws"
  exact ⟨rfl, k self _ _⟩
/-- one hole: what is taken out of it, and what stays -/
noncomputable def fillOne (b e : Int) (r : Int × Int) : List (Int × Int) × List (Int × Int) :=
  if max r.1 b ≥ min r.2 e then ([], [r]) else ([(max r.1 b, min r.2 e)], (if r.1 < max r.1 b then [(r.1, max r.1 b)] else []) ++ (if min r.2 e < r.2 then [(min r.2 e, r.2)] else []))
noncomputable def foundF (b e : Int) (rows : List (Int × Int)) : List (Int × Int) := rows.flatMap fun r => (fillOne b e r).1
noncomputable def restF (b e : Int) (rows : List (Int × Int)) : List (Int × Int) := rows.flatMap fun r => (fillOne b e r).2
theorem restF_succ {b e : Int} {rows : List (Int × Int)} {i : Nat} {r : Int × Int} (h : rows[i]? = some r) : restF b e (rows.take (i + 1)) = restF b e (rows.take i) ++ (fillOne b e r).2 := by
  unfold restF
  rw [List.take_add_one, h]; simp
theorem foundF_succ {b e : Int} {rows : List (Int × Int)} {i : Nat} {r : Int × Int} (h : rows[i]? = some r) : foundF b e (rows.take (i + 1)) = foundF b e (rows.take i) ++ (fillOne b e r).1 := by
  unfold foundF
  rw [List.take_add_one, h]; simp
section
variable {b e lo hi : Int}
theorem one_keep (h : min hi e ≤ max lo b) : fillOne b e (lo, hi) = ([], [(lo, hi)]) := by unfold fillOne; rw [if_pos h]
theorem one_all (h : ¬ min hi e ≤ max lo b) (h1 : ¬ lo < max lo b) (h2 : ¬ min hi e < hi) : fillOne b e (lo, hi) = ([(max lo b, min hi e)], []) := by unfold fillOne; rw [if_neg h, if_neg h1, if_neg h2]; rfl
theorem one_low (h : ¬ min hi e ≤ max lo b) (h1 : lo < max lo b) (h2 : ¬ min hi e < hi) : fillOne b e (lo, hi) = ([(max lo b, min hi e)], [(lo, max lo b)]) := by unfold fillOne; rw [if_neg h, if_pos h1, if_neg h2]; rfl
theorem one_high (h : ¬ min hi e ≤ max lo b) (h1 : ¬ lo < max lo b) (h2 : min hi e < hi) : fillOne b e (lo, hi) = ([(max lo b, min hi e)], [(min hi e, hi)]) := by unfold fillOne; rw [if_neg h, if_neg h1, if_pos h2]; rfl
theorem one_both (h : ¬ min hi e ≤ max lo b) (h1 : lo < max lo b) (h2 : min hi e < hi) : fillOne b e (lo, hi) = ([(max lo b, min hi e)], [(lo, max lo b), (min hi e, hi)]) := by unfold fillOne; rw [if_neg h, if_pos h1, if_pos h2]; rfl
end
theorem rowsAdd2 {n : ALed} {vs : List AV} {rows : List (Int × Int)} {D D2 : Addr} {lo hi lo2 hi2 : Int} (h : Paired (RowAt n) vs rows) (hm : (D, .tup [.int lo, .int hi]) ∈ n) (hm2 : (D2, .tup [.int lo2, .int hi2]) ∈ n) :
    Paired (RowAt n) (vs ++ [.ref D] ++ [.ref D2]) (rows ++ [(lo, hi), (lo2, hi2)]) := by
  have := rowsAdd (rowsAdd h hm) hm2
  rw [List.append_assoc rows] at this
  exact this
inductive FillI (rest : ALed) (x lr l1 l2 : Addr) (most b e : Int) (rows : List (Int × Int)) (i : Nat) : Vars → ALed → Prop
  | mk (vs2 fs : List AV) (tl : ALed) : Paired (RowAt (tl ++ rest)) vs2 (restF b e (rows.take i)) → Paired (RowAt (tl ++ rest)) fs (foundF b e (rows.take i)) → vs2.length ≤ 2 * i → fs.length ≤ i →
      FillI rest x lr l1 l2 most b e rows i [(Str.ofString "rows", .ref l2), (Str.ofString "found", .ref l1), (Str.ofString "end", .int e), (Str.ofString "begin", .int b), (Str.ofString "self", .ref x)] (tl ++ (l2, .lst vs2) :: (l1, .lst fs) :: (x, holesO most lr) :: rest)
theorem fill_fn {w : World} {rest : ALed} {x lr : Addr} {most b e : Int} {vs : List AV} {rows : List (Int × Int)} {P : AV → ALed → Prop} (hp : Paired (RowAt rest) vs rows) (hz : rows.length ≤ 1000)
    (hP : ∀ l1 l2 fs vs2 tl, Paired (RowAt (tl ++ rest)) vs2 (restF b e rows) → Paired (RowAt (tl ++ rest)) fs (foundF b e rows) → P (.ref l1) ((l1, .lst fs) :: (x, holesO most l2) :: (l2, .lst vs2) :: (tl ++ rest))) :
    CallK w 1 ((x, holesO most lr) :: (lr, .lst vs) :: rest) (.ref 339) [.ref x, .int b, .int e] P := by
  (refine' CallK.fn [(Str.ofString "end", .int e), (Str.ofString "begin", .int b), (Str.ofString "self", .ref x)] ?o ?c ?b ?s ?_; (case o => k_is); (case c => k_is); (case b => exact bind3 fun s9 _ _ _ X9 => by first | exact BindsTo.of_eq rfl | exact binds_K X9 rfl (by k_is) rfl rfl rfl); (case s => kernel_rfl!))
  have hvr := pairedLen hp
  repeat tm_at "ws"
  rename_i l1 l2
  refine' Ws.for ?_ rfl
  tm_at "evk"
  refine ForK.lst (FillI rest x lr l1 l2 most b e rows) (n0 := (l2, .lst []) :: (l1, .lst []) :: (x, holesO most lr) :: rest) (.tail (.tail (.tail .head))) ⟨_, _, .mk [] [] [] .nil .nil (Nat.le_refl _) (Nat.le_refl _), by tm_at "sub", List.Sublist.refl _⟩ ?_ ?_
  · refine fun i a m1 n1 ow hi h9 => FillI.casesOn h9 fun vs2 fs tl hp1 hp2 hz1 hz2 => ?_
    refine rowAt hp hi fun lo hi' T hr hT => ?_
    have hrs := restF_succ (b := b) (e := e) hr
    have hfs := foundF_succ (b := b) (e := e) hr
    have hilt : i < vs.length := (List.getElem?_eq_some_iff.mp hi).1
    have hT' := List.mem_append_left ow (List.mem_append_right tl (.tail (l2, .lst vs2) (.tail (l1, .lst fs) (.tail (x, holesO most lr) hT))))
    have hv1 : vs2.length ≤ 99998 := by (first | lia | omega)
    have hv2 : fs.length ≤ 99998 := by (first | lia | omega)
    have up1 : ∀ ds : ALed, Paired (RowAt (ds ++ (tl ++ rest))) vs2 (restF b e (List.take i rows)) := fun ds => rowsUp hp1 fun q hq => List.mem_append_right _ hq
    have up2 : ∀ ds : ALed, Paired (RowAt (ds ++ (tl ++ rest))) fs (foundF b e (List.take i rows)) := fun ds => rowsUp hp2 fun q hq => List.mem_append_right _ hq
    tm_at "asg"
    repeat tm_at "ws"
    refine Ws.iteD (by tm_at "tst") (fun hc => ?_) (fun hc => ?_)
    · rw [one_keep hc] at hrs hfs
      repeat tm_at "ws"
      rename_i T1
      refine Ws.cont ⟨_, _, .mk _ fs ((T1, _) :: tl) ?_ ?_ ?_ ?_, by tm_at "sub", List.Sublist.refl _⟩
      · rw [hrs]; exact rowsAdd (up1 [_]) (.head _)
      · rw [hfs, List.append_nil]; exact up2 [_]
      · rw [List.length_append, List.length_singleton]; (first | lia | omega)
      · (first | lia | omega)
    · repeat tm_at "ws"
      rename_i T1
      refine Ws.iteD (by tm_at "tst") (fun hlo => ?_) (fun hlo => ?_) <;> repeat tm_at "ws"
      · rename_i T2
        refine Ws.iteD (by tm_at "tst") (fun hhi => ?_) (fun hhi => ?_) <;> repeat tm_at "ws"
        · rename_i T3
          rw [one_both hc hlo hhi] at hrs hfs
          refine ⟨_, _, .mk _ _ ((T3, .tup [.int (min hi' e), .int hi']) :: (T2, .tup [.int lo, .int (max lo b)]) :: (T1, .tup [.int (max lo b), .int (min hi' e)]) :: tl) ?_ ?_ ?_ ?_, by tm_at "sub", List.Sublist.refl _⟩
          · rw [hrs]; exact rowsAdd2 (up1 [_, _, _]) (.tail _ (.head _)) (.head _)
          · rw [hfs]; exact rowsAdd (up2 [_, _, _]) (.tail _ (.tail _ (.head _)))
          all_goals (simp only [List.length_append, List.length_singleton]; (first | lia | omega))
        · rw [one_low hc hlo hhi] at hrs hfs
          refine ⟨_, _, .mk _ _ ((T2, .tup [.int lo, .int (max lo b)]) :: (T1, .tup [.int (max lo b), .int (min hi' e)]) :: tl) ?_ ?_ ?_ ?_, by tm_at "sub", List.Sublist.refl _⟩
          · rw [hrs]; exact rowsAdd (up1 [_, _]) (.head _)
          · rw [hfs]; exact rowsAdd (up2 [_, _]) (.tail _ (.head _))
          all_goals (simp only [List.length_append, List.length_singleton]; (first | lia | omega))
      · refine Ws.iteD (by tm_at "tst") (fun hhi => ?_) (fun hhi => ?_) <;> repeat tm_at "ws"
        · rename_i T3
          rw [one_high hc hlo hhi] at hrs hfs
          refine ⟨_, _, .mk _ _ ((T3, .tup [.int (min hi' e), .int hi']) :: (T1, .tup [.int (max lo b), .int (min hi' e)]) :: tl) ?_ ?_ ?_ ?_, by tm_at "sub", List.Sublist.refl _⟩
          · rw [hrs]; exact rowsAdd (up1 [_, _]) (.head _)
          · rw [hfs]; exact rowsAdd (up2 [_, _]) (.tail _ (.head _))
          all_goals (simp only [List.length_append, List.length_singleton]; (first | lia | omega))
        · rw [one_all hc hlo hhi] at hrs hfs
          refine ⟨_, _, .mk _ _ ((T1, .tup [.int (max lo b), .int (min hi' e)]) :: tl) ?_ ?_ ?_ ?_, by tm_at "sub", List.Sublist.refl _⟩
          · rw [hrs, List.append_nil]; exact up1 [_]
          · rw [hfs]; exact rowsAdd (up2 [_]) (.head _)
          all_goals ((try simp only [List.length_append, List.length_singleton]); (first | lia | omega))
  · refine fun m1 n1 h9 => FillI.casesOn h9 fun vs2 fs tl hp1 hp2 _ _ => ?_
    rw [hvr, List.take_length] at hp1 hp2
    refine Ws.weak (fun _ h => h) (List.sublist_cons_self _ _) (Ws.front (p := (l2, .lst vs2)) (by tm_at "take") (Ws.front (p := (x, holesO most lr)) (by tm_at "take") (Ws.front (p := (l1, .lst fs)) (by tm_at "take") ?_)))
    repeat tm_at "ws"
    exact hP l1 l2 fs vs2 tl hp1 hp2
theorem end_at_fn {w : World} {rest : ALed} {x lr : Addr} {most e : Int} {vs : List AV} {rows : List (Int × Int)} {P : AV → ALed → Prop} (hp : Paired (RowAt rest) vs rows) (hz : rows.length ≤ 1000)
    (hP : ∀ l2 vs2 tl, Paired (RowAt (tl ++ rest)) vs2 (restF e most rows) → P .none ((x, holesO most l2) :: (l2, .lst vs2) :: (tl ++ rest))) :
    CallK w 2 ((x, holesO most lr) :: (lr, .lst vs) :: rest) (.ref 346) [.ref x, .int e] P := by
  (refine' CallK.fn [(Str.ofString "end", .int e), (Str.ofString "self", .ref x)] ?o ?c ?b ?s ?_; (case o => k_is); (case c => k_is); (case b => exact bind2 fun s9 _ _ X9 => by first | exact BindsTo.of_eq rfl | exact binds_K X9 rfl (by k_is) rfl rfl rfl); (case s => kernel_rfl!))
  refine' Ws.expr ?_ ?a; (case a => exact rfl)
  refine' EvK.meth ?a ?b ?i ?c ?d ?e ?f ?_; (case f => exact rfl); (case a => tm_at "ev"); (case b => tm_at "in"); (case i => k_is); (case c => kernel_rfl!); (case d => kernel_rfl!); (case e => exact rfl)
  tm_at "evks"
  refine CallK.le (fill_fn hp hz fun l1 l2 fs vs2 tl h1 h2 => ?_) (Eq.refl true)
  exact Ws.weak (fun _ h => h) (List.sublist_cons_self _ _) (Ws.pop (Ws.done (hP l2 vs2 tl h1)))

/-! comparisons with none and with an empty list; items; several names at once -/
noncomputable def AV.isN : AV → Bool
  | .v .none => true
  | _ => false
theorem AV.isN_of {a : AV} {v : Value} (h : a.has v) : (v == Value.none) = a.isN := by
  cases a with
  | int i => obtain ⟨t, rfl⟩ := h; rfl
  | bytes b => obtain ⟨t, rfl⟩ := h; rfl
  | v x => cases h; cases v <;> rfl
noncomputable def plainN : AV → Bool
  | .v (.builtin _) => false
  | _ => true
theorem plainN_of {a : AV} {v : Value} (h : a.has v) (k : plainN a = true) : plainIs v .none = true := by
  cases a with
  | int i => obtain ⟨t, rfl⟩ := h; rfl
  | bytes b => obtain ⟨t, rfl⟩ := h; rfl
  | v x => cases h; cases v <;> first | rfl | cases k
section
open PySem.SeqAt
variable {w : World} {sc : Scope} {d : Nat} {m : Vars} {n : ALed} {R : Flow → Vars → ALed → Prop} {rest : List Stmt} {bs : List (List Stmt)} {P : AV → ALed → Prop}
theorem Op.is {a : AV} (k : plainN a = true) : Op w n (compareOp .Is) a .none (.bool a.isN) := fun c sc ok m va vb ha hb s Q E F q => by
  cases hb
  exact wpAny_is_plain (plainN_of ha k) (by rw [AV.isN_of ha]; exact q _ m n s.heap s.toks ⟨rfl, .bool a.isN, rfl, rfl, rfl⟩ F)
theorem Op.isnt {a : AV} (k : plainN a = true) : Op w n (compareOp .IsNot) a .none (.bool (!a.isN)) := fun c sc ok m va vb ha hb s Q E F q => by
  cases hb
  exact wpAny_isNot_plain (plainN_of ha k) (by rw [AV.isN_of ha]; exact q _ m n s.heap s.toks ⟨rfl, .bool (!a.isN), rfl, rfl, rfl⟩ F)
theorem Has.empty {vs : List AV} {us : List Value} (h : Has vs us) : us.isEmpty = vs.isEmpty := by cases h <;> rfl
theorem Cx.Ok.un1 {c : Cx} {w sc d} (ok : c.Ok w sc d) : c.A.units < cLine := by
  have := ok.un
  show c.un < cLine
  (first | lia | omega)
theorem Op.eqNil {a b : Addr} {vs : List AV} (ha : (a, .lst vs) ∈ n) (hb : (b, .lst []) ∈ n) : Op w n (compareOp .Eq) (.ref a) (.ref b) (.bool vs.isEmpty) := fun c sc ok m va vb e1 e2 s Q E F q => by
  cases e1; cases e2
  obtain ⟨us, k, hu, ho⟩ := F.lstAt ha
  obtain ⟨us2, k2, hu2, ho2⟩ := F.lstAt hb
  cases hu2
  rw [← hu.empty] at q
  have q' := fun b e => q (.bool b) m n s.heap s.toks ⟨rfl, .bool b, rfl, e, rfl⟩ F
  cases us with
  | nil => exact RcAt.lists (e := fun _ => true) ⟨_, ho, rfl, _, rfl⟩ ⟨_, ho2, rfl, _, rfl⟩ rfl ok.un1 (fun j h => absurd h (Nat.not_lt_zero j)) _ _ _ _ (q' true rfl)
  | cons u r => exact RcAt.lists_lengths ⟨_, ho, rfl, _, rfl⟩ ⟨_, ho2, rfl, _, rfl⟩ rfl ok.un1 _ _ _ _ (q' false rfl)
theorem Op.neNil {a b : Addr} {vs : List AV} (ha : (a, .lst vs) ∈ n) (hb : (b, .lst []) ∈ n) : Op w n (compareOp .NotEq) (.ref a) (.ref b) (.bool (!vs.isEmpty)) := fun c sc ok m va vb e1 e2 s Q E F q => by
  cases e1; cases e2
  obtain ⟨us, k, hu, ho⟩ := F.lstAt ha
  obtain ⟨us2, k2, hu2, ho2⟩ := F.lstAt hb
  cases hu2
  rw [← hu.empty] at q
  have q' := fun b e => q (.bool b) m n s.heap s.toks ⟨rfl, .bool b, rfl, e, rfl⟩ F
  cases us with
  | nil => exact RcNeAt.lists (e := fun _ => true) ⟨_, ho, rfl, _, rfl⟩ ⟨_, ho2, rfl, _, rfl⟩ rfl ok.un1 (fun j h => absurd h (Nat.not_lt_zero j)) _ _ _ _ (q' false rfl)
  | cons u r => exact RcNeAt.lists_lengths ⟨_, ho, rfl, _, rfl⟩ ⟨_, ho2, rfl, _, rfl⟩ rfl ok.un1 _ _ _ _ (q' true rfl)
/-- what comes besides is let go -/
theorem EvK.drop {e x} (h : EvK ⟨w, sc, d, m, n⟩ e fun a n' => ∃ n2, P a n2 ∧ n2.Sublist n') (_ : x = ()) : EvK ⟨w, sc, d, m, n⟩ e P := fun c ok s Q E F q =>
  h c ok s Q E F fun v m1 n1 h1 tk1 ⟨e1, a, ha, n2, hp, hs⟩ F1 => q v m1 n2 h1 tk1 ⟨e1, a, ha, hp⟩ (F1.ledger hs)
theorem Ev.andF {e1 e2 rest pos b} (h1 : Ev ⟨w, sc, d, m, n⟩ e1 (.bool b)) (hb : b = false) : Ev ⟨w, sc, d, m, n⟩ (.BoolOp .And (e1 :: e2 :: rest) pos) (.bool false) := by
  subst hb; exact Ev.and (b2 := false) h1 fun e => by cases e
theorem Ev.cmpK {l op r pos x} (h : EvK ⟨w, sc, d, m, n⟩ l fun a n1 => EvK ⟨w, sc, d, m, n1⟩ r fun b n2 => Op2 w n2 (compareOp op) a b fun z n3 => z = x ∧ n.Sublist n3) (hm : behindInMarks op r = false) : Ev ⟨w, sc, d, m, n⟩ (.Compare l [op] [r] pos) x :=
  EvK.drop (x := ()) ((EvK.cmp h hm).mono fun a n' ⟨e, hs⟩ => ⟨n, ⟨e, rfl⟩, hs⟩) rfl
theorem Tst.cmpK {l op r pos t} (h : EvK ⟨w, sc, d, m, n⟩ l fun a n1 => EvK ⟨w, sc, d, m, n1⟩ r fun b n2 => Op2 w n2 (compareOp op) a b fun z n3 => z = .bool t ∧ n.Sublist n3) (hm : behindInMarks op r = false) : Tst ⟨w, sc, d, m, n⟩ (.Compare l [op] [r] pos) t := fun c ok s Q E F q =>
  wpAny_isTrue_Compare1 (h c ok s _ E F fun v m1 n1 h1 tk1 ⟨e1, a, ha, hb⟩ F1 => by
    cases e1
    refine hb c ok _ _ E F1 fun u m2 n2 h2 tk2 ⟨e2, b, hb2, hc⟩ F2 => ?_
    cases e2
    refine hc c sc (ok.mono (Nat.zero_le _)) _ v u ha hb2 _ _ E F2 fun y m3 n3 h3 tk3 ⟨e3, z, hz, e4, hs⟩ F3 => ?_
    cases e3; cases e4
    exact truthy_of hz rfl (q t _ n h3 tk3 ⟨rfl, rfl, rfl⟩ (F3.ledger hs))) hm
/-- the item at a place -/
noncomputable def getI (vs : List AV) : Int → Option AV
  | .ofNat k => vs[k]?
  | .negSucc k => if k < vs.length then vs[vs.length - 1 - k]? else none
theorem getI_of {vs : List AV} {i : Int} {a : AV} (h : 0 ≤ i) (k : vs[i.toNat]? = some a) : getI vs i = some a := by
  obtain ⟨j, rfl⟩ := Int.eq_ofNat_of_zero_le h
  exact k
theorem getI_idx {vs : List AV} {us : List Value} {i : Int} {a : AV} (hu : Has vs us) (h : getI vs i = some a) (hz : vs.length ≤ 100000) : -(2 ^ 63) ≤ i ∧ i < 2 ^ 63 ∧ ∃ j v, seqIndex? i us.length = some j ∧ us[j]? = some v ∧ a.has v ∧ (0 ≤ i → j = i.toNat) := by
  have hl := hu.length
  have get : ∀ {vs us}, Has vs us → ∀ {j : Nat} {a : AV}, vs[j]? = some a → ∃ v, us[j]? = some v ∧ a.has v := by
    intro vs us h
    induction h with
    | nil => intro j a e; cases e
    | cons ha _ ih =>
      intro j a e
      cases j with
      | zero => cases e; exact ⟨_, rfl, ha⟩
      | succ j => exact ih e
  cases i with
  | ofNat k =>
    have h' : vs[k]? = some a := h
    obtain ⟨hk, -⟩ := List.getElem?_eq_some_iff.mp h'
    obtain ⟨v, e, hv⟩ := get hu h'
    have e0 : Int.ofNat k = (k : Int) := rfl
    rw [e0]
    exact ⟨by (first | lia | omega), by (first | lia | omega), k, v, seqIndex_of (Int.natCast_nonneg k) (by (first | lia | omega)), e, hv, fun _ => rfl⟩
  | negSucc k =>
    have h' : (if k < vs.length then vs[vs.length - 1 - k]? else none) = some a := h
    by_cases hk : k < vs.length
    · rw [if_pos hk] at h'
      obtain ⟨v, e, hv⟩ := get hu h'
      have e1 : Int.negSucc k = -((k : Int) + 1) := rfl
      rw [e1]
      refine ⟨by (first | lia | omega), by (first | lia | omega), vs.length - 1 - k, v, ?_, e, hv, fun h => by (first | lia | omega)⟩
      unfold seqIndex?
      have e2 : (if -((k : Int) + 1) < 0 then -((k : Int) + 1) + (us.length : Int) else -((k : Int) + 1)) = ((vs.length - 1 - k : Nat) : Int) := by rw [if_pos (by (first | lia | omega))]; (first | lia | omega)
      rw [e2]
      show (if (decide _ && decide _) = true then _ else _) = _
      rw [if_pos (by rw [Bool.and_eq_true]; exact ⟨decide_eq_true (by (first | lia | omega)), decide_eq_true (by (first | lia | omega))⟩)]
      rfl
    · rw [if_neg hk] at h'; cases h'
theorem EvK.itemL {o e pos l} (ho : Ev ⟨w, sc, d, m, n⟩ o (.ref l)) (he : EvK ⟨w, sc, d, m, n⟩ e fun b n1 => ∃ i vs a, b = .int i ∧ (l, .lst vs) ∈ n1 ∧ getI vs i = some a ∧ vs.length ≤ 100000 ∧ P a n1) (hn : noSl e = true) : EvK ⟨w, sc, d, m, n⟩ (.Subscript o e pos) P := fun c ok s Q E F q =>
  Subscript_ (ho.runV ok F fun h1 tk1 F1 => he.run ok F1 fun u n1 g2 tk2 b hb ⟨i, vs, a, e2, hl, hg, hz, hP⟩ F2 => by
    rw [e2] at hb
    obtain ⟨t, rfl⟩ := hb
    obtain ⟨us, k, hu, hlo⟩ := F2.lstAt hl
    obtain ⟨h1, h2, j, v, h3, h4, h5, h6⟩ := getI_idx hu hg hz
    have hI : Heap.IsList g2 l us.toArray := ⟨_, hlo, rfl, _, rfl⟩
    have q' := q v m n1 g2 tk2 (evOut h5 hP) F2
    by_cases h0 : 0 ≤ i
    · refine tail_any hI.typeIs slot_list_getitem.lookup (wpAny_getItem_list hI h0 h2 ?_ q') (sub_plain hn _ _)
      have := h6 h0
      subst this
      simpa using h4
    · exact tail_any hI.typeIs slot_list_getitem.lookup (kde_getNeg hI (by (first | lia | omega)) h1 h3 h4 q') (sub_plain hn _ _))
theorem Ev.itemL {o e pos l vs i a} (ho : Ev ⟨w, sc, d, m, n⟩ o (.ref l)) (hl : (l, .lst vs) ∈ n) (he : Ev ⟨w, sc, d, m, n⟩ e (.int i)) (hg : getI vs i = some a) (hz : vs.length ≤ 100000) (hn : noSl e = true) : Ev ⟨w, sc, d, m, n⟩ (.Subscript o e pos) a :=
  EvK.itemL ho (EvK.of he ⟨i, vs, a, rfl, hl, hg, hz, rfl, rfl⟩) hn
theorem Ev.itemT {o e pos l vs i a} (ho : Ev ⟨w, sc, d, m, n⟩ o (.ref l)) (hl : (l, .tup vs) ∈ n) (he : Ev ⟨w, sc, d, m, n⟩ e (.int i)) (hg : getI vs i = some a) (hz : Nat.ble vs.length 1000 = true) (hn : noSl e = true) : Ev ⟨w, sc, d, m, n⟩ (.Subscript o e pos) a := fun c ok s Q E F q =>
  Subscript_ (ho.runV ok F fun h1 tk1 F1 => he.runI ok F1 fun t g2 tk2 F2 => by
    obtain ⟨us, hu, hlo⟩ := F2.tupAt hl
    obtain ⟨h1, h2, j, v, h3, h4, h5, h6⟩ := getI_idx hu hg (Nat.le_trans (Nat.le_of_ble_eq_true hz) (by decide))
    have hI : IsTup _ l us.toArray := ⟨_, hlo, rfl, _, rfl⟩
    exact tail_any hI.typeIs slot_tuple_getitem.lookup (PyProof.Rows.getItem_tuple hI h1 h2 (by simpa using h3) (by simpa using h4) (q v _ _ g2 tk2 ⟨rfl, a, h5, rfl, rfl⟩ F2)) (sub_plain hn _ _))
/-- a list's item is stored -/
noncomputable def setI (vs : List AV) (i : Int) (a : AV) : Option (List AV) := match i with
  | .ofNat k => if k < vs.length then some (vs.set k a) else none
  | .negSucc _ => none
theorem Has.set {vs : List AV} {us : List Value} {a : AV} {v : Value} (h : Has vs us) (ha : a.has v) : ∀ k, Has (vs.set k a) (us.set k v) := by
  induction h with
  | nil => intro k; exact .nil
  | cons hb hr ih =>
    intro k
    cases k with
    | zero => exact .cons ha hr
    | succ k => exact .cons hb (ih k)
/-- an item of a list takes a value -/
inductive SetI (w : World) (sc : Scope) (d : Nat) (m : Vars) (n : ALed) (o e : Expr) (a : AV) (K : ALed → Prop) : Prop
  | mk {l vs i vs' n2} (ho : Ev ⟨w, sc, d, m, n⟩ o (.ref l)) (he : Ev ⟨w, sc, d, m, n⟩ e (.int i)) (hu : UpdA l (.lst vs) (.lst vs') n n2) (hs : setI vs i a = some vs') (hz : Nat.ble vs.length 1000 = true) (k : K n2)
theorem Ws.setI {o e p' value pos} (h : EvK ⟨w, sc, d, m, n⟩ value fun a n1 => SetI w sc d m n1 o e a fun n2 => Ws ⟨w, sc, d, m, n2⟩ (rest :: bs) R) (hn : noComp value = true) : Ws ⟨w, sc, d, m, n⟩ ((.Assign [.Subscript o e p'] value pos :: rest) :: bs) R := Ws.cons fun c ok s Q E F q =>
  wpAny_Assign_Subscript (h.run ok.ok F fun v n1 h1 tk1 a ha hs F1 => by
    obtain ⟨ho, he, hu, hv, hz, k⟩ := hs
    rename_i l vs i vs' n2
    refine ho.runV ok.ok F1 fun g1 tk1 F1 => he.runI ok.ok F1 fun t g2 tk2 F2 => ?_
    cases i with
    | negSucc j => cases hv
    | ofNat j =>
    have hv' : (if j < vs.length then some (vs.set j a) else none) = some vs' := hv
    by_cases hj : j < vs.length
    case neg => rw [if_neg hj] at hv'; cases hv'
    rw [if_pos hj] at hv'
    obtain ⟨us, kk, hh, ho, up⟩ := F2.updL hu
    have hz := Nat.le_of_ble_eq_true hz
    have hl := hh.length
    have e0 : Int.ofNat j = (j : Int) := rfl
    rw [e0]
    refine ki_setAt (n := kk) ho (Int.natCast_nonneg j) (by (first | lia | omega)) (by rw [List.size_toArray]; (first | lia | omega)) ?_
    have hsz : us.toArray.setIfInBounds (j : Int).toNat v = (us.set j v).toArray := by simp
    exact q .next m n2 _ tk2 (k c ok) (up (us.set j v) _ _ tk2 (Option.some.inj hv' ▸ hh.set ha j) (fun b x hb hx => (Heap.SameBut.update ..).extBut b x hb hx) (by rw [← hsz]; exact get?_update_seq ho _))) (noSwap hn _ _ _)
/-- several names take the items of a tuple or a list -/
theorem AsgK.lst {es k pos T as m'} {P : Vars → Prop} (hT : (T, .lst as) ∈ n) (h : AsgsK sc m es as m') (hP : P m') : AsgK ⟨w, sc, d, m, n⟩ (.Tuple es k pos) (.ref T) P := fun c ok v hv s Q E F q => by
  obtain rfl : v = .ref T := hv
  obtain ⟨us, kk, hu, ho⟩ := F.lstAt hT
  obtain ⟨mv, ld, F', V, N, R, D⟩ := id F
  obtain ⟨h1, h2⟩ := h.plain c.env
  refine kun_list (items := us.toArray) F' N ⟨_, ho, rfl, _, rfl⟩ rfl (by rw [h1, List.size_toArray, hu.length]) h2 fun h' F2 N2 => ?_
  exact h.run ok hu _ Q E ⟨mv, ld, F2, V, N2, R, D⟩ fun _ m2 n2 h2 tk2 ⟨e1, e2⟩ F3 => q () m2 n2 h2 tk2 ⟨e2, e1 ▸ hP⟩ F3
theorem Ws.assignT {es k tp value pos} (h : EvK ⟨w, sc, d, m, n⟩ value fun a n1 => AsgK ⟨w, sc, d, m, n1⟩ (.Tuple es k tp) a fun m2 => Ws ⟨w, sc, d, m2, n1⟩ (rest :: bs) R)
    (hs : ∀ env line, swapsWithSole [.Tuple es k tp] value line env = Pure.pure false) (hw : ∀ env, swappedStores [.Tuple es k tp] value env = Pure.pure none) : Ws ⟨w, sc, d, m, n⟩ ((.Assign [.Tuple es k tp] value pos :: rest) :: bs) R := Ws.cons fun c ok s Q E F q =>
  Assign_Tuple (h.run ok.ok F fun v n1 h1 tk1 a ha hb F1 => hb c ok v ha _ _ E F1 fun _ m2 n2 h2 tk2 k F2 => q .next m2 n2 h2 tk2 (by rw [k.1]; exact k.2 c ok) F2) (hs _ _) (hw _)
/-- the same where the compiler stores the names from the last one on -/
inductive AsgsN (sc : Scope) : Vars → List Str → List AV → Vars → Prop
  | nil {m1} : AsgsN sc m1 [] [] m1
  | cons {m1 m0 m' x a es as} : Pick x m1 m0 → keyOut x m0 = true → kindIs sc x .local = true → AsgsN sc ((x, a) :: m0) es as m' → AsgsN sc m1 (x :: es) (a :: as) m'
theorem AsgsN.run {c : Cx} (ok : c.OkM w sc d) {es : List Str} {as : List AV} {m'} (h : AsgsN sc m es as m') : ∀ {us}, Has as us → Tr w c m n (assignInOrder (es.map fun x => bindName c.env x) us) fun _ m2 n2 => m2 = m' ∧ n2 = n := by
  induction h with
  | nil => intro us hv; cases hv; exact fun s Q E F q => assignInOrder_nil (q () _ n s.heap s.toks ⟨rfl, rfl⟩ F)
  | cons h1 h2 h3 _ ih =>
    intro us hv
    cases hv with | cons ha hv => ?_
    exact fun s Q E F q => assignInOrder_cons (PyProof.Rows.bindName_ (Tr.store (P := fun _ m2 n2 => Tr w c m2 n2 _ _) ok ha h1 h2 h3 (ih hv) s _ E F fun _ m2 n2 h' tk' p F2 => p _ Q E F2 q))
theorem Has.rev {as : List AV} {us : List Value} (h : Has as us) : Has as.reverse us.reverse := by
  induction h with
  | nil => exact .nil
  | cons ha _ ih => rw [List.reverse_cons, List.reverse_cons]; exact ih.snoc ha
inductive AsgS (w : World) (sc : Scope) (d : Nat) (m : Vars) (n : ALed) (names : List Str) (a : AV) (K : Vars → Prop) : Prop
  | mk {T as ns as' m2} (ha : a = .ref T) (hT : (T, .tup as) ∈ n) (h1 : names.reverse = ns) (h2 : as.reverse = as') (h : AsgsN sc m ns as' m2) (hl : as.length = names.length) (k : K m2)
noncomputable def namesOf : List Expr → List Str
  | .Name x _ :: r => x :: namesOf r
  | _ => []
theorem Ws.assignS {es k tp value pos} (h : EvK ⟨w, sc, d, m, n⟩ value fun a n1 => AsgS w sc d m n1 (namesOf es) a fun m2 => Ws ⟨w, sc, d, m2, n1⟩ (rest :: bs) R)
    (hs : ∀ env line, swapsWithSole [.Tuple es k tp] value line env = Pure.pure false) (hw : ∀ env : Env, env.scope = sc → swappedStores [.Tuple es k tp] value env = Pure.pure (some (namesOf es))) : Ws ⟨w, sc, d, m, n⟩ ((.Assign [.Tuple es k tp] value pos :: rest) :: bs) R := Ws.cons fun c ok s Q E F q =>
  Assign_Tuple_swapped (h.run ok.ok F fun v n1 h1 tk1 a ha hA F1 => by
    obtain ⟨rfl, hT, rfl, rfl, hA, hl, hb⟩ := hA
    cases ha
    obtain ⟨us, hu, ho⟩ := F1.tupAt hT
    obtain ⟨mv, ld, F', V, N, R, D⟩ := id F1
    exact unpackItemsN_ (items := us.toArray) F' N ⟨_, ho, rfl, 0, rfl⟩ rfl (by rw [List.size_toArray, hu.length, hl]) fun h' F2 N2 =>
      hA.run ok hu.rev _ _ E ⟨mv, ld, F2, V, N2, R, D⟩ fun _ m3 n3 h3 tk3 e F3 => q .next m3 n3 h3 tk3 (by rw [e.1, e.2]; exact hb c ok) F3) (hs _ _) (hw _ ok.ok.scope)
/-- a test that changes the ledger -/
noncomputable def TstK (S : St) (e : Expr) (P : Bool → ALed → Prop) : Prop := ∀ c : Cx, c.Ok S.w S.sc S.d → Tr S.w c S.m S.n (isTrue e c.env (eval e c.env)) fun v m' n' => m' = S.m ∧ P v n'
theorem TstK.val {e} {P : Bool → ALed → Prop} (h : EvK ⟨w, sc, d, m, n⟩ e fun a n1 => ∃ b, Tru a b ∧ P b n1) (hp : plainT e = true) : TstK ⟨w, sc, d, m, n⟩ e P := fun c ok s Q E F q =>
  isTrue_plain (h.run ok F fun v n1 h1 tk1 a ha hp F1 => hp.elim fun b hp => truthy_of ha hp.1 (q b m n1 h1 tk1 ⟨rfl, hp.2⟩ F1)) (plainT_of hp)
theorem TstK.not {x pos} {P : Bool → ALed → Prop} (h : TstK ⟨w, sc, d, m, n⟩ x fun b n1 => P (!b) n1) : TstK ⟨w, sc, d, m, n⟩ (.UnaryOp .Not x pos) P := fun c ok s Q E F q =>
  isTrue_not (h c ok s _ E F fun v m1 n1 h1 tk1 p F1 => q _ m1 n1 h1 tk1 p F1)
theorem Ws.iteK {t a b pos} (h : TstK ⟨w, sc, d, m, n⟩ t fun v n1 => (v = true → Ws ⟨w, sc, d, m, n1⟩ (a :: rest :: bs) R) ∧ (v = false → Ws ⟨w, sc, d, m, n1⟩ (b :: rest :: bs) R)) : Ws ⟨w, sc, d, m, n⟩ ((.If t a b pos :: rest) :: bs) R := Ws.cons fun c ok s Q E F q =>
  wpAny_If (h c ok.ok s _ E F fun v m1 n1 h1' tk1 p F1 => by
    have F1 := (show m1 = m from p.1) ▸ F1
    cases v with
    | true => exact p.2.1 rfl c ok _ Q E F1 q
    | false => exact p.2.2 rfl c ok _ Q E F1 q)
/-- one statement by itself -/
noncomputable def CutR (J : Vars → ALed → Prop) (R : Flow → Vars → ALed → Prop) : Flow → Vars → ALed → Prop := fun f m n => match f with
  | .next => J m n
  | f => R f m n
theorem Ws.cut {st : Stmt} (J : Vars → ALed → Prop) (h : Ws ⟨w, sc, d, m, n⟩ [[st]] (CutR J R)) (k : ∀ m1 n1, J m1 n1 → Ws ⟨w, sc, d, m1, n1⟩ (rest :: bs) R) : Ws ⟨w, sc, d, m, n⟩ ((st :: rest) :: bs) R := Ws.cons fun c ok s Q E F q => by
  have inv : ∀ {Q : Flow → Shared → Prop}, wpAny (model PR w) c.A (execs [st] c.env) Q E s → wpAny (model PR w) c.A (exec st c.env) Q E s := fun h Γ p hΓ => by
    have h' := h Γ p hΓ
    rw [execs_cons, Sem.wp_bind'] at h'
    exact Sem.wp_mono _ Γ _ (fun f p' s' h'' => by cases f <;> exact h'') (fun _ _ _ x => x) _ _ h'
  refine inv (h c ok s _ E F fun f m1 n1 h1 tk1 hc F1 => ?_)
  cases f with
  | next => exact q .next m1 n1 h1 tk1 (k m1 n1 hc c ok) F1
  | _ => exact q _ m1 n1 h1 tk1 (Cont.off (fun e => nomatch e) hc) F1
end


section
variable {w : World} {n : ALed} {x lr : Addr} {most lo : Int} {vs : List AV} {rows : List (Int × Int)}
theorem Paired.empty {α β : Type} {F : α → β → Prop} {l : List α} {L : List β} (h : Paired F l L) : l.isEmpty = L.isEmpty := by cases h <;> rfl
theorem holes_whole_fn (hx : (x, holesO most lr) ∈ n) (hl : (lr, .lst vs) ∈ n) (hp : Paired (RowAt n) vs rows) : CallK w 1 n (.ref 360) [.ref x] fun a n' => a = .bool rows.isEmpty ∧ n' = n := by
  (refine' CallK.fn [(Str.ofString "self", .ref x)] ?o ?c ?b ?s ?_; (case o => k_is); (case c => k_is); (case b => exact bind1 fun s9 _ X9 => by first | exact BindsTo.of_eq rfl | exact binds_K X9 rfl (by k_is) rfl rfl rfl); (case s => kernel_rfl!))
  rw [← Paired.empty hp]
  repeat tm_at "ws"
  exact ⟨rfl, rfl⟩
theorem reach_fn (hx : (x, holesO most lr) ∈ n) (hl : (lr, .lst vs) ∈ n) (hp : Paired (RowAt n) vs (rows ++ [(lo, most)])) (hz : rows.length ≤ 1000) : CallK w 1 n (.ref 353) [.ref x] fun a n' => a = .int lo ∧ n' = n := by
  have hl1 := pairedLen hp
  rw [List.length_append, List.length_singleton] at hl1
  obtain ⟨T, hv, hT⟩ : ∃ T, getI vs (-1) = some (.ref T) ∧ (T, .tup [.int lo, .int most]) ∈ n := by
    have hlt : vs.length - 1 - 0 < vs.length := by (first | lia | omega)
    obtain ⟨r, hr, T, e, hT⟩ := pairedAt hp (List.getElem?_eq_getElem hlt)
    rw [show vs.length - 1 - 0 = rows.length by (first | lia | omega), List.getElem?_append_right (Nat.le_refl _)] at hr
    simp at hr
    subst hr
    exact ⟨T, by show (if 0 < vs.length then vs[vs.length - 1 - 0]? else none) = _; rw [if_pos (by (first | lia | omega)), List.getElem?_eq_getElem hlt, e], hT⟩
  have he : vs.isEmpty = false := by cases vs <;> first | rfl | simp at hl1
  (refine' CallK.fn [(Str.ofString "self", .ref x)] ?o ?c ?b ?s ?_; (case o => k_is); (case c => k_is); (case b => exact bind1 fun s9 _ X9 => by first | exact BindsTo.of_eq rfl | exact binds_K X9 rfl (by k_is) rfl rfl rfl); (case s => kernel_rfl!))
  repeat tm_at "ws"
  exact ⟨rfl, rfl⟩
end
/-- a datagram that is put together: what it holds -/
structure DgS where
  rows : List (Int × Int)
  parts : List (Int × By)
  endO : Option Int
  ahead : Int
  fst : Option Addr
  size : Int
noncomputable def endA : Option Int → AV
  | none => .none
  | some e => .int e
noncomputable def fstA : Option Addr → AV
  | none => .none
  | some a => .ref a
noncomputable abbrev dgFs (began most : Int) (hx lp : Addr) (e : AV) (ahead : Int) (f : AV) (size : Int) : Vars := [(Str.ofString "began", .int began), (Str.ofString "most", .int most), (Str.ofString "holes", .ref hx), (Str.ofString "parts", .ref lp), (Str.ofString "end", e), (Str.ofString "ahead", .int ahead), (Str.ofString "first", f), (Str.ofString "size", .int size)]
noncomputable abbrev dgI (began most : Int) (hx lp : Addr) (e : AV) (ahead : Int) (f : AV) (size : Int) : AO := .inst 417 (dgFs began most hx lp e ahead f size)
noncomputable abbrev dgO (began most : Int) (hx lp : Addr) (d : DgS) : AO := .inst 417 (dgFs began most hx lp (endA d.endO) d.ahead (fstA d.fst) d.size)
noncomputable def new0 (ms : Int) : DgS := ⟨[(0, ms)], [], none, 0, none, 0⟩
theorem Datagram_fn {w : World} {n : ALed} {now most : Int} {P : AV → ALed → Prop} (k : ∀ X HX LR T LP, P (.ref X) ((LP, .lst []) :: (LR, .lst [.ref T]) :: (T, .tup [.int 0, .int most]) :: (HX, holesO most LR) :: (X, dgO now most HX LP (new0 most)) :: n)) : CallK w 4 n (.ref 417) [.int now, .int most] P := by
  refine' CallK.cls (fun self => [(Str.ofString "most", .int most), (Str.ofString "began", .int now), (Str.ofString "self", .ref self)]) ?m1 ?m2 ?m3 ?o ?c ?b ?s ?_; (case m1 => kernel_rfl!); (case m2 => k_is); (case m3 => kernel_rfl!); (case o => k_is); (case c => k_is); (case b => intro self; exact bind3 fun s9 _ _ _ X9 => by first | exact BindsTo.of_eq rfl | exact binds_K X9 rfl (by k_is) rfl rfl rfl); (case s => intro self; kernel_rfl!); intro self
  repeat tm_at "ws"
  exact ⟨rfl, k self _ _ _ _⟩
/-- is a fragment against what is known? -/
noncomputable def agF (endO : Option Int) (ahead lo e : Int) (more : Bool) : Bool := match more, endO with
  | true, none => false
  | true, some x => decide (x ≤ e)
  | false, some x => decide (e ≠ x)
  | false, none => decide (e < lo) || (decide (e ≤ ahead) && decide (0 < e))

section
variable {w : World} {n : ALed} {X HX LR LP : Addr} {began most lo e b : Int} {vs : List AV} {d : DgS}
theorem is_against_fn {more : Bool} (hX : (X, dgO began most HX LP d) ∈ n) (hH : (HX, holesO most LR) ∈ n) (hl : (LR, .lst vs) ∈ n) (hp : Paired (RowAt n) vs d.rows) (hlast : more = false → d.endO = none → ∃ r0 : List (Int × Int), d.rows = r0 ++ [(lo, most)] ∧ r0.length ≤ 1000) (hm : e ≤ most) :
    CallK w 2 n (.ref 388) [.ref X, .int b, .int e, .bool more] fun a n' => a = .bool (agF d.endO d.ahead lo e more) ∧ n' = n := by
  obtain ⟨rows, parts, endO, ahead, fst, size⟩ := d
  dsimp only at hX hp hlast ⊢
  cases more <;> cases endO <;> dsimp only [dgO, dgFs, endA] at hX
  · obtain ⟨r0, rfl, hz⟩ := hlast rfl rfl
    (refine' CallK.fn [(Str.ofString "more", .bool false), (Str.ofString "end", .int e), (Str.ofString "begin", .int b), (Str.ofString "self", .ref X)] ?o ?c ?b ?s ?_; (case o => k_is); (case c => k_is); (case b => exact bind4 fun s9 _ _ _ _ X9 => by first | exact BindsTo.of_eq rfl | exact binds_K X9 rfl (by k_is) rfl rfl rfl); (case s => kernel_rfl!))
    repeat tm_at "ws"
    exact ⟨rfl, rfl⟩
  · (refine' CallK.fn [(Str.ofString "more", .bool false), (Str.ofString "end", .int e), (Str.ofString "begin", .int b), (Str.ofString "self", .ref X)] ?o ?c ?b ?s ?_; (case o => k_is); (case c => k_is); (case b => exact bind4 fun s9 _ _ _ _ X9 => by first | exact BindsTo.of_eq rfl | exact binds_K X9 rfl (by k_is) rfl rfl rfl); (case s => kernel_rfl!))
    repeat tm_at "ws"
    exact ⟨congrArg AV.bool (by unfold agF; dsimp only; rw [Bool.eq_iff_iff]; simp), rfl⟩
  · (refine' CallK.fn [(Str.ofString "more", .bool true), (Str.ofString "end", .int e), (Str.ofString "begin", .int b), (Str.ofString "self", .ref X)] ?o ?c ?b ?s ?_; (case o => k_is); (case c => k_is); (case b => exact bind4 fun s9 _ _ _ _ X9 => by first | exact BindsTo.of_eq rfl | exact binds_K X9 rfl (by k_is) rfl rfl rfl); (case s => kernel_rfl!))
    repeat tm_at "ws"
    exact ⟨rfl, rfl⟩
  · (refine' CallK.fn [(Str.ofString "more", .bool true), (Str.ofString "end", .int e), (Str.ofString "begin", .int b), (Str.ofString "self", .ref X)] ?o ?c ?b ?s ?_; (case o => k_is); (case c => k_is); (case b => exact bind4 fun s9 _ _ _ _ X9 => by first | exact BindsTo.of_eq rfl | exact binds_K X9 rfl (by k_is) rfl rfl rfl); (case s => kernel_rfl!))
    repeat tm_at "ws"
    exact ⟨rfl, rfl⟩
theorem dg_whole_fn (hX : (X, dgO began most HX LP d) ∈ n) (hH : (HX, holesO most LR) ∈ n) (hl : (LR, .lst vs) ∈ n) (hp : Paired (RowAt n) vs d.rows) :
    CallK w 2 n (.ref 402) [.ref X] fun a n' => a = .bool (d.endO.isSome && d.fst.isSome && d.rows.isEmpty) ∧ n' = n := by
  obtain ⟨rows, parts, endO, ahead, fst, size⟩ := d
  dsimp only at hX hp ⊢
  cases endO <;> cases fst <;> dsimp only [dgO, dgFs, endA, fstA] at hX <;> (refine' CallK.fn [(Str.ofString "self", .ref X)] ?o ?c ?b ?s ?_; (case o => k_is); (case c => k_is); (case b => exact bind1 fun s9 _ X9 => by first | exact BindsTo.of_eq rfl | exact binds_K X9 rfl (by k_is) rfl rfl rfl); (case s => kernel_rfl!)) <;> (repeat tm_at "ws") <;> exact ⟨by simp [AV.isN], rfl⟩
end

/-- the parts that a fragment brings -/
noncomputable def partsF (b : Int) (pay : By) (found : List (Int × Int)) : List (Int × By) := found.map fun r => (r.1, (pay.drop (r.1 - b).toNat).take ((r.2 - b).toNat - (r.1 - b).toNat))
noncomputable def sizeF (found : List (Int × Int)) : Int := (found.map fun r => r.2 - r.1).sum
theorem found_in {b e : Int} {rows : List (Int × Int)} {r : Int × Int} (h : r ∈ foundF b e rows) : b ≤ r.1 ∧ r.1 < r.2 ∧ r.2 ≤ e := by
  unfold foundF at h
  obtain ⟨q, hq, hr⟩ := List.mem_flatMap.mp h
  unfold fillOne at hr
  split at hr
  · simp at hr
  · simp at hr
    subst hr
    dsimp only
    (first | lia | omega)
theorem found_len {b e : Int} (rows : List (Int × Int)) : (foundF b e rows).length ≤ rows.length := by
  induction rows with
  | nil => exact Nat.le_refl _
  | cons r rows ih =>
    have e1 : foundF b e (r :: rows) = (fillOne b e r).1 ++ foundF b e rows := List.flatMap_cons
    rw [e1, List.length_append, List.length_cons, Nat.add_comm]
    exact Nat.add_le_add ih (by unfold fillOne; split <;> simp)
theorem rest_len {b e : Int} (rows : List (Int × Int)) : (restF b e rows).length ≤ 2 * rows.length := by
  induction rows with
  | nil => exact Nat.le_refl _
  | cons r rows ih =>
    have e1 : restF b e (r :: rows) = (fillOne b e r).2 ++ restF b e rows := List.flatMap_cons
    rw [e1, List.length_append, List.length_cons, Nat.add_comm]
    show _ ≤ 2 * rows.length + 2
    refine Nat.add_le_add ih ?_
    have h : ∀ (c : Prop) [Decidable c] (x : Int × Int), (if c then [x] else []).length ≤ 1 := by intro c _ x; split <;> simp
    unfold fillOne; split
    · simp
    · exact Nat.le_trans (Nat.le_of_eq List.length_append) (Nat.add_le_add (h _ _) (h _ _))
theorem partsF_succ {b : Int} {pay : By} {found : List (Int × Int)} {i : Nat} {r : Int × Int} (h : found[i]? = some r) : partsF b pay (found.take (i + 1)) = partsF b pay (found.take i) ++ [(r.1, (pay.drop (r.1 - b).toNat).take ((r.2 - b).toNat - (r.1 - b).toNat))] := by
  unfold partsF
  rw [List.take_add_one, h]; simp
theorem sizeF_succ {found : List (Int × Int)} {i : Nat} {r : Int × Int} (h : found[i]? = some r) : sizeF (found.take (i + 1)) = sizeF (found.take i) + r.2 - r.1 := by
  unfold sizeF
  rw [List.take_add_one, h]; simp; (first | lia | omega)
noncomputable def putS (most : Int) (hdr : Hdr) (pay : By) (hx : Addr) (d : DgS) : DgS where
  rows := if hdr.more = true then restF hdr.off (hdr.off + pay.length) d.rows else match d.endO with
    | none => restF (hdr.off + pay.length) most (restF hdr.off (hdr.off + pay.length) d.rows)
    | some _ => restF hdr.off (hdr.off + pay.length) d.rows
  parts := d.parts ++ partsF hdr.off pay (foundF hdr.off (hdr.off + pay.length) d.rows)
  endO := if hdr.more = true then d.endO else match d.endO with
    | none => some (hdr.off + pay.length)
    | some x => some x
  ahead := if hdr.more = true then max d.ahead (hdr.off + pay.length) else d.ahead
  fst := match d.fst with
    | none => if hdr.off = 0 then some hx else none
    | some a => some a
  size := d.size + sizeF (foundF hdr.off (hdr.off + pay.length) d.rows)
/-- a pair of ints lies not among these two -/
theorem memOut {T C X LP : Addr} {us : List AV} {fs : Vars} {ps : List AV} {tl r : ALed} (h : (T, AO.tup us) ∈ tl ++ (X, .inst C fs) :: (LP, .lst ps) :: r) : (T, AO.tup us) ∈ tl ++ r :=
  (List.mem_append.mp h).elim (List.mem_append_left _) fun h => (List.mem_cons.mp h).elim (fun e => nomatch e) fun h => (List.mem_cons.mp h).elim (fun e => nomatch e) (List.mem_append_right _)
theorem memIn {q a b : Addr × AO} {tl r : ALed} (h : q ∈ tl ++ r) : q ∈ tl ++ a :: b :: r :=
  (List.mem_append.mp h).elim (List.mem_append_left _) fun h => List.mem_append_right _ (.tail _ (.tail _ h))
theorem rowsOut {C X LP : Addr} {fs : Vars} {ps vs : List AV} {tl r : ALed} {rows : List (Int × Int)} (h : Paired (RowAt (tl ++ (X, .inst C fs) :: (LP, .lst ps) :: r)) vs rows) : Paired (RowAt (tl ++ r)) vs rows :=
  pairedImp (fun _ _ h => h.imp fun _ h => ⟨h.1, memOut h.2⟩) h
inductive PutI (M : Vars) (X HX LP l2 : Addr) (began most : Int) (vs2 : List AV) (tl rest : ALed) (d : DgS) (hdr : Hdr) (pay : By) (k i : Nat) : Vars → ALed → Prop
  | mk (ps2 : List AV) (tl2 : ALed) (sz : Int) : sz = d.size + sizeF ((foundF hdr.off (hdr.off + pay.length) d.rows).take i) → Paired (OptAt (tl2 ++ (tl ++ rest))) ps2 (d.parts ++ partsF hdr.off pay ((foundF hdr.off (hdr.off + pay.length) d.rows).take i)) → ps2.length ≤ k + i →
      PutI M X HX LP l2 began most vs2 tl rest d hdr pay k i M (tl2 ++ (HX, holesO most l2) :: (l2, .lst vs2) :: (tl ++ (X, dgI began most HX LP (endA d.endO) d.ahead (fstA d.fst) sz) :: (LP, .lst ps2) :: rest))
inductive PutM (M : Vars) (X HX LP : Addr) (began most : Int) (ps2 : List AV) (rest : ALed) (d : DgS) (f : AV) (sz : Int) : Vars → ALed → Prop
  | mk (eo : AV) (ah : Int) (L2 : Addr) (vs3 : List AV) (r : ALed) : eo = endA d.endO → ah = d.ahead → (∃ tl, r = tl ++ rest) → Paired (RowAt r) vs3 d.rows → Paired (OptAt r) ps2 d.parts →
      PutM M X HX LP began most ps2 rest d f sz M ((X, dgI began most HX LP eo ah f sz) :: (HX, holesO most L2) :: (L2, .lst vs3) :: (LP, .lst ps2) :: r)
section
variable {w : World} {rest : ALed} {X HX LR LP hx : Addr} {began most lo : Int} {vs ps : List AV} {d d2 : DgS} {hdr : Hdr} {pay : By}
theorem put_fn {P : AV → ALed → Prop} (hd2 : putS most hdr pay hx d = d2) (hh : (hx, hdrO hdr) ∈ rest) (hp : Paired (RowAt rest) vs d.rows) (hpp : Paired (OptAt rest) ps d.parts) (hlast : hdr.more = false → d.endO = none → ∃ r0 : List (Int × Int), d.rows = r0 ++ [(lo, most)] ∧ r0.length ≤ 1000) (hm : hdr.off + pay.length ≤ most)
    (hag : agF d.endO d.ahead lo (hdr.off + pay.length) hdr.more = false) (hoff : 0 ≤ hdr.off) (hpl : pay.length ≤ 1000) (hrl : d.rows.length ≤ 100) (hpsl : ps.length ≤ 1000)
    (hP : ∀ LR2 vs2 ps2 tl, Paired (RowAt (tl ++ rest)) vs2 d2.rows → Paired (OptAt (tl ++ rest)) ps2 d2.parts → P (.bool true) ((X, dgO began most HX LP d2) :: (HX, holesO most LR2) :: (LR2, .lst vs2) :: (LP, .lst ps2) :: (tl ++ rest))) :
    CallK w 4 ((X, dgO began most HX LP d) :: (HX, holesO most LR) :: (LR, .lst vs) :: (LP, .lst ps) :: rest) (.ref 395) [.ref X, .ref hx, .bytes pay] P := by
  have fin : ∀ {eo : AV} {ah : Int} {f : AV} {sz : Int} {L2 : Addr} {vs3 ps2 : List AV} {r : ALed}, eo = endA d2.endO → ah = d2.ahead → f = fstA d2.fst → sz = d2.size → (∃ tl, r = tl ++ rest) → Paired (RowAt r) vs3 d2.rows → Paired (OptAt r) ps2 d2.parts →
      P (.bool true) ((X, dgI began most HX LP eo ah f sz) :: (HX, holesO most L2) :: (L2, .lst vs3) :: (LP, .lst ps2) :: r) := by
    rintro _ _ _ _ L2 vs3 ps2 _ rfl rfl rfl rfl ⟨tl, rfl⟩ a b
    exact hP L2 vs3 ps2 tl a b
  clear hP
  have hpl' : (pay.length : Int) ≤ 1000 := by (first | lia | omega)
  (refine' CallK.fn [(Str.ofString "payload", .bytes pay), (Str.ofString "header", .ref hx), (Str.ofString "self", .ref X)] ?o ?c ?b ?s ?_; (case o => k_is); (case c => k_is); (case b => exact bind3 fun s9 _ _ _ X9 => by first | exact BindsTo.of_eq rfl | exact binds_K X9 rfl (by k_is) rfl rfl rfl); (case s => kernel_rfl!))
  have hp1 : Paired (RowAt ((X, dgO began most HX LP d) :: (HX, holesO most LR) :: (LR, .lst vs) :: (LP, .lst ps) :: rest)) vs d.rows := rowsUp hp fun q hq => .tail _ (.tail _ (.tail _ (.tail _ hq)))
  repeat tm_at "ws"
  clear hp1
  refine' Ws.for ?_ rfl
  tm_at "evm"
  refine CallK.front (p := (LR, .lst vs)) (by tm_at "take") (CallK.front (p := (HX, holesO most LR)) (by tm_at "take") (CallK.le (fill_fn (rest := (X, dgO began most HX LP d) :: (LP, .lst ps) :: rest) (rowsUp hp fun q hq => .tail _ (.tail _ hq)) (by (first | lia | omega)) fun l1 l2 fs vs2 tl hp2 hp3 => ?_) (Eq.refl true)))
  replace hp2 := rowsOut hp2
  replace hp3 := rowsOut hp3
  have hfl := pairedLen hp3
  have hfl2 := found_len (b := hdr.off) (e := hdr.off + pay.length) d.rows
  refine ForK.lst (n0 := (HX, holesO most l2) :: (l2, .lst vs2) :: (tl ++ (X, dgO began most HX LP d) :: (LP, .lst ps) :: rest)) (PutI [(Str.ofString "end", .int (hdr.off + pay.length)), (Str.ofString "begin", .int hdr.off), (Str.ofString "payload", .bytes pay), (Str.ofString "header", .ref hx), (Str.ofString "self", .ref X)] X HX LP l2 began most vs2 tl rest d hdr pay ps.length) .head
    ⟨_, _, .mk ps [] d.size (Int.add_zero _).symm (by simp only [List.take_zero, partsF, List.map_nil, List.append_nil, List.nil_append]; exact pairedImp (fun _ _ hq => hq.mono fun q hq => List.mem_append_right _ hq) hpp) (Nat.le_refl _), by tm_at "sub", List.Sublist.refl _⟩ ?_ ?_
  · refine fun i a m1 n1 ow hi h9 => PutI.casesOn h9 fun ps2 tl2 sz hsz hq hz => ?_
    refine rowAt hp3 hi fun lo' hi' T hr hT => ?_
    have hbd : hdr.off ≤ lo' ∧ lo' < hi' ∧ hi' ≤ hdr.off + pay.length := found_in (List.mem_of_getElem? hr)
    have hb1 := hbd.1
    have hb2 := hbd.2.1
    have hb3 := hbd.2.2
    have hilt : i < fs.length := (List.getElem?_eq_some_iff.mp hi).1
    have hps := partsF_succ (b := hdr.off) (pay := pay) hr
    have hsz2 : sizeF (List.take (i + 1) (foundF hdr.off (hdr.off + pay.length) d.rows)) = sizeF (List.take i (foundF hdr.off (hdr.off + pay.length) d.rows)) + hi' - lo' := sizeF_succ hr
    have hzz : ps2.length ≤ 10000 := by (first | lia | omega)
    have hT' : (T, AO.tup [.int lo', .int hi']) ∈ (tl2 ++ (HX, holesO most l2) :: (l2, .lst vs2) :: (tl ++ (X, dgI began most HX LP (endA d.endO) d.ahead (fstA d.fst) sz) :: (LP, .lst ps2) :: rest)) ++ ow :=
      List.mem_append_left _ (List.mem_append_right _ (.tail _ (.tail _ (memIn hT))))
    tm_at "asg"
    repeat tm_at "ws"
    rename_i l
    refine ⟨_, _, .mk (ps2 ++ [.ref l]) ((l, .tup [.int lo', .bytes ((pay.drop (lo' - hdr.off).toNat).take ((hi' - hdr.off).toNat - (lo' - hdr.off).toNat))]) :: tl2) (sz + hi' - lo') ?_ ?_ ?_, by tm_at "sub", List.Sublist.refl _⟩
    · rw [hsz2, hsz]; (first | lia | omega)
    · rw [hps, ← List.append_assoc d.parts]
      exact Paired.snoc (pairedImp (fun _ _ hq => hq.mono fun q hq => .tail _ hq) hq) ⟨l, rfl, .head _⟩
    · rw [List.length_append, List.length_singleton]; (first | lia | omega)
  · refine fun m1 n1 h9 => PutI.casesOn h9 fun ps2 tl2 sz hsz hq hz => ?_
    rw [hfl, List.take_length] at hq hsz
    have hrl2 := rest_len (b := hdr.off) (e := hdr.off + pay.length) d.rows
    refine Ws.weak (fun _ h => h) (List.sublist_cons_self _ _) (Ws.front (p := (LP, .lst ps2)) (by tm_at "take") (Ws.front (p := (l2, .lst vs2)) (by tm_at "take") (Ws.front (p := (HX, holesO most l2)) (by tm_at "take") (Ws.front (p := (X, dgI began most HX LP (endA d.endO) d.ahead (fstA d.fst) sz)) (by tm_at "take") ?_))))
    have hp4 : Paired (RowAt (tl2 ++ (tl ++ rest))) vs2 (restF hdr.off (hdr.off + pay.length) d.rows) := rowsUp hp2 fun q hq => List.mem_append_right _ hq
    have e1 : sz = d2.size := by rw [hsz, ← hd2]; rfl
    have e2 : d.parts ++ partsF hdr.off pay (foundF hdr.off (hdr.off + pay.length) d.rows) = d2.parts := by rw [← hd2]; rfl
    rw [e2] at hq
    clear hsz e2
    refine Ws.cut (PutM [(Str.ofString "end", .int (hdr.off + pay.length)), (Str.ofString "begin", .int hdr.off), (Str.ofString "payload", .bytes pay), (Str.ofString "header", .ref hx), (Str.ofString "self", .ref X)] X HX LP began most ps2 rest d2 (fstA d.fst) sz) ?_ ?_
    · have hr4 : ∃ t, tl2 ++ (tl ++ rest) = t ++ rest := ⟨tl2 ++ tl, (List.append_assoc _ _ _).symm⟩
      cases hmo : hdr.more with
      | true =>
        have e3 : d2.rows = restF hdr.off (hdr.off + pay.length) d.rows ∧ d2.endO = d.endO ∧ d2.ahead = max d.ahead (hdr.off + pay.length) := by rw [← hd2]; simp [putS, hmo]
        repeat tm_at "ws"
        exact .mk _ _ l2 vs2 _ (by rw [e3.2.1]) e3.2.2.symm hr4 (by rw [e3.1]; exact hp4) hq
      | false =>
        cases hen : d.endO with
        | some z =>
          have e3 : d2.rows = restF hdr.off (hdr.off + pay.length) d.rows ∧ d2.endO = some z ∧ d2.ahead = d.ahead := by rw [← hd2]; simp [putS, hmo, hen]
          repeat tm_at "ws"
          exact .mk _ _ l2 vs2 _ (by rw [e3.2.1]) e3.2.2.symm hr4 (by rw [e3.1]; exact hp4) hq
        | none =>
          have e3 : d2.rows = restF (hdr.off + pay.length) most (restF hdr.off (hdr.off + pay.length) d.rows) ∧ d2.endO = some (hdr.off + pay.length) ∧ d2.ahead = d.ahead := by rw [← hd2]; simp [putS, hmo, hen]
          repeat tm_at "ws"
          refine' Ws.expr ?_ ?a9
          case a9 => exact rfl
          tm_at "evm"
          refine CallK.front (p := (l2, .lst vs2)) (by tm_at "take") (CallK.front (p := (HX, holesO most l2)) (by tm_at "take") (CallK.le (end_at_fn (rest := (X, dgI began most HX LP (.int (hdr.off + pay.length)) d.ahead (fstA d.fst) sz) :: (LP, .lst ps2) :: (tl2 ++ (tl ++ rest))) (rowsUp hp4 fun q hq => .tail _ (.tail _ hq)) (by (first | lia | omega)) fun l3 vs3 tl5 hp5 => ?_) (Eq.refl true)))
          refine Ws.front (p := (LP, .lst ps2)) (by tm_at "take") (Ws.front (p := (l3, .lst vs3)) (by tm_at "take") (Ws.front (p := (HX, holesO most l3)) (by tm_at "take") (Ws.front (p := (X, dgI began most HX LP (.int (hdr.off + pay.length)) d.ahead (fstA d.fst) sz)) (by tm_at "take") ?_)))
          repeat tm_at "ws"
          exact .mk _ _ l3 vs3 (tl5 ++ (tl2 ++ (tl ++ rest))) (by rw [e3.2.1]; rfl) e3.2.2.symm (hr4.elim fun t e => ⟨tl5 ++ t, by rw [e, List.append_assoc]⟩) (by rw [e3.1]; exact rowsOut hp5) (pairedImp (fun _ _ hq => hq.mono fun q hq => List.mem_append_right _ hq) hq)
    · refine fun m1 n1 h9 => PutM.casesOn h9 fun eo ah L2 vs3 r q1 q2 hr4 hr ho => ?_
      cases hfs : d.fst with
      | some a =>
        repeat tm_at "ws"
        exact fin q1 q2 (by rw [← hd2]; simp [putS, hfs]) e1 hr4 hr ho
      | none =>
        by_cases h0 : hdr.off = 0
        · repeat tm_at "ws"
          exact fin q1 q2 (by rw [← hd2]; simp [putS, hfs, h0]; rfl) e1 hr4 hr ho
        · repeat tm_at "ws"
          exact fin q1 q2 (by rw [← hd2]; simp [putS, hfs, h0]) e1 hr4 hr ho
end

/-- the values are these octets -/
noncomputable def BytesAre (vs : List Value) (bs : List By) : Prop := Paired (fun v b => ∃ t, v = Value.bytes b.toArray t) vs bs
namespace BJ
open PySem.Calls Builtin
theorem slot : Slot "bytes" "join" "bytes.join" :=
  .of (owner := "bytes") (n := "join") (by rw [typeLookup_type, builtinLookup_eq_fast]; kernel_rfl) (by decide +kernel) (by decide +kernel) (by decide +kernel)
    (by first | exact .inl (by decide +kernel) | exact .inr (by decide +kernel)) (by rw [isSubtype_type]; kernel_rfl)
theorem type : typeOf (.builtin "bytes.join") = pure (.type "method_descriptor") := by show builtinType _ = _; rw [builtinType_eq_fast]; kernel_rfl
theorem entry : entryFor table "bytes.join" = some Builtin.«bytes.join» := entryFor_of_tree (by kernel_rfl)
theorem args (a b : Value) : argsOk "bytes.join" ⟨[a, b], []⟩ := by
  unfold argsOk; rw [signature?_of (id := "bytes.join") (n := ['n', 'i', 'o', 'j']) (o := ['s', 'e', 't', 'y', 'b']) (by kernel_rfl) FB.owner_bytes]; kernel_rfl
section
variable {M : Model} {A : Around} {E : Value → Shared → Prop} {s : Shared} {b : Array UInt8} {t : Tok}
theorem buffer_eq {id : String} {f : Bool} : Bytes.buffer? id (.bytes b t) f = pure (some b) := by
  unfold Bytes.buffer?
  rw [KBy.special_eq KBy.look_buffer, KBy.own_buffer, KBy.own_release]
  kernel_rfl
theorem take_eq {id : String} : Bytes.takeBuffer? id (.bytes b t) 0 = pure (some (b, none)) := by
  unfold Bytes.takeBuffer?
  rw [KBy.special_eq KBy.look_buffer, KBy.own_buffer, buffer_eq]
  kernel_rfl
theorem quiet_eq {id : String} : Bytes.takeBufferQuiet? id (.bytes b t) 0 = pure (some (b, none)) := by
  unfold Bytes.takeBufferQuiet?
  rw [take_eq]
  rfl
theorem joinLet_nil : ∀ (taken : List (Value × Option Value)) (keep : List Value) {Q : Unit → Shared → Prop}, (∀ p ∈ taken, p.2 = none) → Q () s → wpAny M A (Bytes.joinLetGo taken keep) Q E s
  | [], _, _, _, h => by unfold Bytes.joinLetGo; exact wpAny_pure h
  | (x, w) :: r, keep, Q, hn, h => by
    obtain rfl : w = none := hn _ (.head _)
    unfold Bytes.joinLetGo
    refine wpAny_bind (wpAny_letGo ?_)
    exact joinLet_nil r keep (fun p hp => hn p (.tail _ hp)) h
end
theorem joined_go : ∀ (l : List (Array UInt8)) (k : Nat) (out : Array UInt8), (l.zipIdx k).foldl (fun out (p : Array UInt8 × Nat) => (if p.2 > 0 then out ++ #[] else out) ++ p.1) out = out ++ (l.map Array.toList).flatten.toArray
  | [], _, out => by simp
  | x :: r, k, out => by
    rw [List.zipIdx_cons, List.foldl_cons, joined_go r (k + 1)]
    have : (if k > 0 then out ++ #[] else out) = out := by split <;> simp
    rw [this]
    apply Array.toList_inj.mp
    simp
theorem meets {vs : List Value} {bs : List By} {l : Addr} {t : Tok} (hb : BytesAre vs bs) (hz : (bs.map List.length).sum ≤ 100000) :
    Meets (Builtin.«bytes.join» ⟨[.bytes #[] t, .ref l], []⟩) (fun _ R s => s.heap.IsList l vs.toArray ∧ ∀ t' k, R (.ok (.ret (.bytes bs.flatten.toArray t'))) { s with toks := k }) := by
  refine .of_wp fun prog w A R s hS => ?_
  obtain ⟨hl, hR⟩ := hS
  unfold Builtin.«bytes.join» Bytes.joinM
  refine wpAny_bind (wpAny_of_eq (a := (.bytes #[] t, .ref l)) rfl ?_)
  dsimp only
  refine wpAny_bind (wpAny_mono (Q := fun v s' => v = .ref l ∧ s' = s) ?_ ?_ fun _ _ e => e)
  · show wpAny (model prog w) A.in1 (Bytes.joinItems (.ref l)) _ _ s
    unfold Bytes.joinItems
    refine wpAny_bind (wpAny_typeOf hl.typeIs ?_)
    refine bm_if_true rfl ?_
    exact wpAny_pure ⟨rfl, rfl⟩
  rintro v s' ⟨rfl, rfl⟩
  have hvl := pairedLen hb
  obtain ⟨o, ho, hc, n, hd⟩ := hl
  refine wpAny_bind (wpAny_seqItems ho hd ?_)
  refine bm_if_true rfl ?_
  by_cases h1 : vs.length = 1
  · obtain ⟨x, rfl⟩ := List.length_eq_one_iff.mp h1
    match bs, hb with
    | [b], .cons ⟨t, ht⟩ .nil =>
      subst ht
      refine wpAny_bind (wpAny_typeOf (typeIs_bytes _ _ _) ?_)
      refine bm_if_true rfl ?_
      refine wpAny_bind (wpAny_rule ?_)
      have := hR t s'.toks
      simp only [List.flatten_cons, List.flatten_nil, List.append_nil] at this
      exact wpAny_pure ⟨_, rfl, this⟩
  · have red : ∀ {β : Type} (f : Value → β) (g : β), (match vs.toArray with | #[x] => f x | _ => g) = g := by
      intro β f g
      match vs, h1 with
      | [], _ => rfl
      | [_], h1 => exact absurd rfl h1
      | _ :: _ :: _, _ => rfl
    have red2 : ∀ (f : Value → Sem PySem.Fin) (g : Sem PySem.Fin) {Q : PySem.Fin → Shared → Prop}, wpAny (model prog w) A.in1 g Q (fun e s' => R (.error e) s') s' → wpAny (model prog w) A.in1 (match vs.toArray with | #[x] => f x | _ => g) Q (fun e s' => R (.error e) s') s' := by
      intro f g Q h; rw [red]; exact h
    refine red2 _ _ ?_
    refine wpAny_bind ?_
    rw [Std.Legacy.Range.forIn_eq_forIn_range']
    have hsz : ([:vs.toArray.size] : Std.Legacy.Range).size = vs.length := by simp [Std.Legacy.Range.size]
    show wpAny _ _ (forIn (List.range' 0 ([:vs.toArray.size] : Std.Legacy.Range).size 1) _ _) _ _ _
    rw [hsz]
    refine wpAny_forIn_list _ (fun rest (st : Array (Array UInt8) × List (Value × Option Value)) s => ∃ i, i ≤ vs.length ∧ rest = List.range' i (vs.length - i) 1 ∧ s = s' ∧ st.1 = ((bs.take i).map List.toArray).toArray ∧ ∀ p ∈ st.2, p.2 = none ∧ p.1.onHeap = false) _ ?_ ?_ _ _ ⟨0, Nat.zero_le _, rfl, rfl, by simp, fun _ h => nomatch h⟩
    · rintro i9 rest ⟨parts, taken⟩ s9 ⟨i, hi, hr, rfl, hp, ht⟩
      have hlt : i < vs.length := by
        by_cases h : i < vs.length
        · exact h
        · rw [show vs.length - i = 0 by (first | lia | omega)] at hr; cases hr
      obtain ⟨j, hj⟩ : ∃ j, vs.length - i = j + 1 := ⟨vs.length - i - 1, by (first | lia | omega)⟩
      rw [hj, List.range'_succ] at hr
      obtain ⟨rfl, rfl⟩ := List.cons.inj hr
      refine wpAny_bind (wpAny_seqItems ho hd ?_)
      dsimp only
      have hany : (taken.any fun x => x.1.onHeap) = false := by
        rw [List.any_eq_false]; intro p hp; rw [(ht p hp).2]; simp
      rw [hany]
      refine bm_if_false rfl ?_
      obtain ⟨b, hb1, tb, hb2⟩ := pairedAt hb (List.getElem?_eq_getElem hlt)
      have hg : vs.toArray.getD i9 Value.none = .bytes b.toArray tb := by rw [← hb2]; simp [hlt]
      rw [hg]
      refine wpAny_bind (wpAny_holding (wpAny_of_eq quiet_eq ?_))
      dsimp only
      refine wpAny_bind (wpAny_seqItems ho hd ?_)
      dsimp only
      refine bm_if_false (by simp) ?_
      refine wpAny_pure ⟨i9 + 1, hlt, by rw [show vs.length - (i9 + 1) = j by (first | lia | omega)], rfl, ?_, ?_⟩
      · dsimp only at hp ⊢
        rw [hp, List.take_add_one, hb1]; simp
      · intro p hp
        rcases List.mem_append.mp hp with hp | hp
        · exact ht p hp
        · rw [List.mem_singleton.mp hp]; exact ⟨rfl, rfl⟩
    · rintro ⟨parts, taken⟩ s9 ⟨i, hi, hr, rfl, hp, ht⟩
      have hin : i = vs.length := by
        by_cases h : i < vs.length
        · obtain ⟨j, hj⟩ : ∃ j, vs.length - i = j + 1 := ⟨vs.length - i - 1, by (first | lia | omega)⟩
          rw [hj, List.range'_succ] at hr; cases hr
        · (first | lia | omega)
      subst hin
      dsimp only at hp
      rw [hvl, List.take_length] at hp
      subst hp
      refine wpAny_bind (wpAny_of_eq (a := (#[] : Array UInt8)) rfl ?_)
      have hsum : ∀ (l : List By) (k : Nat), (l.map List.toArray).toArray.foldl (fun x1 (x2 : Array UInt8) => x1 + x2.size) k = k + (l.map List.length).sum := by
        intro l
        induction l with
        | nil => intro k; simp
        | cons x r ih => intro k; simp only [List.map_cons, List.foldl_toArray', List.foldl_cons, List.sum_cons] at ih ⊢; rw [ih]; simp; (first | lia | omega)
      refine bm_if_false ?_ ?_
      · show Bytes.tooLong (Array.foldl _ _ ((bs.map List.toArray).toArray)) = false
        rw [hsum]
        exact KBy.tooLong_not (by simp; (first | lia | omega))
      have hj : Bytes.joined #[] (bs.map List.toArray) = bs.flatten.toArray := by
        unfold Bytes.joined
        rw [joined_go]
        have e2 : (bs.map List.toArray).map Array.toList = bs := by rw [List.map_map]; exact List.map_id' _
        rw [e2]; simp
      refine wpAny_bind (wpAny_mkBytes ?_ ?_)
      · refine wpAny_bind (wpAny_holding (wpAny_point ?_))
        refine wpAny_bind (joinLet_nil _ _ (fun p hp => (ht p hp).1) ?_)
        show wpAny _ _ (PySem.ret (Value.bytes (Bytes.joined #[] (bs.map List.toArray)) _)) _ _ _
        rw [hj]
        exact wpAny_pure ⟨_, rfl, hR _ _⟩
      · show (Bytes.joined #[] (bs.map List.toArray)).size ≤ _
        rw [hj, sizeLine_eq, List.size_toArray, List.length_flatten]; (first | lia | omega)
theorem call_ {prog : Program} {w : World} {A : Around} {E : Value → Shared → Prop} {s : Shared} {Q : Value → Shared → Prop} {vs : List Value} {bs : List By} {l : Addr} {t : Tok} (hl : s.heap.IsList l vs.toArray) (hb : BytesAre vs bs) (hz : (bs.map List.length).sum ≤ 100000) (h : ∀ t' k, Q (.bytes bs.flatten.toArray t') { s with toks := k }) :
    wpAny (model prog w) A (call (.builtin "bytes.join") [.bytes #[] t, .ref l]) Q E s :=
  call_meets slot (typeIs_bytes _ _ _) entry (args _ _) (meets hb hz) ⟨hl, h⟩
theorem method {M : Model} {A : Around} {E : Value → Shared → Prop} {s : Shared} {b : Array UInt8} {t : Tok} {pl : Sem Bool} {Q : Value × List Value → Shared → Prop} (h : Q (.builtin "bytes.join", [.bytes b t]) s) : wpAny M A (getMethod (.bytes b t) "join" pl) Q E s := by
  with_reducible exact KBd.method_of (.bytes b t) (typeIs_bytes _ _ _) slot type KBd.noRef h
end BJ
theorem Has.bytesAre {bs : List By} : ∀ {us : List Value}, Has (bs.map AV.bytes) us → BytesAre us bs := by
  induction bs with
  | nil => intro us h; cases h; exact .nil
  | cons b r ih =>
    intro us h
    cases h with | cons ha h => ?_
    exact .cons ha (ih h)
section
variable {w : World} {sc : Scope} {d : Nat} {m : Vars} {n : ALed} {P : AV → ALed → Prop}
theorem CallK.joinB {l : Addr} {bs : List By} (hl : (l, .lst (bs.map AV.bytes)) ∈ n) (hz : bs.flatten.length ≤ 100000) : CallK w d n (.builtin "bytes.join") [.bytes [], .ref l] fun a n' => a = .bytes bs.flatten ∧ n' = n := CallK.mk2 fun c sc ok m va vb ⟨t, e1⟩ e2 s Q E F q => by
  rw [e1, show vb = .ref l from e2]
  obtain ⟨us, k, hu, ho⟩ := F.lstAt hl
  exact BJ.call_ ⟨_, ho, rfl, _, rfl⟩ hu.bytesAre (by rw [← List.length_flatten]; exact hz) fun t' k' => q _ n s.heap k' (.bytes _) ⟨t', rfl⟩ ⟨rfl, rfl⟩ F
/-- octets' join is called -/
theorem EvK.joinB {o b es apos pos} (ho : Ev ⟨w, sc, d, m, n⟩ o (.bytes b)) (hp : callOk es apos pos = true) (hb : plainB o = true)
    (h : EvKs ⟨w, sc, d, m, n⟩ es fun as n1 => CallK w d n1 (.builtin "bytes.join") (.bytes b :: as) P) : EvK ⟨w, sc, d, m, n⟩ (.Call (.Attribute o "join" apos) es [] pos) P := fun c ok s Q E F q => by
  obtain ⟨pl, he⟩ := methodCall_eq (name := "join") hb hp c.env
  have hp := (Bool.and_eq_true_iff.mp hp).1
  exact MethodCall_ (ho.runB ok F fun t h1 tk1 F1 => BJ.method (callEnd ok [.bytes b] (.cons ⟨t, rfl⟩ .nil) rfl hp h F1 q)) he
end

section
variable {w : World} {n : ALed} {d : Nat}
theorem CallK.intI {i : Int} : CallK w d n (.type "int") [.int i] fun r n' => r = .int i ∧ n' = n := CallK.mk1 fun c sc ok m v ⟨t, e⟩ s Q E F q => e ▸ call_int_int (q _ n s.heap s.toks (.int i) ⟨_, rfl⟩ ⟨rfl, rfl⟩ F)
theorem CallK.intB {b : Bool} : CallK w d n (.type "int") [.bool b] fun r n' => r = .int (if b then 1 else 0) ∧ n' = n := CallK.mkV fun c sc ok m s Q E F q => call_int_bool (q _ n s.heap _ (.int _) ⟨_, rfl⟩ ⟨rfl, rfl⟩ F)
theorem CallK.lenL {l : Addr} {vs : List AV} (hl : (l, .lst vs) ∈ n) (hz : vs.length ≤ 100000) : CallK w d n (.builtin "len") [.ref l] fun r n' => r = .int vs.length ∧ n' = n := CallK.mkV fun c sc ok m s Q E F q => by
  obtain ⟨us, k, hu, ho⟩ := F.lstAt hl
  have e := hu.length
  exact len_list (items := us.toArray) ⟨_, ho, rfl, _, rfl⟩ (by rw [List.size_toArray]; (first | lia | omega)) (q _ n s.heap _ (.int vs.length) ⟨_, by rw [List.size_toArray, e]⟩ ⟨rfl, rfl⟩ F)
end
/-- the law's source of numbers -/
noncomputable abbrev srcO (a b : Int) : AO := .lst [.int a, .int b]
section
variable {w : World} {rest : ALed} {S : Addr} {a b top : Int}
theorem take_fn (hb0 : 0 ≤ b) (hb1 : b < 2147483647) (h0 : 0 < top) (h1 : top ≤ 4294967296) {P : AV → ALed → Prop}
    (hP : ∀ v a' b', 0 ≤ v → v < top → 0 ≤ b' → b' < 2147483647 → P (.int v) ((S, srcO a' b') :: rest)) : CallK w 1 ((S, srcO a b) :: rest) (.ref 518) [.ref S, .int top] P := by
  (refine' CallK.fn [(Str.ofString "top", .int top), (Str.ofString "source", .ref S)] ?o ?c ?b ?s ?_; (case o => k_is); (case c => k_is); (case b => exact bind2 fun s9 _ _ X9 => by first | exact BindsTo.of_eq rfl | exact binds_K X9 rfl (by k_is) rfl rfl rfl); (case s => kernel_rfl!))
  refine Ws.iteD (by tm_at "tst") (fun hc => ?_) (fun hc => ?_)
  · repeat tm_at "ws"
    exact hP _ _ _ (Int.emod_nonneg _ (by (first | lia | omega))) (Int.emod_lt_of_pos _ h0) hb0 hb1
  · repeat tm_at "ws"
    have k0 : 0 ≤ (b * 39373 + 7) % 2147483647 := Int.emod_nonneg _ (by decide)
    have k1 : (b * 39373 + 7) % 2147483647 < 2147483647 := Int.emod_lt_of_pos _ (by decide)
    repeat tm_at "ws"
    exact hP _ _ _ (Int.emod_nonneg _ (by (first | lia | omega))) (Int.emod_lt_of_pos _ h0) k0 k1
end

section
variable {w : World} {rest n : ALed} {S TL : Addr} {a b : Int} {vs : List AV} {o : By}
theorem one_fn (hb0 : 0 ≤ b) (hb1 : b < 2147483647) (hT : (TL, .lst vs) ∈ rest) (h1 : 0 < vs.length) (h2 : vs.length ≤ 100) {P : AV → ALed → Prop}
    (hP : ∀ (i : Nat) (r : AV) (a' b' : Int), vs[i]? = some r → 0 ≤ b' → b' < 2147483647 → P r ((S, srcO a' b') :: rest)) : CallK w 2 ((S, srcO a b) :: rest) (.ref 525) [.ref S, .ref TL] P := by
  (refine' CallK.fn [(Str.ofString "things", .ref TL), (Str.ofString "source", .ref S)] ?o ?c ?b ?s ?_; (case o => k_is); (case c => k_is); (case b => exact bind2 fun s9 _ _ X9 => by first | exact BindsTo.of_eq rfl | exact binds_K X9 rfl (by k_is) rfl rfl rfl); (case s => kernel_rfl!))
  refine Ws.retP (EvK.itemL (by tm_at "ev") ?_ rfl)
  tm_at "evc"
  refine CallK.le (take_fn hb0 hb1 (by (first | lia | omega)) (by (first | lia | omega)) fun v a' b' l0 l1 m0 m1 => ?_) (Eq.refl true)
  have hv : v.toNat < vs.length := by (first | lia | omega)
  exact ⟨v, vs, vs[v.toNat], rfl, .tail _ hT, getI_of l0 (List.getElem?_eq_getElem hv), by (first | lia | omega), hP v.toNat _ a' b' (List.getElem?_eq_getElem hv) m0 m1⟩
theorem fill_eq (o : By) : o ++ List.replicate ((0 - (o.length : Int)) % 4).toNat 0 = fillB o := by
  unfold fillB
  rw [Int.sub_emod 0, Int.sub_emod 4, Int.emod_emod]
  rfl
theorem filled_fn (hz : o.length ≤ 1000) : CallK w 1 n (.ref 532) [.bytes o] fun r n' => r = .bytes (fillB o) ∧ n' = n := by
  (refine' CallK.fn [(Str.ofString "octets", .bytes o)] ?o ?c ?b ?s ?_; (case o => k_is); (case c => k_is); (case b => exact bind1 fun s9 _ X9 => by first | exact BindsTo.of_eq rfl | exact binds_K X9 rfl (by k_is) rfl rfl rfl); (case s => kernel_rfl!))
  rw [← fill_eq]
  have h9 : ((0 - (o.length : Int)) % 4).toNat ≤ 4 := by (first | lia | omega)
  repeat tm_at "ws"
  exact ⟨rfl, rfl⟩
/-- what the law reads of a packet -/
noncomputable def readOff (o : By) : Int := (oct o 6 * 256 + oct o 7) % 8192 * 8
noncomputable def readMore (o : By) : Bool := decide ((oct o 6 * 256 + oct o 7) / 8192 % 2 = 1)
noncomputable def readOpts (o : By) : By := (o.drop 20).take ((oct o 0 % 16 * 4).toNat - 20)
noncomputable def readPart (o : By) : By := o.drop (oct o 0 % 16 * 4).toNat
noncomputable abbrev readO (o : By) : AO := .tup [.int (readOff o), .bool (readMore o), .bytes (readOpts o), .bytes (readPart o)]
theorem read_fn (hz : o.length ≤ 1000) (h0 : 20 ≤ o.length) {P : AV → ALed → Prop} (hP : ∀ T, P (.ref T) ((T, readO o) :: n)) : CallK w 1 n (.ref 558) [.bytes o] P := by
  (refine' CallK.fn [(Str.ofString "octets", .bytes o)] ?o ?c ?b ?s ?_; (case o => k_is); (case c => k_is); (case b => exact bind1 fun s9 _ X9 => by first | exact BindsTo.of_eq rfl | exact binds_K X9 rfl (by k_is) rfl rfl rfl); (case s => kernel_rfl!))
  have := oct_nonneg o 6; have := oct_lt o 6; have := oct_nonneg o 0; have := oct_lt o 0; have := oct_nonneg o 7; have := oct_lt o 7
  tm_at "ws"
  refine Ws.weak (fun _ h => h) (List.sublist_cons_self _ _) ?_
  tm_at "ws"
  exact hP _
theorem sum_right_fn {kk : Nat} (hz : o.length ≤ 1000) (h0 : 1 ≤ o.length) (h1 : oct o 0 % 16 * 4 = 2 * kk) (h2 : 2 * kk ≤ o.length) (h3 : pairs o kk % 65535 = 0) (h4 : 0 < pairs o kk) : CallK w 1 n (.ref 544) [.bytes o] fun r n' => r = .bool true ∧ n' = n := by
  (refine' CallK.fn [(Str.ofString "octets", .bytes o)] ?o ?c ?b ?s ?_; (case o => k_is); (case c => k_is); (case b => exact bind1 fun s9 _ X9 => by first | exact BindsTo.of_eq rfl | exact binds_K X9 rfl (by k_is) rfl rfl rfl); (case s => kernel_rfl!))
  have := oct_nonneg o 0; have := oct_lt o 0
  repeat tm_at "ws"
  refine' Ws.forR (k := kk) (fun i => Is [(Str.ofString "total", .int (pairs o i)), (Str.ofString "octets", .bytes o)] n) ?f1 ?s1 ?r1 ?st1 ?ab1 (size_two ?sz1) ?k1 rfl rfl ⟨_, _, .of (M' := [(Str.ofString "total", .int 0), (Str.ofString "octets", .bytes o)]) rfl, ?h1, List.Sublist.refl _⟩ ?turn ?done
  case f1 => tm_at "ev"
  case s1 => tm_at "evs"
  case r1 => constructor
  case st1 => decide
  case ab1 => (first | lia | omega)
  case sz1 => (first | lia | omega)
  case k1 => (first | lia | omega)
  case h1 => tm_at "sub"
  case turn =>
    refine fun i m1 n1 ow hi h9 => Is.casesOn h9 ?_
    tm_at "asg"
    have := oct_nonneg o (0 + (i : Int) * 2); have := oct_lt o (0 + (i : Int) * 2)
    repeat tm_at "ws"
    refine ⟨_, _, .of (M' := [(Str.ofString "total", .int (pairs o i + oct o (0 + (i : Int) * 2) * 256 + oct o (0 + (i : Int) * 2 + 1))), (Str.ofString "octets", .bytes o)]) ?_, by tm_at "sub", List.Sublist.refl _⟩
    rw [show 0 + (i : Int) * 2 = 2 * (i : Int) by (first | lia | omega), pairs, Int.add_assoc]
  case done =>
    refine fun m1 n1 h9 => Is.casesOn h9 ?_
    repeat tm_at "ws"
    exact ⟨by rw [decide_eq_true h3, decide_eq_true h4]; rfl, rfl⟩
end

theorem u8 {n : Int} (h0 : 0 ≤ n) (h1 : n < 256) : ((n.toNat.toUInt8.toNat : Nat) : Int) = n := byte_back h0 h1
theorem hi8 {n : Int} : (((n / 256 % 256).toNat.toUInt8.toNat : Nat) : Int) = n / 256 % 256 := u8 (Int.emod_nonneg _ (by decide)) (Int.emod_lt_of_pos _ (by decide))
theorem lo8 {n : Int} : (((n % 256).toNat.toUInt8.toNat : Nat) : Int) = n % 256 := u8 (Int.emod_nonneg _ (by decide)) (Int.emod_lt_of_pos _ (by decide))
theorem two8 (v : Int) : v / 256 % 256 * 256 + v % 256 = v % 65536 := by lia
theorem two8_of {v : Int} (h0 : 0 ≤ v) (h1 : v < 65536) : v / 256 % 256 * 256 + v % 256 = v := (two8 v).trans (Int.emod_eq_of_lt h0 h1)
theorem four8_of {v : Int} (h0 : 0 ≤ v) (h1 : v < 4294967296) : (v / 65536 / 256 % 256 * 256 + v / 65536 % 256) * 65536 + (v / 256 % 256 * 256 + v % 256) = v := by
  rw [two8_of (Int.ediv_nonneg h0 (by decide)) (Int.ediv_lt_of_lt_mul (by decide) h1), two8]
  exact Int.ediv_mul_add_emod v 65536
theorem toNat_step {a b : Int} (h0 : 0 ≤ a) (h : a ≤ b) : a.toNat + (b - a).toNat = b.toNat := by
  rw [← Int.toNat_add h0 (Int.sub_nonneg_of_le h)]
  exact congrArg Int.toNat (by omega)
theorem toNat_part {a b c : Int} (h1 : a ≤ b) (h2 : b ≤ c) : (c - a).toNat = (b - a).toNat + (c - b).toNat := by
  rw [← Int.toNat_add (Int.sub_nonneg_of_le h1) (Int.sub_nonneg_of_le h2)]
  exact congrArg Int.toNat (by omega)
theorem addSubL (a b : Int) : a + b - a = b := by omega
theorem toNat_back {a b : Int} {n : Nat} (h0 : 0 ≤ a) (h : b ≤ n) : min (b - a).toNat (n - a.toNat) = (b - a).toNat := by omega
section
variable {hdr : Hdr} {p : By}
theorem packB_eq (hdr : Hdr) (p : By) : packB hdr p = (firstB hdr ++ secondB hdr p.length ++ thirdB hdr ++ w16 (sumB hdr p.length)) ++ (behindB hdr ++ p) := by
  unfold packB; simp only [List.append_assoc]
theorem blankB_eq (hdr : Hdr) (n : Nat) : blankB hdr n = (firstB hdr ++ secondB hdr n ++ thirdB hdr ++ w16 0) ++ behindB hdr := rfl
theorem oct_right {a b : By} {i : Int} (h : (a.length : Int) ≤ i) : oct (a ++ b) i = oct b (i - a.length) := by
  unfold oct
  have e : (i - (a.length : Int)).toNat = i.toNat - a.length := by lia
  rw [e, List.getD_eq_getElem?_getD, List.getD_eq_getElem?_getD, List.getElem?_append_right (by lia)]
theorem oct_left {a b : By} {i : Int} (h0 : 0 ≤ i) (h : i < (a.length : Int)) : oct (a ++ b) i = oct a i := by
  unfold oct
  rw [List.getD_eq_getElem?_getD, List.getD_eq_getElem?_getD, List.getElem?_append_left (by lia)]
theorem head_len (hdr : Hdr) (n : Nat) (x : Int) : (firstB hdr ++ secondB hdr n ++ thirdB hdr ++ w16 x).length = 12 := rfl
theorem oct_tail {i : Int} (h : 12 ≤ i) (h2 : i < 20 + hdr.opts.length) : oct (packB hdr p) i = oct (blankB hdr p.length) i := by
  have hb : (behindB hdr).length = 8 + hdr.opts.length := by simp [behindB, w32_length]; lia
  have e1 : oct (packB hdr p) i = oct (behindB hdr ++ p) (i - 12) := by
    rw [packB_eq, oct_right (by rw [head_len]; lia), head_len]; rfl
  have e2 : oct (blankB hdr p.length) i = oct (behindB hdr) (i - 12) := by
    rw [blankB_eq, oct_right (by rw [head_len]; lia), head_len]; rfl
  rw [e1, e2, oct_left (by lia) (by rw [hb]; lia)]
theorem pairs_six (x : By) : pairs x 6 = oct x 0 * 256 + oct x 1 + (oct x 2 * 256 + oct x 3) + (oct x 4 * 256 + oct x 5) + (oct x 6 * 256 + oct x 7) + (oct x 8 * 256 + oct x 9) + (oct x 10 * 256 + oct x 11) := by
  have e : pairs x 6 = 0 + (oct x 0 * 256 + oct x 1) + (oct x 2 * 256 + oct x 3) + (oct x 4 * 256 + oct x 5) + (oct x 6 * 256 + oct x 7) + (oct x 8 * 256 + oct x 9) + (oct x 10 * 256 + oct x 11) := rfl
  rw [e]; lia
theorem pairs_from {x y : By} {d : Int} (h6 : pairs x 6 = pairs y 6 + d) : ∀ (k : Nat), (∀ i : Int, 12 ≤ i → i < 2 * ((6 + k : Nat) : Int) → oct x i = oct y i) → pairs x (6 + k) = pairs y (6 + k) + d
  | 0, _ => h6
  | k + 1, h => by
    have ih := pairs_from h6 k fun i h1 h2 => h i h1 (by lia)
    show pairs x (6 + k) + (oct x (2 * ((6 + k : Nat) : Int)) * 256 + oct x (2 * ((6 + k : Nat) : Int) + 1)) = pairs y (6 + k) + (oct y (2 * ((6 + k : Nat) : Int)) * 256 + oct y (2 * ((6 + k : Nat) : Int) + 1)) + d
    rw [ih, h (2 * ((6 + k : Nat) : Int)) (by lia) (by lia), h (2 * ((6 + k : Nat) : Int) + 1) (by lia) (by lia)]
    lia
theorem pairs_take {x : By} {n : Nat} : ∀ (k : Nat), 2 * k ≤ n → n ≤ x.length → pairs (x.take n) k = pairs x k
  | 0, _, _ => rfl
  | k + 1, h, hx => by
    have e : ∀ i : Int, 0 ≤ i → i < n → oct (x.take n) i = oct x i := by
      intro i h0 h1
      have : x = x.take n ++ x.drop n := (List.take_append_drop n x).symm
      conv => rhs; rw [this]
      rw [oct_left h0 (by rw [List.length_take]; lia)]
    show pairs _ k + _ = pairs x k + _
    rw [pairs_take k (by lia) hx, e _ (by lia) (by lia), e _ (by lia) (by lia)]
end
structure Good (h : Hdr) (p : By) : Prop where
  fits : Fits h
  opts : IsOpts h.opts
  len : p.length ≤ 60
  off : h.off ≤ 60
section
variable {h : Hdr} {p : By} (G : Good h p)
include G
theorem Good.sum0 : 0 ≤ sumB h p.length ∧ sumB h p.length ≤ 65535 := sumOf_range _ _
theorem Good.flags : 0 ≤ flagsN h ∧ flagsN h < 16384 := by
  have := G.fits.f0; have := G.fits.f1; have := G.off; have := G.fits.dn
  unfold flagsN; rw [this]; cases h.more <;> simp <;> lia
theorem Good.o0 : oct (packB h p) 0 = 64 + (20 + (h.opts.length : Int)) / 4 := by
  have := G.fits.q0
  show (((4 * 16 + (20 + (h.opts.length : Int)) / 4).toNat.toUInt8.toNat : Nat) : Int) = _
  rw [u8 (by lia) (by lia)]; lia
theorem Good.o1 : oct (packB h p) 1 = h.tos := u8 G.fits.o0 G.fits.o1
theorem Good.o8 : oct (packB h p) 8 = h.ttl := u8 G.fits.l0 G.fits.l1
theorem Good.o9 : oct (packB h p) 9 = h.proto := u8 G.fits.p0 G.fits.p1
theorem Good.g2 : g16 (packB h p) 2 = 20 + h.opts.length + p.length := by
  have := G.fits.q0; have := G.len
  show (((20 + (h.opts.length : Int) + p.length) / 256 % 256).toNat.toUInt8.toNat : Int) * 256 + (((20 + (h.opts.length : Int) + p.length) % 256).toNat.toUInt8.toNat : Int) = _
  rw [hi8, lo8]; exact two8_of (by lia) (by lia)
theorem Good.g4 : g16 (packB h p) 4 = h.ident := by
  show ((h.ident / 256 % 256).toNat.toUInt8.toNat : Int) * 256 + ((h.ident % 256).toNat.toUInt8.toNat : Int) = _
  rw [hi8, lo8]; exact two8_of G.fits.i0 G.fits.i1
theorem Good.g6 : g16 (packB h p) 6 = flagsN h := by
  have := G.flags
  show ((flagsN h / 256 % 256).toNat.toUInt8.toNat : Int) * 256 + ((flagsN h % 256).toNat.toUInt8.toNat : Int) = _
  rw [hi8, lo8]; exact two8_of this.1 (Int.lt_trans this.2 (by decide))
theorem Good.g8 : g16 (packB h p) 8 = h.ttl * 256 + h.proto := by
  have e : g16 (packB h p) 8 = oct (packB h p) 8 * 256 + oct (packB h p) 9 := rfl
  rw [e, G.o8, G.o9]
theorem Good.g10 : g16 (packB h p) 10 = sumB h p.length := by
  have := G.sum0
  show ((sumB h p.length / 256 % 256).toNat.toUInt8.toNat : Int) * 256 + ((sumB h p.length % 256).toNat.toUInt8.toNat : Int) = _
  rw [hi8, lo8]; exact two8_of this.1 (Int.lt_of_le_of_lt this.2 (by decide))
theorem Good.g12 : g32 (packB h p) 12 = h.src := by
  show (((h.src / 65536 / 256 % 256).toNat.toUInt8.toNat : Int) * 256 + ((h.src / 65536 % 256).toNat.toUInt8.toNat : Int)) * 65536 + (((h.src / 256 % 256).toNat.toUInt8.toNat : Int) * 256 + ((h.src % 256).toNat.toUInt8.toNat : Int)) = _
  rw [hi8, lo8, hi8, lo8]; exact four8_of G.fits.s0 G.fits.s1
theorem Good.g16_ : g32 (packB h p) 16 = h.tgt := by
  show (((h.tgt / 65536 / 256 % 256).toNat.toUInt8.toNat : Int) * 256 + ((h.tgt / 65536 % 256).toNat.toUInt8.toNat : Int)) * 65536 + (((h.tgt / 256 % 256).toNat.toUInt8.toNat : Int) * 256 + ((h.tgt % 256).toNat.toUInt8.toNat : Int)) = _
  rw [hi8, lo8, hi8, lo8]; exact four8_of G.fits.t0 G.fits.t1
theorem Good.head : headN (packB h p) = 20 + h.opts.length := by
  have := G.fits.q0; have := G.fits.q4
  unfold headN; rw [G.o0]; lia
theorem Good.length : (packB h p).length = 20 + h.opts.length + p.length := packB_length h p
theorem Good.drop20 : (packB h p).drop 20 = h.opts ++ p := rfl
theorem Good.n20 : (20 + (h.opts.length : Int)).toNat = 20 + h.opts.length := Int.toNat_natCast (20 + h.opts.length)
theorem Good.opts_ : ((packB h p).drop 20).take ((headN (packB h p)).toNat - 20) = h.opts := by
  rw [G.head, G.drop20]
  have : (20 + (h.opts.length : Int)).toNat - 20 = h.opts.length := by rw [G.n20, Nat.add_sub_cancel_left]
  rw [this, List.take_append_of_le_length (Nat.le_refl _), List.take_length]
theorem Good.dropH : (packB h p).drop (headN (packB h p)).toNat = p := by
  rw [G.head]
  rw [G.n20, ← List.drop_drop, G.drop20, List.drop_append_of_le_length (Nat.le_refl _), List.drop_length, List.nil_append]
theorem Good.pay : payOf (packB h p) = p := by
  unfold payOf
  rw [G.dropH, G.head, G.g2]
  rw [List.take_of_length_le (by rw [G.n20, show (20 + (h.opts.length : Int) + p.length).toNat = 20 + h.opts.length + p.length from Int.toNat_natCast (20 + h.opts.length + p.length), Nat.add_sub_cancel_left]; exact Nat.le_refl _)]
theorem Good.hdr : hdrOf (packB h p) = h := by
  have hf := G.flags; have h8 := G.fits.f8; have h0 := G.fits.f0; have hd := G.fits.dn; have ho := G.off
  have e : flagsN h = h.off / 8 + (if h.more = true then 8192 else 0) := by unfold flagsN; rw [hd]; simp
  unfold hdrOf
  rw [G.g12, G.g16_, G.o9, G.g4, G.o8, G.o1, G.g6, G.opts_]
  have e1 : (flagsN h / 16384 % 2 * 16384 != 0) = h.dont := by
    rw [hd, Int.ediv_eq_zero_of_lt hf.1 hf.2]; rfl
  have e2 : (flagsN h / 8192 % 2 * 8192 != 0) = h.more := by
    rw [e]
    cases h.more with
    | true => simp; lia
    | false => simp; lia
  have e3 : flagsN h % 8192 * 8 = h.off := by
    rw [e]; split <;> lia
  rw [e1, e2, e3]
end
section
variable {h : Hdr} {p : By} (G : Good h p)
include G
theorem Good.half : 2 * halfN h = 20 + h.opts.length ∧ 10 ≤ halfN h ∧ halfN h ≤ 100 := by
  have := G.fits.q0; have := G.fits.q4
  unfold halfN; lia
theorem Good.pairs_ : pairs (packB h p) (halfN h) = pairs (blankB h p.length) (halfN h) + sumB h p.length := by
  have hh := G.half
  obtain ⟨k, hk⟩ : ∃ k, halfN h = 6 + k := ⟨halfN h - 6, by lia⟩
  rw [hk]
  refine pairs_from ?_ k fun i h1 h2 => oct_tail h1 (by lia)
  rw [pairs_six, pairs_six]
  have g10 := G.g10
  have e : g16 (packB h p) 10 = oct (packB h p) 10 * 256 + oct (packB h p) 11 := rfl
  rw [e] at g10
  have z1 : oct (blankB h p.length) 10 = 0 := rfl
  have z2 : oct (blankB h p.length) 11 = 0 := rfl
  have r0 : oct (packB h p) 0 = oct (blankB h p.length) 0 := rfl
  have r1 : oct (packB h p) 1 = oct (blankB h p.length) 1 := rfl
  have r2 : oct (packB h p) 2 = oct (blankB h p.length) 2 := rfl
  have r3 : oct (packB h p) 3 = oct (blankB h p.length) 3 := rfl
  have r4 : oct (packB h p) 4 = oct (blankB h p.length) 4 := rfl
  have r5 : oct (packB h p) 5 = oct (blankB h p.length) 5 := rfl
  have r6 : oct (packB h p) 6 = oct (blankB h p.length) 6 := rfl
  have r7 : oct (packB h p) 7 = oct (blankB h p.length) 7 := rfl
  have r8 : oct (packB h p) 8 = oct (blankB h p.length) 8 := rfl
  have r9 : oct (packB h p) 9 = oct (blankB h p.length) 9 := rfl
  rw [r0, r1, r2, r3, r4, r5, r6, r7, r8, r9, z1, z2]
  lia
theorem pairs_mono (x : By) (j k : Nat) : pairs x j ≤ pairs x (j + k) := by
  induction k with
  | zero => exact Int.le_refl _
  | succ k ih =>
    have := oct_nonneg x (2 * ((j + k : Nat) : Int)); have := oct_nonneg x (2 * ((j + k : Nat) : Int) + 1)
    show _ ≤ pairs x (j + k) + (oct x (2 * ((j + k : Nat) : Int)) * 256 + oct x (2 * ((j + k : Nat) : Int) + 1))
    lia
theorem Good.big : 16384 ≤ pairs (blankB h p.length) (halfN h) := by
  have hh := G.half
  obtain ⟨k, hk⟩ : ∃ k, halfN h = 1 + k := ⟨halfN h - 1, by lia⟩
  have := pairs_mono G (blankB h p.length) 1 k
  have e : pairs (blankB h p.length) 1 = 0 + (oct (blankB h p.length) 0 * 256 + oct (blankB h p.length) 1) := rfl
  have r0 : oct (packB h p) 0 = oct (blankB h p.length) 0 := rfl
  have := oct_nonneg (blankB h p.length) 1
  have := G.o0
  rw [hk]; lia
theorem Good.right : pairs (packB h p) (halfN h) % 65535 = 0 ∧ 0 < pairs (packB h p) (halfN h) := by
  have hb := G.big
  rw [G.pairs_]
  unfold sumB sumOf foldN
  rw [if_neg (by lia)]
  lia
theorem Good.sound : Sound (packB h p) := by
  have hh := G.half; have hl := G.length; have hz := G.len; have hr := G.right
  refine ⟨by rw [hl]; lia, ?_, by rw [G.head]; lia, by rw [G.head, hl]; lia, by rw [hl]; have := G.fits.q0; lia, by rw [G.head, G.g2]; lia, by rw [G.g2, hl]; lia, ?_⟩
  · rw [G.o0]; have := G.fits.q0; lia
  · rw [G.head]
    have e1 := G.n20
    have e2 : ((20 + (h.opts.length : Int)) / 2).toNat = halfN h := Int.toNat_natCast ((20 + h.opts.length) / 2)
    rw [e1, e2]
    unfold sumOf
    rw [pairs_take _ (by lia) (by rw [hl]; lia)]
    unfold foldN
    rw [if_neg (by lia)]; lia
end
noncomputable def lessH (h : Hdr) : Hdr := { h with ttl := h.ttl - 1 }
theorem lessB_pack {h : Hdr} {p : By} (G : Good h p) (ht : 2 ≤ h.ttl) : lessB (packB h p) = packB (lessH h) p := by
  have hh := G.half
  have f := G.fits
  have t1 := f.l1; have p0 := f.p0; have p1 := f.p1
  have hs : pairs (blankB (lessH h) p.length) (halfN h) = pairs (blankB h p.length) (halfN h) - 256 := by
    obtain ⟨k, hk⟩ : ∃ k, halfN h = 6 + k := ⟨halfN h - 6, by lia⟩
    rw [hk]
    refine pairs_from (d := -256) ?_ k fun i h1 h2 => ?_
    · rw [pairs_six, pairs_six]
      have r8 : oct (blankB (lessH h) p.length) 8 = h.ttl - 1 := u8 (n := h.ttl - 1) (by lia) (by lia)
      have q8 : oct (blankB h p.length) 8 = h.ttl := u8 (by lia) (by lia)
      rw [r8, q8]
      have r0 : oct (blankB (lessH h) p.length) 0 = oct (blankB h p.length) 0 := rfl
      have r1 : oct (blankB (lessH h) p.length) 1 = oct (blankB h p.length) 1 := rfl
      have r2 : oct (blankB (lessH h) p.length) 2 = oct (blankB h p.length) 2 := rfl
      have r3 : oct (blankB (lessH h) p.length) 3 = oct (blankB h p.length) 3 := rfl
      have r4 : oct (blankB (lessH h) p.length) 4 = oct (blankB h p.length) 4 := rfl
      have r5 : oct (blankB (lessH h) p.length) 5 = oct (blankB h p.length) 5 := rfl
      have r6 : oct (blankB (lessH h) p.length) 6 = oct (blankB h p.length) 6 := rfl
      have r7 : oct (blankB (lessH h) p.length) 7 = oct (blankB h p.length) 7 := rfl
      have r9 : oct (blankB (lessH h) p.length) 9 = oct (blankB h p.length) 9 := rfl
      have r10 : oct (blankB (lessH h) p.length) 10 = oct (blankB h p.length) 10 := rfl
      have r11 : oct (blankB (lessH h) p.length) 11 = oct (blankB h p.length) 11 := rfl
      rw [r0, r1, r2, r3, r4, r5, r6, r7, r9, r10, r11]
      lia
    · rw [blankB_eq, blankB_eq, oct_right (by rw [head_len]; lia), oct_right (by rw [head_len]; lia)]
      rfl
  have hb := G.big
  have e16 : w16 (g16 (packB h p) 8 - 256) = thirdB (lessH h) := by
    rw [G.g8]
    have a1 : (h.ttl * 256 + h.proto - 256) / 256 % 256 = h.ttl - 1 := by lia
    have a2 : (h.ttl * 256 + h.proto - 256) % 256 = h.proto := by lia
    unfold w16 thirdB lessH
    rw [a1, a2]
  have esum : adjN (g16 (packB h p) 10) (g16 (packB h p) 8) (g16 (packB h p) 8 - 256) = sumB (lessH h) p.length := by
    rw [G.g10, G.g8]
    have e : sumB (lessH h) p.length = sumOf (blankB (lessH h) p.length) (halfN h) := rfl
    rw [e]
    unfold adjN sumB sumOf
    rw [hs]
    unfold foldN
    rw [if_neg (by lia), if_neg (by lia), if_neg (by lia)]
    lia
  unfold lessB
  rw [e16, esum]
  rfl

theorem laterB_idem {o : By} (h : IsOpts o) : laterB (laterB o) = laterB o ∧ IsOpts (laterB o) ∧ (laterB o).length ≤ 4 ∧ (laterB o).length % 4 = 0 := by
  rcases h with rfl | rfl | rfl | rfl | rfl
  · exact ⟨by decide, .inl (by decide), by decide, by decide⟩
  · exact ⟨by decide, .inr (.inl (by decide)), by decide, by decide⟩
  · exact ⟨by decide, .inl (by decide), by decide, by decide⟩
  · exact ⟨by decide, .inr (.inl (by decide)), by decide, by decide⟩
  · exact ⟨by decide, .inr (.inl (by decide)), by decide, by decide⟩
theorem IsOpts.four {o : By} (h : IsOpts o) : o.length ≤ 12 ∧ o.length % 4 = 0 := by rcases h with rfl | rfl | rfl | rfl | rfl <;> decide
/-- the options of the piece at a -/
noncomputable def optsAt (B : Hdr) (a : Int) : By := if a = 0 then B.opts else laterB B.opts
/-- x is the piece [a, b) of the datagram B, W; m: more come -/
structure PieceOf (B : Hdr) (W : By) (a b : Int) (m : Bool) (x : Hdr × By) : Prop where
  hdr : x.1 = { B with off := a, more := m, opts := optsAt B a }
  pay : x.2 = (W.drop a.toNat).take (b - a).toNat
  a0 : 0 ≤ a
  a8 : a % 8 = 0
  ab : a ≤ b
  bW : b ≤ W.length
  mm : m = true → b % 8 = 0 ∧ a < b
  ne : a < b ∨ W.length = 0
inductive Seg (B : Hdr) (W : By) : Int → Int → Bool → List (Hdr × By) → Prop
  | one {a b m x} : PieceOf B W a b m x → Seg B W a b m [x]
  | cons {a b c m x L} : PieceOf B W a b true x → Seg B W b c m L → Seg B W a c m (x :: L)
theorem Seg.append {B : Hdr} {W : By} {a b c : Int} {m : Bool} {L M : List (Hdr × By)} (h : Seg B W a b true L) (k : Seg B W b c m M) : Seg B W a c m (L ++ M) := by
  generalize hm : true = t at h
  induction h with
  | one p => subst hm; exact .cons p k
  | cons p _ ih => exact .cons p (ih k hm)
theorem Seg.all {B : Hdr} {W : By} {a b : Int} {m : Bool} {L : List (Hdr × By)} (h : Seg B W a b m L) : ∀ x ∈ L, ∃ a b m, PieceOf B W a b m x := by
  induction h with
  | one p => intro x hx; rw [List.mem_singleton.mp hx]; exact ⟨_, _, _, p⟩
  | cons p _ ih =>
    intro x hx
    rcases List.mem_cons.mp hx with rfl | hx
    · exact ⟨_, _, _, p⟩
    · exact ih x hx
/-- the numbers that the law draws -/
structure Base (B : Hdr) (W : By) : Prop where
  fits : Fits B
  opts : IsOpts B.opts
  len : W.length ≤ 40
theorem Base.less {B : Hdr} {W : By} (h : Base B W) (ht : 1 ≤ B.ttl) : Base (lessH B) W := by
  obtain ⟨⟨s0, s1, t0, t1, p0, p1, i0, i1, l0, l1, o0, o1, dn, f0, f1, f8, q0, q4⟩, o, l⟩ := h
  have e : (lessH B).ttl = B.ttl - 1 := rfl
  exact ⟨⟨s0, s1, t0, t1, p0, p1, i0, i1, by rw [e]; lia, by rw [e]; lia, o0, o1, dn, f0, f1, f8, q0, q4⟩, o, l⟩
theorem optsAt_isOpts {B : Hdr} (h : IsOpts B.opts) (a : Int) : IsOpts (optsAt B a) := by
  unfold optsAt; split
  · exact h
  · exact (laterB_idem h).2.1
theorem laterB_at {B : Hdr} (h : IsOpts B.opts) (a : Int) : laterB (optsAt B a) = laterB B.opts := by
  unfold optsAt; split
  · rfl
  · exact (laterB_idem h).1
theorem PieceOf.len {B : Hdr} {W : By} {a b : Int} {m : Bool} {x : Hdr × By} (P : PieceOf B W a b m x) : (x.2.length : Int) = b - a := by
  rw [P.pay, List.length_take, List.length_drop, toNat_back P.a0 P.bW]
  exact Int.toNat_of_nonneg (Int.sub_nonneg_of_le P.ab)
theorem PieceOf.good {B : Hdr} {W : By} {a b : Int} {m : Bool} {x : Hdr × By} (P : PieceOf B W a b m x) (H : Base B W) : Good x.1 x.2 := by
  have h1 := P.a0; have h2 := P.ab; have h3 := P.bW; have h4 := P.a8; have h5 := H.len; have h6 := P.len
  have ho := optsAt_isOpts H.opts a
  have hl := ho.four
  obtain ⟨s0, s1, t0, t1, p0, p1, i0, i1, l0, l1, o0, o1, dn, f0, f1, f8, q0, q4⟩ := H.fits
  refine ⟨?_, by rw [P.hdr]; exact ho, by lia, by rw [P.hdr]; dsimp only; lia⟩
  rw [P.hdr]
  exact ⟨s0, s1, t0, t1, p0, p1, i0, i1, l0, l1, o0, o1, dn, by dsimp only; lia, by dsimp only; lia, h4, by dsimp only; lia, by dsimp only; lia⟩
theorem PieceOf.less {B : Hdr} {W : By} {a b : Int} {m : Bool} {x : Hdr × By} (P : PieceOf B W a b m x) : PieceOf (lessH B) W a b m (lessH x.1, x.2) :=
  ⟨by rw [P.hdr]; rfl, P.pay, P.a0, P.a8, P.ab, P.bW, P.mm, P.ne⟩
theorem sub_piece {W : By} {a b c d : Int} (h0 : 0 ≤ a) (h1 : a ≤ c) (h2 : c ≤ d) (h3 : d ≤ b) : (((W.drop a.toNat).take (b - a).toNat).drop (c - a).toNat).take (d - c).toNat = (W.drop c.toNat).take (d - c).toNat := by
  rw [List.drop_take, List.drop_drop, List.take_take]
  rw [toNat_step h0 h1, toNat_part h1 (Int.le_trans h2 h3), Nat.add_sub_cancel_left, Nat.min_eq_left (Int.toNat_le_toNat (Int.sub_le_sub_right h3 c))]
theorem cutGo_seg {B : Hdr} {W : By} {a b : Int} {m : Bool} {x : Hdr × By} {mtu : Int} (P : PieceOf B W a b m x) (H : Base B W) (hm : 40 ≤ mtu) (f : Nat) : ∀ (at' : Int), 0 ≤ at' → at' % 8 = 0 → at' < x.2.length → (x.2.length : Int) - at' < 8 * f →
    Seg B W (a + at') b m (cutGo x.1 x.2 mtu f at' (optsAt B (a + at'))) ∧ ∀ y ∈ cutGo x.1 x.2 mtu f at' (optsAt B (a + at')), 20 + (y.1.opts.length : Int) + y.2.length ≤ mtu := by
  induction f with
  | zero => intro at' _ _ _ _; lia
  | succ f ih =>
    intro at' h0 h8 hlt hf
    have p1 := P.a0; have p2 := P.ab; have p3 := P.bW; have p4 := P.a8; have p5 := P.len; have p6 := P.mm
    have ho := (optsAt_isOpts H.opts (a + at')).four
    have q1 : a ≤ a + at' := Int.le_add_of_nonneg_right h0
    have q2 : a + at' < b := by lia
    have q3 : (a + at' - a).toNat = at'.toNat := congrArg Int.toNat (addSubL a at')
    have q4 : (a + at') % 8 = 0 := by lia
    have q5 := Int.add_nonneg p1 h0
    rw [cutGo_succ]
    split
    · rename_i hfit
      have e : x.2.drop at'.toNat = (W.drop (a + at').toNat).take (b - (a + at')).toNat := by
        have := sub_piece (W := W) (a := a) (b := b) (c := a + at') (d := b) p1 q1 (Int.le_of_lt q2) (Int.le_refl _)
        rw [← P.pay] at this
        rw [← this, q3, List.take_of_length_le (by rw [List.length_drop]; omega)]
      have pc : PieceOf B W (a + at') b m ({ x.1 with off := x.1.off + at', opts := optsAt B (a + at') }, x.2.drop at'.toNat) :=
        ⟨by rw [P.hdr], e, q5, q4, Int.le_of_lt q2, p3, fun h => ⟨(p6 h).1, q2⟩, .inl q2⟩
      refine ⟨.one pc, fun y hy => ?_⟩
      rw [List.mem_singleton.mp hy]
      dsimp only
      rw [List.length_drop]; lia
    · rename_i hfit
      have r0 : 8 ≤ (mtu - (20 + ((optsAt B (a + at')).length : Int))) / 8 * 8 := by lia
      have r1 : (mtu - (20 + ((optsAt B (a + at')).length : Int))) / 8 * 8 % 8 = 0 := Int.mul_emod_left _ _
      have r2 : (mtu - (20 + ((optsAt B (a + at')).length : Int))) / 8 * 8 ≤ mtu - (20 + ((optsAt B (a + at')).length : Int)) := Int.ediv_mul_le _ (by decide)
      generalize (mtu - (20 + ((optsAt B (a + at')).length : Int))) / 8 * 8 = room at r0 r1 r2 ⊢
      have r3 : 0 ≤ room := Int.le_trans (by decide) r0
      have q6 : a + at' ≤ a + at' + room := Int.le_add_of_nonneg_right r3
      have q7 : a + at' + room < b := by lia
      have q8 : (a + at' + room) % 8 = 0 := by lia
      have q9 : a + at' < a + at' + room := Int.lt_add_of_pos_right _ (Int.lt_of_lt_of_le (by decide) r0)
      have e : (x.2.drop at'.toNat).take ((at' + room).toNat - at'.toNat) = (W.drop (a + at').toNat).take (a + at' + room - (a + at')).toNat := by
        have := sub_piece (W := W) (a := a) (b := b) (c := a + at') (d := a + at' + room) p1 q1 q6 (Int.le_of_lt q7)
        rw [← P.pay] at this
        rw [← this, q3, addSubL, Int.toNat_add h0 r3, Nat.add_sub_cancel_left]
      have pc : PieceOf B W (a + at') (a + at' + room) true ({ x.1 with off := x.1.off + at', more := true, opts := optsAt B (a + at') }, (x.2.drop at'.toNat).take ((at' + room).toNat - at'.toNat)) :=
        ⟨by rw [P.hdr], e, q5, q4, q6, Int.le_trans (Int.le_of_lt q7) p3, fun _ => ⟨q8, q9⟩, .inl q9⟩
      have hl : laterB x.1.opts = optsAt B (a + (at' + room)) := by
        rw [P.hdr]
        show laterB (optsAt B a) = _
        rw [laterB_at H.opts]
        unfold optsAt
        rw [← Int.add_assoc, if_neg (Int.ne_of_gt (Int.lt_of_le_of_lt q5 q9))]
      obtain ⟨ih1, ih2⟩ := ih (at' + room) (Int.add_nonneg h0 r3) (by lia) (by lia) (by lia)
      rw [hl]
      rw [← Int.add_assoc] at ih1 ih2 ⊢
      refine ⟨.cons pc ih1, fun y hy => ?_⟩
      rcases List.mem_cons.mp hy with rfl | hy
      · have := pc.len
        dsimp only at this ⊢
        lia
      · exact ih2 y hy
theorem cut_seg {B : Hdr} {W : By} {a b : Int} {m : Bool} {x : Hdr × By} {mtu : Int} (P : PieceOf B W a b m x) (H : Base B W) (hm : 40 ≤ mtu) :
    Seg B W a b m (cutF x.1 x.2 mtu) ∧ ∀ y ∈ cutF x.1 x.2 mtu, 20 + (y.1.opts.length : Int) + y.2.length ≤ mtu := by
  have p1 := P.a0; have p5 := P.len
  have ho := (optsAt_isOpts H.opts a).four
  have hx : x.1.opts = optsAt B a := by rw [P.hdr]
  unfold cutF
  split
  · exact ⟨.one P, fun y hy => by rw [List.mem_singleton.mp hy]; lia⟩
  · have h := cutGo_seg P H hm (x.2.length + 1) 0 (by lia) (by lia) (by rw [hx] at *; lia) (by lia)
    rw [Int.add_zero, ← hx] at h
    exact h
/-- one link -/
noncomputable def overF (P : List (Hdr × By)) (mtu : Int) (first : Bool) : List (Hdr × By) := (P.map fun x => if first = true then x else (lessH x.1, x.2)).flatMap fun x => cutF x.1 x.2 mtu
theorem Seg.cutAll {B : Hdr} {W : By} {mtu : Int} (H : Base B W) (hm : 40 ≤ mtu) {a b : Int} {m : Bool} {L : List (Hdr × By)} (h : Seg B W a b m L) : Seg B W a b m (L.flatMap fun x => cutF x.1 x.2 mtu) := by
  induction h with
  | one p => rw [List.flatMap_cons, List.flatMap_nil, List.append_nil]; exact (cut_seg p H hm).1
  | cons p _ ih => rw [List.flatMap_cons]; exact (cut_seg p H hm).1.append ih
theorem Seg.less {B : Hdr} {W : By} {a b : Int} {m : Bool} {L : List (Hdr × By)} (h : Seg B W a b m L) : Seg (lessH B) W a b m (L.map fun x => (lessH x.1, x.2)) := by
  induction h with
  | one p => exact .one p.less
  | cons p _ ih => exact .cons p.less ih
theorem Seg.count {B : Hdr} {W : By} {a b : Int} {m : Bool} {L : List (Hdr × By)} (h : Seg B W a b m L) : 8 * (L.length : Int) ≤ b - a + 8 := by
  induction h with
  | one p => have := p.ab; simp; lia
  | cons p _ ih =>
    obtain ⟨h1, h3⟩ := p.mm rfl; have h2 := p.a8; have h4 := p.ab; have h5 := p.bW; have h6 := p.a0
    rw [List.length_cons]; lia

section
variable {w : World} {n : ALed} {h : Hdr} {p : By}
theorem unpack_pack_fn (G : Good h p) {P : AV → ALed → Prop} (hP : ∀ T x, P (.ref T) ((T, .tup [.ref x, .bytes p]) :: (x, hdrO h) :: n)) : CallK w 5 n (.ref 236) [.bytes (packB h p)] P :=
  unpack_ip_fn G.sound fun T x => by rw [G.hdr, G.pay]; exact hP T x
theorem lessened_pack_fn (G : Good h p) (ht : 2 ≤ h.ttl) : CallK w 3 n (.ref 243) [.bytes (packB h p)] fun a n' => a = .bytes (packB (lessH h) p) ∧ n' = n := by
  have := lessened_octets_fn (w := w) (n := n) G.sound (by rw [G.o8]; exact ht)
  rwa [lessB_pack G ht] at this
end
noncomputable def pk (x : Hdr × By) : By := packB x.1 x.2
noncomputable def pks (P : List (Hdr × By)) : List AV := P.map fun x => .bytes (pk x)
theorem pks_add {A B : List (Hdr × By)} : pks (A ++ B) = pks A ++ pks B := List.map_append
theorem pks_len (A : List (Hdr × By)) : (pks A).length = A.length := List.length_map _
theorem overF_succ {P : List (Hdr × By)} {mtu : Int} {first : Bool} {i : Nat} {x : Hdr × By} (h : P[i]? = some x) : overF (P.take (i + 1)) mtu first = overF (P.take i) mtu first ++ cutF (if first = true then x else (lessH x.1, x.2)).1 (if first = true then x else (lessH x.1, x.2)).2 mtu := by
  unfold overF
  rw [List.take_add_one, h]; simp
theorem overF_len {B : Hdr} {W : By} {P : List (Hdr × By)} {mtu : Int} (hs : ∀ x ∈ P, ∃ a b m, PieceOf B W a b m x) (H : Base B W) (ht : 1 ≤ B.ttl) (hm : 40 ≤ mtu) (first : Bool) (i : Nat) : (overF (P.take i) mtu first).length ≤ 6 * i := by
  induction i with
  | zero => simp [overF]
  | succ i ih =>
    cases hx : P[i]? with
    | none =>
      have e : P.take (i + 1) = P.take i := by rw [List.take_add_one, hx]; simp
      rw [e]; exact Nat.le_trans ih (Nat.mul_le_mul_left _ (Nat.le_succ _))
    | some x =>
      rw [overF_succ hx, List.length_append]
      obtain ⟨a, b, m, hp⟩ := hs x (List.mem_of_getElem? hx)
      refine Nat.add_le_add ih ?_
      have h1 := hp.bW; have h2 := hp.a0; have h3 := H.len
      cases first with
      | true => have := (cut_seg hp H hm).1.count; simp only [if_true]; lia
      | false => have := (cut_seg hp.less (H.less ht) hm).1.count; simp only [Bool.false_eq_true, if_false]; lia
theorem memSwap {A : ALed} {q : Addr × AO} {tl r : ALed} {l : Addr} {L L' : List AV} (h : q ∈ tl ++ (l, .lst L) :: r) (hq : ∀ X, q.2 ≠ .lst X) : q ∈ tl ++ (l, .lst L') :: r := by
  rcases List.mem_append.mp h with h | h
  · exact List.mem_append_left _ h
  rcases List.mem_cons.mp h with rfl | h
  · exact absurd rfl (hq _)
  · exact List.mem_append_right _ (.tail _ h)
/-- the pieces of one packet are packed and laid down -/
theorem cut_loop {w : World} {sc : Scope} {d : Nat} {m m' : Vars} {tl rest : ALed} {l lc : Addr} {L vsc : List AV} {tg : Expr} {body : List Stmt} {R : Flow → Vars → ALed → Prop} {B : Hdr} {W : By} {x : Hdr × By} {mtu : Int} {a b : Int} {mo : Bool}
    (hp : Paired (PieceAt (tl ++ (l, .lst L) :: rest)) vsc (cutF x.1 x.2 mtu)) (P : PieceOf B W a b mo x) (H : Base B W) (hm : 40 ≤ mtu) (hL : L.length ≤ 1000) (hmm : ∀ p ∈ m, p ∈ m')
    (turn : ∀ (y : Hdr × By) (T z : Addr) (L' : List AV) (ow : ALed), Good y.1 y.2 → 20 + (y.1.opts.length : Int) + y.2.length ≤ mtu → (T, .tup [.ref z, .bytes y.2]) ∈ (tl ++ (l, .lst L') :: rest) ++ ow → (z, hdrO y.1) ∈ (tl ++ (l, .lst L') :: rest) ++ ow → L'.length ≤ 2000 → AsgK ⟨w, sc, d, m, (tl ++ (l, .lst L') :: rest) ++ ow⟩ tg (.ref T) fun m2 => Ws ⟨w, sc, d, m2, (tl ++ (l, .lst L') :: rest) ++ ow⟩ [body] fun f m3 n3 => f = .next ∧ (∀ p ∈ m, p ∈ m3) ∧ ((tl ++ (l, .lst (L' ++ [.bytes (pk y)])) :: rest) ++ ow).Sublist n3)
    (done : ∀ R' : ALed, R' = (tl ++ (l, .lst (L ++ pks (cutF x.1 x.2 mtu))) :: rest) → R .next m R') (hR : ∀ v m n, R (.ret v) m n → R (.ret v) m n) :
    ForK ⟨w, sc, d, m', (lc, .lst vsc) :: (tl ++ (l, .lst L) :: rest)⟩ (.ref lc) tg body [[]] R := by
  have hcs := cut_seg P H hm
  have hvl := pairedLen hp
  have hcl := hcs.1.count
  have hb := P.bW; have ha := P.a0; have hW := H.len
  refine ForK.lst (fun j => Is m (tl ++ (l, .lst (L ++ pks ((cutF x.1 x.2 mtu).take j))) :: rest)) .head ⟨m, _, (by rw [List.take_zero, show L ++ pks [] = L from List.append_nil L]; exact .mk : Is m (tl ++ (l, .lst (L ++ pks ((cutF x.1 x.2 mtu).take 0))) :: rest) m (tl ++ (l, .lst L) :: rest)), hmm, List.Sublist.refl _⟩ ?_ ?_
  · refine fun j v m1 n1 ow hv h9 => Is.casesOn h9 ?_
    refine pieceAt hp hv fun y T z hy h1 h2 => ?_
    refine (hcs.1.all y (List.mem_of_getElem? hy)).elim fun a2 hpy => hpy.elim fun b2 hpy => hpy.elim fun c2 hpy => ?_
    have hjl : j < vsc.length := (List.getElem?_eq_some_iff.mp hv).1
    have t := turn y T z (L ++ pks ((cutF x.1 x.2 mtu).take j)) ow (hpy.good H) (hcs.2 y (List.mem_of_getElem? hy)) (List.mem_append_left _ (memSwap (A := []) h1 (by simp))) (List.mem_append_left _ (memSwap (A := []) h2 (by simp))) (by rw [List.length_append, pks_len, List.length_take]; lia)
    refine fun c ok v hv => (t c ok v hv).mono fun _ m2 n2 ⟨e, hw⟩ => ⟨e, hw.mono fun f m3 n3 ⟨e, h3, h4⟩ => ?_⟩
    subst e
    refine ⟨m, _, .mk, h3, ?_⟩
    rw [List.take_add_one, hy, Option.toList_some, pks_add, ← List.append_assoc L]
    exact h4
  · refine fun m1 n1 h9 => Is.casesOn h9 ?_
    exact Ws.weak (fun _ h => h) (List.sublist_cons_self _ _) (Ws.pop (Ws.done (done _ (by rw [hvl, List.take_length]))))
@[elab_as_elim] theorem pks_at {P : List (Hdr × By)} {i : Nat} {a : AV} {C : AV → Prop} (h : (pks P)[i]? = some a) (k : ∀ x, P[i]? = some x → C (.bytes (packB x.1 x.2))) : C a := by
  unfold pks at h
  rw [List.getElem?_map] at h
  cases e : P[i]? with
  | none => rw [e] at h; cases h
  | some x => rw [e] at h; exact Option.some.inj h ▸ k x e
theorem over_fn {w : World} {n n0 : ALed} {LP : Addr} {P : List (Hdr × By)} {B : Hdr} {W : By} {mtu : Int} {first : Bool} (hT : Take (LP, .lst (pks P)) n n0) (hs : Seg B W 0 W.length false P) (H : Base B W) (ht : 2 ≤ B.ttl) (hm : 40 ≤ mtu) (hm2 : mtu ≤ 1000) {C : AV → ALed → Prop}
    (hP : ∀ l, C (.ref l) ((l, .lst (pks (overF P mtu first))) :: n)) : CallK w 9 n (.ref 551) [.ref LP, .int mtu, .bool first] C := by
  (refine' CallK.fn [(Str.ofString "is_first", .bool first), (Str.ofString "mtu", .int mtu), (Str.ofString "packets", .ref LP)] ?o ?c ?b ?s ?_; (case o => k_is); (case c => k_is); (case b => exact bind3 fun s9 _ _ _ X9 => by first | exact BindsTo.of_eq rfl | exact binds_K X9 rfl (by k_is) rfl rfl rfl); (case s => kernel_rfl!))
  have hc5 := hs.count
  have hW := H.len
  repeat tm_at "ws"
  rename_i l
  refine' Ws.for ?_ rfl
  tm_at "evk"
  refine ForK.lst (n0 := (l, .lst []) :: n0) (fun i => Is [(Str.ofString "found", .ref l), (Str.ofString "is_first", .bool first), (Str.ofString "mtu", .int mtu)] ((l, .lst (pks (overF (P.take i) mtu first))) :: n0)) (.tail hT) ⟨_, _, .mk, by tm_at "sub", List.Sublist.refl _⟩ ?_ ?_
  · refine fun i a m1 n1 ow hi h9 => Is.casesOn h9 ?_
    refine pks_at hi fun x hx => ?_
    have hil : i < P.length := (List.getElem?_eq_some_iff.mp hx).1
    refine (hs.all x (List.mem_of_getElem? hx)).elim fun a0 hpc => hpc.elim fun b0 hpc => hpc.elim fun m0 hpc => ?_
    have hov := overF_succ (mtu := mtu) (first := first) hx
    have hol := overF_len hs.all H (by omega) hm first i
    have hol2 : (pks (overF (P.take i) mtu first)).length ≤ 1000 := by rw [pks_len]; omega
    generalize hx' : (if first = true then x else (lessH x.1, x.2)) = x' at hov
    have hpb : ∃ B', Base B' W ∧ PieceOf B' W a0 b0 m0 x' := by
      cases first with
      | true => exact ⟨B, H, by rw [← hx']; exact hpc⟩
      | false => exact ⟨lessH B, H.less (by omega), by rw [← hx']; exact hpc.less⟩
    refine hpb.elim fun B' hpb => ?_
    have hH' := hpb.1
    have hpc' := hpb.2
    have G0 := hpc.good H
    have ht0 : 2 ≤ x.1.ttl := by rw [hpc.hdr]; exact ht
    tm_at "asg"
    refine Ws.cut (Is [(Str.ofString "octets", .bytes (packB x'.1 x'.2)), (Str.ofString "found", .ref l), (Str.ofString "is_first", .bool first), (Str.ofString "mtu", .int mtu)] (((l, .lst (pks (overF (P.take i) mtu first))) :: n0) ++ ow)) ?_ ?_
    · cases first with
      | true =>
        obtain rfl : x = x' := hx'
        repeat tm_at "ws"
        exact .mk
      | false =>
        obtain rfl : (lessH x.1, x.2) = x' := hx'
        refine Ws.iteT (v := !false) (by tm_at "tst") rfl ?_
        refine Ws.assign (m0 := [(Str.ofString "found", .ref l), (Str.ofString "is_first", .bool false), (Str.ofString "mtu", .int mtu)]) ?_ .here (by kernel_rfl!) (by kernel_rfl!) rfl
        tm_at "evc"
        refine CallK.to (CallK.le (lessened_pack_fn G0 ht0) (Eq.refl true)) ?_
        repeat tm_at "ws"
        exact .mk
    refine fun m1 n1 h9 => Is.casesOn h9 ?_
    have G1 := hpc'.good hH'
    refine Ws.assignT ?_ (fun _ _ => rfl) fun _ => rfl
    tm_at "evc"
    refine CallK.le (unpack_pack_fn G1 fun T z => ?_) (Eq.refl true)
    tm_at "asg"
    refine' Ws.for ?_ rfl
    tm_at "evc"
    have hf := G1.fits
    have ho := G1.opts
    have hl := G1.len
    refine CallK.le (cut_fn (x := z) (by tm_at "in") hf (by omega) ho hm hm2 fun lc vsc tl hpp => ?_) (Eq.refl true)
    rw [show tl ++ (T, AO.tup [.ref z, .bytes x'.2]) :: (z, hdrO x'.1) :: (((l, .lst (pks (overF (P.take i) mtu first))) :: n0) ++ ow) = (tl ++ [(T, AO.tup [.ref z, .bytes x'.2]), (z, hdrO x'.1)]) ++ (l, .lst (pks (overF (P.take i) mtu first))) :: (n0 ++ ow) by simp] at hpp ⊢
    generalize tl ++ [(T, AO.tup [.ref z, .bytes x'.2]), (z, hdrO x'.1)] = tl2 at hpp ⊢
    refine cut_loop (m := [(Str.ofString "found", .ref l), (Str.ofString "is_first", .bool first), (Str.ofString "mtu", .int mtu)]) hpp hpc' hH' hm hol2 (by tm_at "sub") ?_ ?_ (fun _ _ _ h => h)
    · intro y T5 z5 L' ow2 Gy hyl h1 h2 hL'
      have hyf := Gy.fits
      have hyn := Gy.len
      have hpl := packB_length y.1 y.2
      have hhk := Gy.half
      have hk1 : oct (packB y.1 y.2) 0 % 16 * 4 = 2 * (halfN y.1 : Int) := by have := Gy.head; unfold headN at this; omega
      have hk2 : 2 * halfN y.1 ≤ (packB y.1 y.2).length := by omega
      have hk3 := Gy.right.1
      have hk4 := Gy.right.2
      have hk5 : ((packB y.1 y.2).length : Int) ≤ mtu := by omega
      have hk6 : (packB y.1 y.2).length ≤ 1000 := by omega
      tm_at "asg"
      repeat tm_at "ws"
      exact ⟨rfl, by tm_at "sub", List.Sublist.refl _⟩
    · rintro R' rfl
      refine ⟨_, _, .mk, fun _ h => h, ?_⟩
      rw [hov, pks_add]
      exact (List.Sublist.refl _).trans (List.sublist_append_right tl2 _)
  · refine fun m1 n1 h9 => Is.casesOn h9 ?_
    refine Ws.untake (.tail hT) ?_
    repeat tm_at "ws"
    rw [show (pks P).length = P.length from pks_len P, List.take_length]
    exact hP l

/-- a sort's tree run with ready answers -/
noncomputable def runK {α : Type} (f : Nat → Nat → Bool) : KasT α → α
  | .ret a => a
  | .ask i j k => runK f (k (f i j))
noncomputable def okK {α : Type} (n : Nat) : KasT α → Bool
  | .ret _ => true
  | .ask i j k => (i != j) && decide (i < n) && decide (j < n) && okK n (k true) && okK n (k false)
theorem okK_ask {α : Type} {n i j : Nat} {k : Bool → KasT α} (h : okK n (.ask i j k) = true) : i ≠ j ∧ i < n ∧ j < n ∧ ∀ b, okK n (k b) = true := by
  simp only [okK, Bool.and_eq_true, bne_iff_ne, decide_eq_true_eq] at h
  exact ⟨h.1.1.1.1, h.1.1.1.2, h.1.1.2, fun b => by cases b; exact h.2; exact h.1.2⟩
theorem runK_wp {α : Type} {n : Nat} {f : Nat → Nat → Bool} {cmp : Nat → Nat → (Bool → Shared → Prop) → Shared → Prop} {s : Shared} {Q : α → Shared → Prop} (hc : ∀ i j (C : Bool → Shared → Prop), i ≠ j → i < n → j < n → C (f i j) s → cmp i j C s) :
    ∀ (t : KasT α), okK n t = true → Q (runK f t) s → t.kasWp cmp Q s
  | .ret _, _, h => h
  | .ask i j k, ho, h => by
    obtain ⟨h1, h2, h3, h4⟩ := okK_ask ho
    exact hc i j _ h1 h2 h3 (runK_wp hc (k (f i j)) (h4 _) h)
theorem runK_congr {α : Type} {n : Nat} {f g : Nat → Nat → Bool} (hf : ∀ i j, i ≠ j → i < n → j < n → f i j = g i j) : ∀ (t : KasT α), okK n t = true → runK f t = runK g t
  | .ret _, _ => rfl
  | .ask i j k, ho => by
    obtain ⟨h1, h2, h3, h4⟩ := okK_ask ho
    show runK f (k (f i j)) = runK g (k (g i j))
    rw [hf i j h1 h2 h3]
    exact runK_congr hf _ (h4 _)
theorem ok2 : okK 2 (kas_sort 2) = true := by decide +kernel
theorem ok3 : okK 3 (kas_sort 3) = true := by decide +kernel
theorem ok4 : okK 4 (kas_sort 4) = true := by decide +kernel
theorem ok5 : okK 5 (kas_sort 5) = true := by decide +kernel
theorem okN {n : Nat} (h2 : 2 ≤ n) (h5 : n ≤ 5) : okK n (kas_sort n) = true := by
  rcases (show n = 2 ∨ n = 3 ∨ n = 4 ∨ n = 5 by lia) with rfl | rfl | rfl | rfl
  · exact ok2
  · exact ok3
  · exact ok4
  · exact ok5
/-- the order in which the keys are laid -/
noncomputable def sortIdx (ks : List Int) : List Nat := if ks.length < 2 then List.range ks.length else (runK (fun i j => decide (ks.getD i 0 < ks.getD j 0)) (kas_sort ks.length)).toList
section
variable {prog : Program} {w : World} {A : Around} {E : Value → Shared → Prop} {s : Shared} {h₀ : Heap} {L : Addr} {m : Str → Option Value} {news : Led}
/-- a tuple that begins with an int -/
noncomputable def KeyR (news : Led) (v : Value) (k : Int) : Prop := ∃ T t r n, v = .ref T ∧ (T, ({ cls := .type "tuple", data := .seq (List.toArray (.int k t :: r)) n } : Obj)) ∈ news
theorem keysTups {news h} (N : News h₀ L h news) {vs : List Value} {ks : List Int} (p : Paired (KeyR news) vs ks) : ∃ fs, KatTups h vs fs ∧ IntsAre fs ks := by
  induction p with
  | nil => exact ⟨[], KatTups.nil, .nil⟩
  | cons h _ ih =>
    obtain ⟨T, t, q, n, rfl, hm⟩ := h
    obtain ⟨fs, h1, h2⟩ := ih
    exact ⟨_, KatTups.cons (N.get hm) rfl rfl rfl h1, .cons _ t h2⟩
theorem intsTy {fs : List Value} {ks : List Int} (h : IntsAre fs ks) : ∀ v ∈ fs, ∃ i t, v = Value.int i t := by
  induction h with
  | nil => intro v hv; cases hv
  | cons i t _ ih =>
    intro v hv
    rcases List.mem_cons.mp hv with rfl | hv
    · exact ⟨_, _, rfl⟩
    · exact ih v hv
theorem sortedTups {l : Addr} {vs : List Value} {ks : List Int} {Q : Value → Shared → Prop} (F : Fr h₀ L s.heap m) (N : News h₀ L s.heap news) (hl : s.heap.IsList l vs.toArray) (hk : Paired (KeyR news) vs ks) (hnd : ks.Nodup) (h2 : 2 ≤ vs.length) (h5 : vs.length ≤ 5)
    (h : ∀ D h' c, Fr h₀ L h' m → News h₀ L h' ((D, listOf (List.toArray ((sortIdx ks).map fun i => vs.getD i .none)) c) :: news) → (∀ q ∈ news, q.1 < D) → Q (.ref D) { s with heap := h' }) :
    wpAny (model prog w) A (call (.builtin "sorted") [.ref l]) Q E s := by
  have hlen := pairedLen hk
  refine kat_sorted F N hl h2 (by lia) fun D e1 h' F' N' hlt => ?_
  have N2 : News h₀ L h' news := fun p hp => N' p (.tail _ hp)
  obtain ⟨fs, hT, hI⟩ := keysTups N2 hk
  refine kat_kind (T := Value.type "int") hT (by have := hI.length; lia) (fun v hv => ?_) rfl ?_
  · obtain ⟨i, t, rfl⟩ := intsTy hI v hv
    exact Looks.now
  · refine runK_wp (n := vs.length) (f := fun i j => decide (ks.getD i 0 < ks.getD j 0)) ?_ _ (okN h2 h5) ?_
    · intro i j C hij hi hj hC
      obtain ⟨a, ha, T1, t1, r1, n1, e1, m1⟩ := pairedAt hk (List.getElem?_eq_getElem hi)
      obtain ⟨b, hb, T2, t2, r2, n2, e2, m2⟩ := pairedAt hk (List.getElem?_eq_getElem hj)
      have hab : a ≠ b := by
        intro e; subst e
        obtain ⟨hi', ea⟩ := List.getElem?_eq_some_iff.mp ha
        obtain ⟨hj', eb⟩ := List.getElem?_eq_some_iff.mp hb
        rcases Nat.lt_or_gt_of_ne hij with hl' | hl'
        · exact (List.pairwise_iff_getElem.mp hnd) i j hi' hj' hl' (ea.trans eb.symm)
        · exact (List.pairwise_iff_getElem.mp hnd) j i hj' hi' hl' (eb.trans ea.symm)
      have ga : vs.getD i Value.none = .ref T1 := by rw [← e1]; simp [hi]
      have gb : vs.getD j Value.none = .ref T2 := by rw [← e2]; simp [hj]
      have ka : ks.getD i 0 = a := by rw [List.getD_eq_getElem?_getD, ha]; rfl
      have kb : ks.getD j 0 = b := by rw [List.getD_eq_getElem?_getD, hb]; rfl
      rw [ka, kb] at hC
      unfold kas_ask
      rw [ga, gb]
      refine kat_lt (N2.get m1) rfl (N2.get m2) rfl ?_
      show KatLex _ _ _ _ _ _ ((.int a t1, .int b t2) :: _) 0 _
      refine kat_cons (wpAny_eqBool_int ?_)
      have : (a == b) = false := by simpa using hab
      rw [this]
      exact kat_no (oneLt_int hC)
    · refine KasFin.intro F' N' (.head fun p hp => Nat.ne_of_lt (hlt p hp)) fun h'' c F'' N'' => ?_
      have e : sortIdx ks = (runK (fun i j => decide (ks.getD i 0 < ks.getD j 0)) (kas_sort vs.length)).toList := by
        unfold sortIdx; rw [if_neg (by lia), hlen]
      rw [← e] at N''
      exact h D h'' c F'' N'' hlt
theorem sort_one {a : Addr} {v : Value} {n : Nat} {P : PySem.Fin → Shared → Prop} (ho : s.heap.get? a = some (seqObj "list" [v].toArray n)) (h : P (.done (.ret .none)) { s with heap := sortedHeap s.heap a [v] #[v] }) :
    wpAny (model prog w) A (Builtin.«list.sort» ⟨[.ref a], []⟩) P E s := by
  have ha : a < s.heap.objs.size := Heap.lt_size ho
  obtain ⟨e1, ho1⟩ : ∃ e1, (s.heap.update a (Obj.mapSeq fun _ => #[])).get? a = some (seqObj "list" #[] e1) := ⟨_, get?_update_seq ho (fun _ => #[])⟩
  have ho2 : (((s.heap.update a (Obj.mapSeq fun _ => #[])).push (seqObj "tuple" [v].toArray 0)).push (seqObj "list" #[] 0)).get? a = some (seqObj "list" #[] e1) := Heap.get?_push_of_some _ (Heap.get?_push_of_some _ ho1)
  rw [list_sort_plain]
  refine wpAny_bind (listItems_at ho rfl ?_)
  refine wpAny_bind (listUpdate_at ho rfl ?_ (by rw [sizeLine_eq]; simp) (Nat.zero_le _))
  refine wpAny_bind (seqEpoch_at ho1 rfl ?_)
  refine wpAny_bind (wpAny_newTuple ?_ (by rw [sizeLine_eq]; simp))
  refine wpAny_bind (wpAny_newList ?_ (Nat.zero_le _))
  refine wpAny_holding ?_
  show wpAny (model prog w) A _ P E { s with heap := ((s.heap.update a (Obj.mapSeq fun _ => #[])).push (seqObj "tuple" [v].toArray 0)).push (seqObj "list" #[] 0) }
  dsimp only
  rw [if_pos (by simp), if_pos (by simp)]
  refine wpAny_bind (wpAny_pure ?_)
  rw [StateT.run_pure]
  refine wpAny_bind (wpAny_pure ?_)
  dsimp only
  refine wpAny_bind (seqEpoch_at ho2 rfl ?_)
  refine wpAny_bind (listUpdate_at ho2 rfl ?_ (Nat.zero_le _) (by rw [sizeLine_eq]; simp [arrOf, SortSt.mk']))
  simp only [bne_self_eq_false, Bool.false_eq_true, if_false]
  have e : (arrOf (SortSt.mk' general' ([v].toArray.zip [v].toArray) #[] 7 none)).map (fun x => x.2) = #[v] := by
    show Array.map _ ([v].toArray.zip [v].toArray) = _
    simp
  have h' : P (.done (.ret .none)) { s with heap := sortedHeap s.heap a [v] ((arrOf (SortSt.mk' general' ([v].toArray.zip [v].toArray) #[] 7 none)).map (fun x => x.2)) } := by rw [e]; exact h
  exact wpAny_pure h'
theorem sorted_one {l : Addr} {v : Value} {Q : Value → Shared → Prop} (F : Fr h₀ L s.heap m) (N : News h₀ L s.heap news) (hl : s.heap.IsList l [v].toArray)
    (h : ∀ D h' c, Fr h₀ L h' m → News h₀ L h' ((D, listOf (List.toArray [v]) c) :: news) → (∀ q ∈ news, q.1 < D) → Q (.ref D) { s with heap := h' }) :
    wpAny (model prog w) A (call (.builtin "sorted") [.ref l]) Q E s := by
  have hf : News h₀ L (sortedAll s.heap [v] #[v]) news ∧ Fr h₀ L (sortedAll s.heap [v] #[v]) m := ⟨N.grown fun b o e => sortedAll_old e, F.keeps fun b o e => sortedAll_old e⟩
  obtain ⟨e9, h9⟩ := sortedAll_at s.heap [v] #[v]
  have hL : L < s.heap.objs.size := F.ns.lt
  refine Calls.call_function_entry kind_sorted plain_sorted entry_sorted (args_sorted1 _) ?_
  unfold Builtin.«sorted»
  refine wpAny_bind (m := checkCount "sorted" 1 1 _) (wpAny_pure ?_)
  refine wpAny_bind (collect_list hl ?_ (by rw [sizeLine_eq]; simp))
  refine wpAny_bind (wpAny_newList ?_ (by rw [sizeLine_eq]; simp))
  have hsz : ((s.heap.push (seqObj "list" #[] 0)).update s.heap.objs.size (Obj.mapSeq (· ++ [v].toArray))).objs.size = s.heap.objs.size + 1 := by
    rw [Heap.size_update, size_push']
  have hoL : (((s.heap.push (seqObj "list" #[] 0)).update s.heap.objs.size (Obj.mapSeq (· ++ [v].toArray))).push (seqObj "list" [v].toArray 0)).get? (s.heap.objs.size + 1) = some (seqObj "list" [v].toArray 0) := by
    rw [← hsz]; exact Heap.get?_push_size _ rfl
  show wpAny _ _ _ _ _ { s with heap := ((s.heap.push (seqObj "list" #[] 0)).update s.heap.objs.size (Obj.mapSeq (· ++ [v].toArray))).push (seqObj "list" [v].toArray 0) }
  rw [hsz]
  refine wpAny_bind (wpAny_holding (wpAny_call_entry slot_list_sort ⟨_, hoL, rfl⟩ entry_list_sort (sort_one hoL ⟨_, rfl, ?_⟩) (args_list_sort _)))
  refine wpAny_pure ⟨_, rfl, h (s.heap.objs.size + 1) _ e9 hf.2 (fun p hp => ?_) fun q hq => Nat.lt_succ_of_lt (Heap.lt_size (N q hq).1)⟩
  rcases List.mem_cons.mp hp with rfl | hp
  · exact ⟨h9, Nat.ne_of_gt (Nat.lt_succ_of_lt hL), Heap.get?_none_of_le (Nat.le_trans F.above (Nat.le_succ_of_le (Nat.le_of_lt hL)))⟩
  · exact hf.1 p hp
theorem sortIdx_one (k : Int) : sortIdx [k] = [0] := rfl
theorem sortedKeys {l : Addr} {vs : List Value} {ks : List Int} {Q : Value → Shared → Prop} (F : Fr h₀ L s.heap m) (N : News h₀ L s.heap news) (hl : s.heap.IsList l vs.toArray) (hk : Paired (KeyR news) vs ks) (hnd : ks.Nodup) (h2 : 1 ≤ vs.length) (h5 : vs.length ≤ 5)
    (h : ∀ D h' c, Fr h₀ L h' m → News h₀ L h' ((D, listOf (List.toArray ((sortIdx ks).map fun i => vs.getD i .none)) c) :: news) → (∀ q ∈ news, q.1 < D) → Q (.ref D) { s with heap := h' }) :
    wpAny (model prog w) A (call (.builtin "sorted") [.ref l]) Q E s := by
  by_cases h1 : vs.length = 1
  · obtain ⟨v, rfl⟩ := List.length_eq_one_iff.mp h1
    obtain ⟨k, rfl⟩ := List.length_eq_one_iff.mp ((pairedLen hk).symm.trans h1)
    exact sorted_one F N hl h
  · exact sortedTups F N hl hk hnd (by lia) h5 h
end

/-- a tuple that begins with an int -/
noncomputable def KeyAt (n : ALed) (v : AV) (k : Int) : Prop := ∃ T r, v = .ref T ∧ (T, .tup (.int k :: r)) ∈ n
theorem Has.getD {vs : List AV} {us : List Value} (h : Has vs us) : ∀ i, (vs.getD i .none).has (us.getD i .none) := by
  induction h with
  | nil => intro i; exact rfl
  | cons ha _ ih =>
    intro i
    cases i with
    | zero => exact ha
    | succ i => simpa using ih i
theorem Has.pick {vs : List AV} {us : List Value} (h : Has vs us) (idx : List Nat) : Has (idx.map fun i => vs.getD i .none) (idx.map fun i => us.getD i .none) := by
  induction idx with
  | nil => exact .nil
  | cons i r ih => exact .cons (h.getD i) ih
theorem keysR {P : Params} {n : ALed} {l hid : Led} (R : Real P n l) {vs : List AV} {us : List Value} (h : Has vs us) : ∀ {ks : List Int}, Paired (KeyAt n) vs ks → Paired (KeyR (l ++ hid)) us ks := by
  induction h with
  | nil => intro ks p; cases p; exact .nil
  | cons ha _ ih =>
    intro ks p
    cases p with | cons k hr => ?_
    obtain ⟨T, r, e, hm⟩ := k
    subst e; cases ha
    obtain ⟨us, hu, hm2⟩ := R.tupAt hm
    cases hu with | cons h1 h2 => ?_
    obtain ⟨t, rfl⟩ := h1
    exact .cons ⟨T, t, _, 0, rfl, List.mem_append_left _ hm2⟩ (ih hr)
theorem CallK.sorted {w : World} {n : ALed} {d : Nat} {l : Addr} {vs : List AV} {ks : List Int} (hl : (l, .lst vs) ∈ n) (hk : Paired (KeyAt n) vs ks) (hnd : ks.Nodup) (h1 : 1 ≤ vs.length) (h5 : vs.length ≤ 5)
    {ws : List AV} (hws : (sortIdx ks).map (fun i => vs.getD i .none) = ws) {P : AV → ALed → Prop} (hP : ∀ D, P (.ref D) ((D, .lst ws) :: n)) : CallK w d n (.builtin "sorted") [.ref l] P := CallK.mkV fun c sc ok m s Q E F q => by
  subst hws
  obtain ⟨us, k, hu, ho⟩ := F.lstAt hl
  obtain ⟨mv, ld, F', V, N, R, D⟩ := F
  have hlen := hu.length
  refine sortedKeys F' N ⟨_, ho, rfl, _, rfl⟩ (keysR R hu hk) hnd (by lia) (by lia) fun D' h' c' F2 N2 lt => ?_
  refine q (.ref D') _ h' s.toks (.ref D') rfl (hP D') ⟨mv, (D', listOf _ c') :: ld, F2, V, N2, .lst (hu.pick _) R, ?_⟩
  rw [List.cons_append, List.map_cons, List.nodup_cons]
  refine ⟨fun hm => ?_, D⟩
  obtain ⟨p, hp, e⟩ := List.mem_map.mp hm
  exact absurd (lt p hp) (by rw [e]; exact Nat.lt_irrefl _)

theorem Good.readOff {h : Hdr} {p : By} (G : Good h p) : readOff (packB h p) = h.off := by
  have := congrArg Hdr.off G.hdr; exact this
theorem Good.readOpts {h : Hdr} {p : By} (G : Good h p) : readOpts (packB h p) = h.opts := by
  have := congrArg Hdr.opts G.hdr; exact this
theorem Good.readPart {h : Hdr} {p : By} (G : Good h p) : readPart (packB h p) = p := G.dropH
theorem Good.readMore {h : Hdr} {p : By} (G : Good h p) : readMore (packB h p) = h.more := by
  have h1 : (g16 (packB h p) 6 / 8192 % 2 * 8192 != 0) = h.more := congrArg Hdr.more G.hdr
  rw [← h1]
  show decide (g16 (packB h p) 6 / 8192 % 2 = 1) = _
  have h2 : g16 (packB h p) 6 / 8192 % 2 = 0 ∨ g16 (packB h p) 6 / 8192 % 2 = 1 := by lia
  rcases h2 with h2 | h2 <;> rw [h2] <;> decide
/-- where the piece i begins -/
noncomputable def offN (a : Int) (L : List (Hdr × By)) (i : Nat) : Int := a + ((L.take i).map fun x => (x.2.length : Int)).sum
theorem offN_zero (a : Int) (L : List (Hdr × By)) : offN a L 0 = a := by unfold offN; simp
theorem offN_cons (a : Int) (x : Hdr × By) (L : List (Hdr × By)) (i : Nat) : offN a (x :: L) (i + 1) = offN (a + x.2.length) L i := by unfold offN; simp; lia
theorem offN_succ {a : Int} {L : List (Hdr × By)} {i : Nat} {x : Hdr × By} (h : L[i]? = some x) : offN a L (i + 1) = offN a L i + x.2.length := by
  unfold offN
  rw [List.take_add_one, h]; simp; lia
theorem Seg.nth {B : Hdr} {W : By} {a c : Int} {m : Bool} {L : List (Hdr × By)} (h : Seg B W a c m L) : ∀ {i : Nat} {x : Hdr × By}, L[i]? = some x → PieceOf B W (offN a L i) (offN a L (i + 1)) (if i + 1 < L.length then true else m) x := by
  induction h with
  | one p =>
    intro i x hx
    match i, hx with
    | 0, hx =>
      obtain rfl := Option.some.inj hx
      rw [offN_zero, offN_succ (x := _) hx, offN_zero, p.len]
      rw [if_neg (by simp)]
      have e : ∀ a b : Int, a + (b - a) = b := by intro a b; lia
      rw [e]; exact p
    | _ + 1, hx => exact nomatch hx
  | @cons a' b' c' m' x' L' p s ih =>
    intro i x hx
    match i, hx with
    | 0, hx =>
      obtain rfl := Option.some.inj hx
      rw [offN_zero, offN_succ (x := _) hx, offN_zero, p.len]
      have hl : 0 < L'.length := by cases s <;> simp
      rw [if_pos (by rw [List.length_cons]; exact Nat.succ_lt_succ hl)]
      have e : ∀ a b : Int, a + (b - a) = b := by intro a b; lia
      rw [e]; exact p
    | i + 1, hx =>
      have := ih (i := i) (x := x) hx
      rw [offN_cons, offN_cons, p.len]
      have e : ∀ a b : Int, a + (b - a) = b := by intro a b; lia
      rw [e]
      simpa only [List.length_cons, Nat.add_lt_add_iff_right] using this
theorem Seg.flat {B : Hdr} {W : By} {a c : Int} {m : Bool} {L : List (Hdr × By)} (h : Seg B W a c m L) : a ≤ c ∧ 0 ≤ a ∧ c ≤ W.length ∧ (L.map (·.2)).flatten = (W.drop a.toNat).take (c - a).toNat := by
  induction h with
  | one p => exact ⟨p.ab, p.a0, p.bW, by simp [p.pay]⟩
  | @cons a' b' c' m' x' L' p _ ih =>
    obtain ⟨h1, h2, h3, h4⟩ := ih
    have p1 := p.ab; have p0 := p.a0
    refine ⟨Int.le_trans p1 h1, p0, h3, ?_⟩
    rw [List.map_cons, List.flatten_cons, h4, p.pay, toNat_part p1 h1, List.take_add, List.drop_drop, toNat_step p0 p1]
theorem Seg.pos {B : Hdr} {W : By} {a c : Int} {m : Bool} {L : List (Hdr × By)} (h : Seg B W a c m L) : 0 < L.length := by cases h <;> simp
/-- the offsets of the pieces -/
noncomputable def offs (L : List (Hdr × By)) : List Int := L.map fun x => x.1.off
theorem Seg.le {B : Hdr} {W : By} {a c : Int} {m : Bool} {L : List (Hdr × By)} (h : Seg B W a c m L) : ∀ x ∈ L, a ≤ x.1.off := by
  induction h with
  | one p => intro x hx; rw [List.mem_singleton.mp hx, p.hdr]; exact Int.le_refl _
  | cons p _ ih =>
    intro x hx
    have := p.ab
    rcases List.mem_cons.mp hx with rfl | hx
    · rw [p.hdr]; exact Int.le_refl _
    · have := ih x hx; lia
theorem Seg.asc {B : Hdr} {W : By} {a c : Int} {m : Bool} {L : List (Hdr × By)} (h : Seg B W a c m L) : (offs L).Pairwise (· < ·) := by
  induction h with
  | one p => simp [offs]
  | cons p s ih =>
    refine List.pairwise_cons.mpr ⟨fun k hk => ?_, ih⟩
    obtain ⟨y, hy, rfl⟩ := List.mem_map.mp hk
    have := s.le y hy
    have h2 := (p.mm rfl).2
    show (_ : Hdr × By).1.off < _
    rw [p.hdr]; dsimp only; lia
theorem asc2 : (runK (fun i j => decide (i < j)) (kas_sort 2)).toList = List.range 2 := by decide +kernel
theorem asc3 : (runK (fun i j => decide (i < j)) (kas_sort 3)).toList = List.range 3 := by decide +kernel
theorem asc4 : (runK (fun i j => decide (i < j)) (kas_sort 4)).toList = List.range 4 := by decide +kernel
theorem asc5 : (runK (fun i j => decide (i < j)) (kas_sort 5)).toList = List.range 5 := by decide +kernel
theorem sortIdx_asc {ks : List Int} (h : ks.Pairwise (· < ·)) (h5 : ks.length ≤ 5) : sortIdx ks = List.range ks.length := by
  unfold sortIdx
  split
  · rfl
  · rename_i h2
    have e : runK (fun i j => decide (ks.getD i 0 < ks.getD j 0)) (kas_sort ks.length) = runK (fun i j => decide (i < j)) (kas_sort ks.length) := by
      refine runK_congr (n := ks.length) (fun i j hij hi hj => ?_) _ (okN (by lia) h5)
      have gi : ks.getD i 0 = ks[i] := by simp [hi]
      have gj : ks.getD j 0 = ks[j] := by simp [hj]
      rw [gi, gj]
      rcases Nat.lt_or_gt_of_ne hij with h' | h'
      · rw [decide_eq_true h', decide_eq_true ((List.pairwise_iff_getElem.mp h) i j hi hj h')]
      · have := (List.pairwise_iff_getElem.mp h) j i hj hi h'
        rw [decide_eq_false (by lia), decide_eq_false (by lia)]
    rw [e]
    rcases (show ks.length = 2 ∨ ks.length = 3 ∨ ks.length = 4 ∨ ks.length = 5 by lia) with h | h | h | h <;> rw [h]
    · exact asc2
    · exact asc3
    · exact asc4
    · exact asc5
theorem Seg.count2 {B : Hdr} {W : By} {a b : Int} {m : Bool} {L : List (Hdr × By)} (h : Seg B W a b m L) (h0 : 0 < W.length) : 8 * (L.length : Int) ≤ b - a + 7 := by
  induction h with
  | one p => have := p.ne; simp; lia
  | cons p _ ih => obtain ⟨h1, h3⟩ := p.mm rfl; have h2 := p.a8; rw [List.length_cons]; lia
theorem Seg.five {B : Hdr} {W : By} {m : Bool} {L : List (Hdr × By)} (h : Seg B W 0 W.length m L) (H : W.length ≤ 40) : L.length ≤ 5 := by
  by_cases h0 : 0 < W.length
  · have := h.count2 h0; lia
  · have hW : (W.length : Int) = 0 := by lia
    rw [hW] at h
    have key : ∀ {a b : Int} {L : List (Hdr × By)}, Seg B W a b m L → L.length = 1 := by
      intro a b L h
      cases h with
      | one _ => rfl
      | cons p _ => have := (p.mm rfl).2; have := p.bW; have := p.a0; lia
    have := key h; lia

theorem range_getD (vs : List AV) : (List.range vs.length).map (fun i => vs.getD i .none) = vs := by
  apply List.ext_getElem
  · simp
  · intro i h1 h2; simp at h1; simp [h1]
/-- what the law reads of the pieces -/
noncomputable def ReadAt (n : ALed) (v : AV) (x : Hdr × By) : Prop := ∃ T, v = .ref T ∧ (T, readO (pk x)) ∈ n
@[elab_as_elim] theorem readAt {n : ALed} {vs : List AV} {P : List (Hdr × By)} {C : AV → Prop} (h : Paired (ReadAt n) vs P) {i : Nat} {a : AV} (hi : vs[i]? = some a) (k : ∀ x T, P[i]? = some x → (T, readO (pk x)) ∈ n → C (.ref T)) : C a := by
  obtain ⟨x, hx, T, rfl, hT⟩ := pairedAt h hi
  exact k x T hx hT
theorem ReadAt.mono {n n' : ALed} {v : AV} {x : Hdr × By} (h : ReadAt n v x) (k : ∀ q ∈ n, q ∈ n') : ReadAt n' v x := h.imp fun _ h => ⟨h.1, k _ h.2⟩
theorem pairedMap {α β γ : Type} {R : α → β → Prop} {F : α → γ → Prop} {g : β → γ} {l : List α} {L : List β} (h : ∀ v x, x ∈ L → R v x → F v (g x)) (p : Paired R l L) : Paired F l (L.map g) := by
  induction p with
  | nil => exact .nil
  | cons a _ ih => exact .cons (h _ _ (.head _) a) (ih fun v x hx => h v x (.tail _ hx))
theorem readO_good {BH : Hdr} {W : By} {a b : Int} {m : Bool} {x : Hdr × By} (hpc : PieceOf BH W a b m x) (H : Base BH W) : readO (pk x) = .tup [.int a, .bool m, .bytes (optsAt BH a), .bytes x.2] := by
  have G := hpc.good H
  unfold readO pk
  rw [G.readOff, G.readMore, G.readOpts, G.readPart, hpc.hdr]
theorem readKeys {n : ALed} {ys : List AV} {P : List (Hdr × By)} {BH : Hdr} {W : By} {a b : Int} {m : Bool} (hs : Seg BH W a b m P) (H : Base BH W) (hy : Paired (ReadAt n) ys P) : Paired (KeyAt n) ys (offs P) := by
  refine pairedMap (fun v x hx hv => ?_) hy
  obtain ⟨T, e, hm⟩ := hv
  obtain ⟨a, b, m, hp⟩ := hs.all x hx
  rw [readO_good hp H, show a = x.1.off by rw [hp.hdr]] at hm
  exact ⟨T, _, e, hm⟩
section
variable {w : World} {sc : Scope} {d : Nat} {m : Vars} {n : ALed}
theorem Op.neBool {a b : Bool} : Op w n (compareOp .NotEq) (.bool a) (.bool b) (.bool (a != b)) := fun c sc ok m va vb e1 e2 s Q E F q => by
  cases e1; cases e2
  exact PyProof.Rows.ne_bool (q _ m n s.heap s.toks ⟨rfl, .bool _, rfl, rfl, rfl⟩ F)
theorem bne_ff {a b : Bool} (h : a = b) : (a != b) = false := by rw [h]; simp
theorem nne_ff {α : Type} {a b : α} [Decidable (¬ a = b)] (h : a = b) : decide (¬ a = b) = false := decide_eq_false (fun k => k h)
theorem Ev.iteT {t a b pos v x} (h : Tst ⟨w, sc, d, m, n⟩ t v) (hv : v = true) (ha : Ev ⟨w, sc, d, m, n⟩ a x) : Ev ⟨w, sc, d, m, n⟩ (.IfExp t a b pos) x := EvK.ite h (fun _ => ha) fun e => by rw [hv] at e; cases e
theorem Ev.iteF {t a b pos v x} (h : Tst ⟨w, sc, d, m, n⟩ t v) (hv : v = false) (ha : Ev ⟨w, sc, d, m, n⟩ b x) : Ev ⟨w, sc, d, m, n⟩ (.IfExp t a b pos) x := EvK.ite h (fun e => by rw [hv] at e; cases e) fun _ => ha
end

section
variable {w : World} {n n0 : ALed} {LP : Addr} {P : List (Hdr × By)} {BH : Hdr} {W o : By}
inductive SideI (n0 : ALed) (P : List (Hdr × By)) (i : Nat) (as1 : List AV) : ALed → Prop
  | mk (tl : ALed) : Paired (ReadAt (tl ++ n0)) as1 (P.take i) → SideI n0 P i as1 (tl ++ n0)
inductive JoinI (N : ALed) (L : List By) (i : Nat) : List AV → ALed → Prop
  | mk : JoinI N L i ((L.take i).map AV.bytes) N
theorem JoinI.next {N : ALed} {L : List By} {i : Nat} {b : By} (h : L[i]? = some b) : JoinI N L (i + 1) ((L.take i).map AV.bytes ++ [.bytes b]) N := by
  have e : (L.take i).map AV.bytes ++ [.bytes b] = (L.take (i + 1)).map AV.bytes := by rw [List.take_add_one, h]; simp
  rw [e]; exact .mk
theorem side_fn (hT : Take (LP, .lst (pks P)) n n0) (hs : Seg BH W 0 W.length false P) (H : Base BH W) (ho : BH.opts = o) : CallK w 3 n (.ref 563) [.ref LP, .bytes W, .bytes o, .bytes (laterB o)] fun r n' => r = .bool true ∧ n' = n := by
  subst ho
  (refine' CallK.fn [(Str.ofString "kept", .bytes (laterB BH.opts)), (Str.ofString "options", .bytes BH.opts), (Str.ofString "payload", .bytes W), (Str.ofString "packets", .ref LP)] ?o ?c ?b ?s ?_; (case o => k_is); (case c => k_is); (case b => exact bind4 fun s9 _ _ _ _ X9 => by first | exact BindsTo.of_eq rfl | exact binds_K X9 rfl (by k_is) rfl rfl rfl); (case s => kernel_rfl!))
  have hW := H.len
  have hpos := hs.pos
  have h5 := hs.five H.len
  have hfl : (P.map (·.2)).flatten = W := by rw [hs.flat.2.2.2]; simp
  refine Ws.assignS ?_ (by tm_at "swp") (by tm_at "sws")
  refine EvK.tuple (EvKs.cons ?_ rfl)
  tm_at "evk"
  refine EvKs.cons ?_ rfl
  refine' EvK.call ?a ?b ?c ?d ?_
  case d => exact rfl
  case a => tm_at "ev"
  case b => tm_at "kr"
  case c => exact rfl
  refine EvKs.cons ?_ rfl
  refine EvK.comp (sc' := _) [] (EvK.ofE (by tm_at "ev") ⟨pks P, [(LP, .lst (pks P))], [], n0, SideI n0 P, SrcAt.lst hT (.inl rfl), fun _ _ _ _ _ _ _ h => (nomatch h), by rw [pks_len]; omega, .mk [] .nil, ?_, ?_⟩) (Cap.none (by rfl) fun _ => rfl) (List.forall_mem_nil _) (fun _ _ => rfl)
  · refine fun i v as1 n1 hv h9 => SideI.casesOn h9 fun tl hpd => ?_
    refine pks_at hv fun x hx => ?_
    have G := (hs.nth hx).good H
    have hl := G.length; have hz := G.len; have hq := G.fits.q0
    refine ⟨_, TgtK.name (by kernel_rfl!), true, Tests.nil, fun _ => ?_, fun e => by cases e⟩
    tm_at "evc"
    refine CallK.le (read_fn (o := pk x) (by show (packB x.1 x.2).length ≤ _; omega) (by show _ ≤ (packB x.1 x.2).length; omega) fun T => .mk ((T, readO (pk x)) :: tl) ?_) (Eq.refl true)
    rw [List.take_add_one, hx]
    exact Paired.snoc (pairedImp (fun v q hq => hq.mono fun r hr => .tail _ hr) hpd) ⟨T, rfl, .head _⟩
  · refine fun D as1 n1 h9 => SideI.casesOn h9 fun tl hpd => ?_
    rw [pks_len, List.take_length] at hpd
    refine ⟨_, fun _ _ _ F => F.back (hT.app tl), EvKs.nil ?_⟩
    have hy : Paired (ReadAt (tl ++ n)) as1 P := pairedImp (fun v q hq => hq.mono fun r hr => by rcases List.mem_append.mp hr with h | h; exact List.mem_append_left _ h; exact List.mem_append_right _ (hT.sub _ h)) hpd
    have hyl := pairedLen hy
    have hk := readKeys hs H hy
    refine CallK.sorted (ks := offs P) (.head _) (pairedImp (fun _ _ h => h.imp fun _ h => h.imp fun _ h => ⟨h.1, .tail _ h.2⟩) hk) (hs.asc.imp fun h => Int.ne_of_lt h) (by omega) (by omega)
      (by rw [sortIdx_asc hs.asc (by unfold offs; rw [List.length_map]; omega), show (offs P).length = as1.length by unfold offs; rw [List.length_map, hyl], range_getD]) fun D2 => ?_
    refine EvKs.nil ⟨rfl, fun T0 => ?_⟩
    tm_at "ags"
    refine Ws.weak (n' := (D2, .lst as1) :: (tl ++ n)) (fun _ h => h) (by tm_at "sl") ?_
    have hz : as1.length ≤ 1000 := by omega
    refine' Ws.forR (k := as1.length) (fun i => Is [(Str.ofString "at", .int (offN 0 P i)), (Str.ofString "rows", .ref D2), (Str.ofString "kept", .bytes (laterB BH.opts)), (Str.ofString "options", .bytes BH.opts), (Str.ofString "payload", .bytes W)] ((D2, .lst as1) :: (tl ++ n))) ?f1 ?s1 ?r1 ?st1 ?ab1 (size_one ?sz1) ?k1 rfl rfl ⟨_, _, .of (by rw [offN_zero]), ?h1, List.Sublist.refl _⟩ ?turn ?done
    case f1 => tm_at "ev"
    case s1 => tm_at "evs"
    case r1 => constructor
    case st1 => decide
    case ab1 => omega
    case sz1 => omega
    case k1 => omega
    case h1 => tm_at "sub"
    case turn =>
      refine fun i m1 n1 ow hi h9 => Is.casesOn h9 ?_
      refine eq_to (C := fun v => AsgK _ _ (.int v) _) (show 0 + (i : Int) * 1 = (i : Int) by omega) ?_
      refine (pairedAt hy (List.getElem?_eq_getElem hi)).elim fun x hx => hx.2.elim fun T hT2 => ?_
      have hv := hT2.1
      replace hT2 := hT2.2
      replace hx := hx.1
      have hpc := hs.nth hx
      have hzl := (hpc.good H).len
      rw [readO_good hpc H, show (if i + 1 < P.length then true else false) = decide (i + 1 < P.length) by by_cases h : i + 1 < P.length <;> simp [h]] at hT2
      have hon := offN_succ (a := 0) hx
      have hgi : getI as1 (i : Int) = some (.ref T) := by show as1[i]? = _; rw [List.getElem?_eq_getElem hi, hv]
      have hT3 := List.mem_append_left ow (List.Mem.tail (D2, AO.lst as1) hT2)
      have hmo : decide (i + 1 < P.length) = decide ((i : Int) < (as1.length : Int) - 1) := by rw [Bool.eq_iff_iff]; simp only [decide_eq_true_eq]; omega
      tm_at "asg"
      by_cases h0 : offN 0 P i = 0
      · have eo : optsAt BH (offN 0 P i) = BH.opts := if_pos h0
        rw [eo] at hT3
        repeat tm_at "ws"
        exact ⟨_, _, .mk, by rw [hon]; tm_at "sub", List.Sublist.refl _⟩
      · have eo : optsAt BH (offN 0 P i) = laterB BH.opts := if_neg h0
        rw [eo] at hT3
        repeat tm_at "ws"
        exact ⟨_, _, .mk, by rw [hon]; tm_at "sub", List.Sublist.refl _⟩
    case done =>
      refine fun m1 n1 h9 => Is.casesOn h9 ?_
      refine Ws.retP (EvK.drop (x := ()) (EvK.cmp ?_ rfl) rfl)
      refine' EvK.joinB ?ja ?jb ?jc ?_
      case jb => exact rfl
      case jc => exact rfl
      case ja => tm_at "ev"
      refine EvKs.cons ?_ rfl
      refine EvK.comp (sc' := _) [] (EvK.ofE (by tm_at "ev") ⟨as1, [(D2, .lst as1)], [], tl ++ n, JoinI (tl ++ n) (P.map (·.2)), SrcAt.lst .head (.inl rfl), fun _ _ _ _ _ _ _ h => (nomatch h), by omega, .mk, ?_, ?_⟩) (Cap.none (by rfl) fun _ => rfl) (List.forall_mem_nil _) (fun _ _ => rfl)
      · refine fun i v zs n1 hv h9 => JoinI.casesOn h9 ?_
        refine readAt hy hv fun x T hx hT2 => ?_
        rw [readO_good (hs.nth hx) H] at hT2
        refine ⟨_, TgtK.name (by kernel_rfl!), true, Tests.nil, fun _ => ?_, fun e => by cases e⟩
        tm_at "evk"
        exact .next (by rw [List.getElem?_map, hx]; rfl)
      · refine fun D3 zs n1 h9 => JoinI.casesOn h9 ?_
        refine ⟨_, fun _ _ _ F => F, EvKs.nil ?_⟩
        have hfl2 : ((P.map (·.2)).take as1.length).flatten = W := by rw [hyl, ← List.length_map (·.2), List.take_length]; exact hfl
        refine CallK.to (CallK.joinB (.head _) (by rw [hfl2]; omega)) ?_
        rw [hfl2]
        tm_at "evk"
        refine Op2.of (by tm_at "op") ⟨n, ⟨by rw [decide_eq_true rfl], rfl⟩, ?_⟩
        tm_at "sl"
end

/-- the parts in the order of their offsets -/
noncomputable def laidBy (idx : List Nat) (parts : List (Int × By)) : List By := idx.map fun i => (parts.getD i (0, [])).2
structure IsIdx (parts : List (Int × By)) (idx : List Nat) : Prop where
  eq : sortIdx (parts.map (·.1)) = idx
  lt : ∀ i ∈ idx, i < parts.length
  len : idx.length ≤ 5
  nd : (parts.map (·.1)).Nodup
theorem pairedPick {α β : Type} {R : α → β → Prop} {l : List α} {L : List β} (h : Paired R l L) (a0 : α) (b0 : β) {idx : List Nat} (hi : ∀ i ∈ idx, i < L.length) : Paired R (idx.map fun i => l.getD i a0) (idx.map fun i => L.getD i b0) := by
  induction idx with
  | nil => exact .nil
  | cons i r ih =>
    refine .cons ?_ (ih fun j hj => hi j (.tail _ hj))
    obtain ⟨b, hb, hR⟩ := pairedAt h (List.getElem?_eq_getElem (by rw [pairedLen h]; exact hi i (.head _)))
    show R (l.getD i a0) (L.getD i b0)
    rw [List.getD_eq_getElem?_getD, List.getD_eq_getElem?_getD, hb, List.getElem?_eq_getElem (by rw [pairedLen h]; exact hi i (.head _))]
    exact hR
theorem optKeys {n : ALed} {ps : List AV} {parts : List (Int × By)} (h : Paired (OptAt n) ps parts) : Paired (KeyAt n) ps (parts.map (·.1)) :=
  pairedMap (fun v x _ hv => by
    obtain ⟨T, e, hm⟩ := hv
    exact ⟨T, _, e, hm⟩) h
section
variable {w : World} {n : ALed} {X HX LP : Addr} {began most : Int} {d : DgS} {ps : List AV} {idx : List Nat}
theorem octets_fn (hX : (X, dgO began most HX LP d) ∈ n) (hl : (LP, .lst ps) ∈ n) (hp : Paired (OptAt n) ps d.parts) (h1 : 1 ≤ d.parts.length) (h5 : d.parts.length ≤ 5) (hI : IsIdx d.parts idx) (hz : (laidBy idx d.parts).flatten.length ≤ 1000) :
    CallK w 1 n (.ref 407) [.ref X] fun r n' => r = .bytes (laidBy idx d.parts).flatten ∧ n' = n := by
  (refine' CallK.fn [(Str.ofString "self", .ref X)] ?o ?c ?b ?s ?_; (case o => k_is); (case c => k_is); (case b => exact bind1 fun s9 _ X9 => by first | exact BindsTo.of_eq rfl | exact binds_K X9 rfl (by k_is) rfl rfl rfl); (case s => kernel_rfl!))
  have hpl := pairedLen hp
  refine Ws.retP (EvK.drop (x := ()) ?_ rfl)
  refine' EvK.joinB ?ja ?jb ?jc ?_
  case jb => exact rfl
  case jc => exact rfl
  case ja => tm_at "ev"
  refine EvKs.cons ?_ rfl
  refine EvK.comp (sc' := _) [] ?_ (Cap.none (by rfl) fun _ => rfl) (List.forall_mem_nil _) (fun _ _ => rfl)
  tm_at "evc"
  refine CallK.sorted hl (optKeys hp) hI.nd (by omega) (by omega) (by rw [hI.eq]) fun D2 => ?_
  have hp2 := pairedPick hp .none (0, []) hI.lt
  have hil := hI.len
  refine ⟨idx.map fun i => ps.getD i .none, [(D2, .lst _)], [], n, JoinI n (laidBy idx d.parts), SrcAt.lst .head (.inr ⟨⟨_, _, _, rfl⟩, ?_⟩), fun _ _ _ _ _ _ _ h => (nomatch h), by rw [List.length_map]; omega, .mk, ?_, ?_⟩
  · intro a ha
    obtain ⟨i, hi⟩ := List.mem_iff_getElem?.mp ha
    obtain ⟨r, _, T, e, _⟩ := pairedAt hp2 hi
    exact ⟨T, e⟩
  · refine fun i v zs n1 hv h9 => JoinI.casesOn h9 ?_
    refine optAt hp2 hv fun kk dd T hr hT => ?_
    have hl2 : (laidBy idx d.parts)[i]? = some dd := by
      unfold laidBy
      rw [List.getElem?_map] at hr ⊢
      cases h : idx[i]? with
      | none => rw [h] at hr; cases hr
      | some j => rw [h] at hr; have hq : d.parts.getD j (0, []) = (kk, dd) := Option.some.inj hr; rw [Option.map_some, hq]
    refine ⟨_, TgtK.pair hT (by kernel_rfl!) (by kernel_rfl!) (by rfl), true, Tests.nil, fun _ => ?_, fun e => by cases e⟩
    tm_at "evk"
    exact .next hl2
  · refine fun D3 zs n1 h9 => JoinI.casesOn h9 ?_
    have e : (laidBy idx d.parts).take (idx.map fun i => ps.getD i AV.none).length = laidBy idx d.parts := by
      rw [show (idx.map fun i => ps.getD i AV.none).length = (laidBy idx d.parts).length by unfold laidBy; rw [List.length_map, List.length_map], List.take_length]
    refine ⟨_, fun _ _ _ F => F, EvKs.nil ?_⟩
    refine CallK.to (CallK.joinB (.head _) (by rw [e]; omega)) ?_
    exact ⟨n, ⟨by rw [e], rfl⟩, (List.sublist_cons_self _ _).trans (List.sublist_cons_self _ _)⟩
end

section
open PySem.Spec PySem.Calls
variable {prog : Program} {w : World} {A : Around} {E : Value → Shared → Prop} {s : Shared} {h₀ : Heap} {L d a : Addr} {m : Str → Option Value} {news : Led} {g : Obj → Led} {o ok : Obj} {ks : List Int} {xs : List (List Int × Addr × Value)}
/-- a dict whose keys are tuples of ints -/
noncomputable def WD (prog : Program) (w : World) (o : Obj) (xs : List (List Int × Addr × Value)) : Prop := o.ExactDict ∧ ∃ es ep, o.data = .dict es ep ∧ es.toList = xs.map (entryOfKey (tupleKind (intKind prog w)))
noncomputable def KeyIn (prog : Program) (w : World) (news : Led) (x : List Int × Addr × Value) : Prop := ∃ ok, (x.2.1, ok) ∈ news ∧ TupKeyObj (intKind prog w) x.1 ok
theorem WD.empty {K : Type} [DecidableEq K] {knd' : KeyKind prog w K} (h : o.IsDictOf knd' []) : WD prog w o [] := by
  obtain ⟨es, ep, hc, hdat, _, hp, _⟩ := h
  exact ⟨hc, es, ep, hdat, List.length_eq_zero_iff.mp hp.length⟩
theorem WD.heap (N : News h₀ L s.heap news) (hm : (d, o) ∈ news) (W : WD prog w o xs) (hk : ∀ x ∈ xs, KeyIn prog w news x) (hn : (xs.map (·.1)).Nodup) : s.heap.DictOfH (tupleKind (intKind prog w)) d xs := by
  obtain ⟨hc, es, ep, hd, he⟩ := W
  exact ⟨o, es, ep, N.get hm, hc, hd, he, fun x hx => by obtain ⟨ok, h1, h2⟩ := hk x hx; exact h2.key (N.get h1), hn⟩
theorem WD.notin {b : Bool} {Q : Value → Shared → Prop} (N : News h₀ L s.heap news) (hm : (d, o) ∈ news) (W : WD prog w o xs) (hk : ∀ x ∈ xs, KeyIn prog w news x) (hn : (xs.map (·.1)).Nodup) (lo : (d == sysModules) = false) (ha : (a, ok) ∈ news) (hka : TupKeyObj (intKind prog w) ks ok) (hu : A.units + 1 < cLine)
    (hb : (atKey xs ks).isSome = !b) (h : ∀ k, Q (.bool b) { s with toks := k }) : wpAny (model prog w) A (compareOp .NotIn (.ref a) (.ref d)) Q E s :=
  wpAny_notIn_heap (knd := tupleKind (intKind prog w)) (tupleKind_room_in1 hu) (hka.key (N.get ha)) lo (W.heap N hm hk hn) (by rw [hb, Bool.not_not]; exact h _)
theorem WD.get {v : Value} {K : Addr} {value slice : PySem.Expr} {Q : Value → Shared → Prop} (N : News h₀ L s.heap news) (hm : (d, o) ∈ news) (W : WD prog w o [(ks, K, v)]) (hk : ∀ x ∈ [(ks, K, v)], KeyIn prog w news x) (ha : (a, ok) ∈ news) (hka : TupKeyObj (intKind prog w) ks ok) (hu : A.units + 1 < cLine)
    (h : ∀ k, Q v { s with toks := k }) (hs : subscripted slice false (.ref d) (.ref a) = operate [.ref d, .ref a] (getItem (.ref d) (.ref a)) := by with_unfolding_all rfl) (hg : ∀ r, letTemporaryGo value (.ref d) r = pure () := by intro _; with_unfolding_all rfl) :
    wpAny (model prog w) A (subscriptTail value slice (.ref d) (.ref a)) Q E s := by
  have hD := W.heap N hm hk (by simp)
  exact subscriptTail_builtin hD.typeIs slot_dict_getitem.lookup (wpAny_getItem_heap (knd := tupleKind (intKind prog w)) (p := (K, v)) (tupleKind_room_in1 hu) (hka.key (N.get ha)) hD (by simp [atKey]) (h _)) hs hg
theorem WD.set {X1 X2 : Led} {v : Value} {Q : Unit → Shared → Prop} (F : Fr h₀ L s.heap m) (N : News h₀ L s.heap (X1 ++ (d, o) :: X2)) (D : ((X1 ++ (d, o) :: X2).map (·.1)).Nodup) (W : WD prog w o []) (ha : (a, ok) ∈ X1 ++ (d, o) :: X2) (hka : TupKeyObj (intKind prog w) ks ok) (hu : A.units + 1 < cLine)
    (h : ∀ h' o' k, Fr h₀ L h' m → News h₀ L h' (X1 ++ (d, o') :: X2) → ((X1 ++ (d, o') :: X2).map (·.1)).Nodup → WD prog w o' [(ks, a, v)] → Q () { s with heap := h', toks := k }) : wpAny (model prog w) A (setItem (.ref d) (.ref a) v) Q E s := by
  have hD := W.heap N (List.mem_append_right _ (.head _)) (fun _ h => nomatch h) (by simp)
  refine wpAny_setItem_heap (knd := tupleKind (intKind prog w)) (tupleKind_room_in1 hu) (hka.key (N.get ha)) hD (fun h' hm' hs => ?_) (by simp)
  obtain ⟨o', es, ep, ho', hc', hd', he', _, _⟩ := hm'
  obtain ⟨F2, N2, D2⟩ := chg F N D (fun b x hb e => hs.extBut b x hb e) ho'
  exact h h' o' _ F2 N2 D2 ⟨hc', es, ep, hd', by rw [he']; simp [storedH, atKey]⟩
theorem popMeets {v : Value} {K d a : Addr} {ks : List Int} :
    MeetsIn prog w (Builtin.«dict.pop» ⟨[.ref d, .ref a], []⟩) (fun A R s => A.in1.units < cLine ∧ s.heap.DictOfH (tupleKind (intKind prog w)) d [(ks, K, v)] ∧ IsTupleKey (intKind prog w) s.heap ks a ∧
      ∀ h' o' k, h'.get? d = some o' → WD prog w o' [] → Heap.SameBut d s.heap h' → R (.ok (.ret v)) { s with heap := h', toks := k }) :=
  .of_wp fun A R s ⟨hu, hD, hka, h⟩ => by
    have hT := hD.typeIs
    obtain ⟨o, es, ep, ho, hc, hd, he, his, hn⟩ := hD
    have hes : es = #[entryOfKey (tupleKind (intKind prog w)) (ks, K, v)] := by
      apply Array.toList_inj.mp; rw [he]; rfl
    unfold Builtin.«dict.pop»
    refine wpAny_bind ?_
    unfold Builtin.Dict.keyAndDefault
    refine wpAny_bind (wpAny_notOrdered_dict hT ?_)
    show wpAny _ _ (pure (d, Value.ref a, none)) _ _ s
    refine wpAny_pure ?_
    dsimp only
    rw [show (keyPart (Value.ref a)).isSome = false from rfl]
    simp only [Bool.false_eq_true, if_false]
    refine wpAny_bind (wpAny_dictEntries ho hd ?_)
    refine wpAny_bind (wpAny_pure ?_)
    rw [show es.isEmpty = false by rw [hes]; rfl]
    simp only [Bool.false_eq_true, if_false]
    refine wpAny_bind ?_
    unfold Builtin.Dict.takeOut
    try with_reducible refine wpAny_holding ?_
    refine wpAny_bind ((tupleKind (intKind prog w)).pyHash hu hka (wpAny_bind (wpAny_dictFind_heap (knd := tupleKind (intKind prog w)) (s := { s with toks := s.toks + (tupleKind (intKind prog w)).draws ks }) hu hka ho hd he his hn ?_ ?_)))
    · intro hno
      exact absurd rfl (hno 0 (K, v))
    · intro j p hj
      obtain rfl : j = 0 := by
        match j, hj with
        | 0, _ => rfl
        | _ + 1, hj => exact nomatch hj
      refine wpAny_bind (wpAny_dictEntries (s := { s with toks := s.toks + (tupleKind (intKind prog w)).draws ks }) ho hd ?_)
      rw [show es[0]? = some (entryOfKey (tupleKind (intKind prog w)) (ks, K, v)) by rw [hes]; rfl]
      refine wpAny_bind (wpAny_updateDictKeys (s := { s with toks := s.toks + (tupleKind (intKind prog w)).draws ks }) ho hd (wpAny_pure ?_) (by rw [hes, sizeLine_eq]; simp) (by rw [hes]; simp))
      simp only [Option.isNone_some, Bool.false_eq_true, if_false]
      refine wpAny_bind (wpAny_letGo (wpAny_pure ⟨v, rfl, h _ _ _ (Heap.get?_update_self _ ho (Obj.isFreed_of_dict (Obj.data_mapDictKeys hd _))) ⟨hc.mapDictKeys _, _, ep + 1, Obj.data_mapDictKeys hd _, by rw [hes]; simp⟩ (Heap.SameBut.update ..)⟩))
theorem WD.pop {X1 X2 : Led} {v : Value} {K : Addr} {Q : Value → Shared → Prop} (F : Fr h₀ L s.heap m) (N : News h₀ L s.heap (X1 ++ (d, o) :: X2)) (D : ((X1 ++ (d, o) :: X2).map (·.1)).Nodup) (W : WD prog w o [(ks, K, v)]) (hk : ∀ x ∈ [(ks, K, v)], KeyIn prog w (X1 ++ (d, o) :: X2) x) (ha : (a, ok) ∈ X1 ++ (d, o) :: X2) (hka : TupKeyObj (intKind prog w) ks ok) (hu : A.units + 1 < cLine)
    (h : ∀ h' o' k, Fr h₀ L h' m → News h₀ L h' (X1 ++ (d, o') :: X2) → ((X1 ++ (d, o') :: X2).map (·.1)).Nodup → WD prog w o' [] → Q v { s with heap := h', toks := k }) : wpAny (model prog w) A (call (.builtin "dict.pop") [.ref d, .ref a]) Q E s := by
  have hD := W.heap N (List.mem_append_right _ (.head _)) hk (by simp)
  refine call_meetsIn PySem.F.slot_dict_pop hD.typeIs PySem.F.entry_dict_pop (PySem.F.args_dict_pop_2 _ _) popMeets ⟨tupleKind_room_in1 (knd := intKind prog w) hu, hD, hka.key (N.get ha), fun h' o' k ho' hw hs => ?_⟩
  obtain ⟨F2, N2, D2⟩ := chg F N D (fun b x hb e => hs.extBut b x hb e) ho'
  exact h h' o' k F2 N2 D2 hw
end
section
open PySem.Spec PySem.Calls
variable {prog : Program} {w : World} {A : Around} {E : Value → Shared → Prop} {s : Shared}
/-- h holds at d a dict with these entries -/
noncomputable def EsAt (h : Heap) (d : Addr) (es : Array DictEntry) (ep : Nat) : Prop := ∃ o, h.get? d = some o ∧ o.ExactDict ∧ o.data = .dict es ep
theorem EsAt.typeIs {d : Addr} {es : Array DictEntry} {ep : Nat} (h : EsAt s.heap d es ep) : s.TypeIs (.ref d) "dict" := by
  obtain ⟨o, ho, hc, _⟩ := h
  exact ⟨o, ho, hc.1⟩
theorem iterEs {d : Addr} {es : Array DictEntry} {ep : Nat} {Q : Value → Shared → Prop} (lo : (d == sysModules) = false) (hm : EsAt s.heap d es ep)
    (hQ : Q (.ref s.heap.objs.size) { s with heap := s.heap.push { cls := .type "dict_keyiterator", data := .fields #[.ref d, .int 0 0, .int es.size 0, .int ep 0] } }) : wpAny (model prog w) A (pyIter (.ref d)) Q E s := by
  have hT := hm.typeIs
  obtain ⟨o, ho, hc, hdat⟩ := hm
  refine wpAny_pyIter_slot hT F.slot_dict_iter (wpAny_call_entry F.slot_dict_iter hT F.entry_dict_iter ?_ (F.args_dict_iter_1 _))
  unfold Builtin.«dict.__iter__» Builtin.Dict.dictSlotNone
  refine wpAny_bind (wpAny_bind (wpAny_notOrdered_dict hT ?_))
  show wpAny _ _ (pure (Value.ref d)) _ _ s
  refine wpAny_pure ?_
  show wpAny _ _ (Builtin.Dict.showsAll d >>= _) _ _ s
  unfold Builtin.Dict.showsAll
  rw [if_neg (by rw [lo]; exact Bool.false_ne_true)]
  refine wpAny_bind (wpAny_pure (wpAny_bind (wpAny_dictEntries ho hdat (wpAny_bind (wpAny_dictEpoch ho hdat ?_)))))
  exact wpAny_bind (wpAny_newObj_type (wpAny_pure ⟨_, rfl, "dict_keyiterator", _, ⟨_, Heap.get?_push_size _ rfl, rfl⟩, F.slot_dict_keyiterator_next.lookup, hQ⟩))
theorem nextEs {I d : Addr} {i ep : Nat} {es : Array DictEntry} {e : DictEntry} {Q : Option Value → Shared → Prop} (hit : s.heap.IsKeyIter I d i es.size ep) (hm : EsAt s.heap d es ep) (he : es[i]? = some e)
    (hQ : ∀ h', h'.IsKeyIter I d (i + 1) es.size ep → Heap.SameBut I s.heap h' → Q (some e.key) { s with heap := h' }) : wpAny (model prog w) A (pyNext (.ref I)) Q E s := by
  obtain ⟨o, ho, hc, hd⟩ := id hit
  obtain ⟨od, hod, -, hdd⟩ := hm
  unfold pyNext
  refine wpAny_bind (wpAny_attempt (wpAny_callSpecial?_slot (name := Str.ofString "__next__") hit.typeIs F.slot_dict_keyiterator_next
    (wpAny_call_entry F.slot_dict_keyiterator_next hit.typeIs F.entry_dict_keyiterator_next ?_ (F.args_dict_keyiterator_next_1 _))))
  refine wpAny_bind (wpAny_pure (wpAny_bind (wpAny_bind ?_)))
  first | refine wpAny_bind (wpAny_typeNameOfWhole_keyiter hit.typeIs (wpAny_pure ?_)) | refine wpAny_bind (wpAny_typeNameOf_keyiter hit.typeIs (wpAny_pure ?_))
  refine wpAny_bind (wpAny_fieldsOf ho hd ?_)
  simp only [show Builtin.Dict_items.ownsTuple "dict_keyiterator" = false by decide, Bool.false_eq_true, if_false]
  show wpAny _ _ (if (Value.ref d == Value.none) = true then _ else _) _ _ s
  rw [if_neg (show ¬ ((Value.ref d == Value.none) = true) from Bool.false_ne_true)]
  refine wpAny_bind (wpAny_pure (wpAny_bind (wpAny_dictEntries hod hdd ?_)))
  rw [if_neg (by simp)]
  refine wpAny_bind (wpAny_pure (wpAny_bind (wpAny_dictEpoch hod hdd ?_)))
  rw [if_neg (by simp)]
  refine wpAny_pure ?_
  simp only [show ¬ ((i : Int) < 0) from by omega, if_false, Int.toNat_natCast, he]
  refine wpAny_bind ?_
  first | refine wpAny_bind (wpAny_typeNameOfWhole_keyiter hit.typeIs (wpAny_pure ?_)) | refine wpAny_bind (wpAny_typeNameOf_keyiter hit.typeIs (wpAny_pure ?_))
  refine wpAny_bind (wpAny_isOneOf_keyiter hit.typeIs ?_)
  show wpAny _ _ (setField (.ref I) 1 (rawInt ((i : Int) + 1)) >>= _) _ _ s
  refine wpAny_bind (wpAny_setField ho hd (by simp) ?_)
  have hit' : (s.heap.update I (Obj.mapFields (·.setIfInBounds 1 (rawInt ((i : Int) + 1))))).IsKeyIter I d (i + 1) es.size ep :=
    ⟨_, Heap.get?_update_self _ ho (Obj.isFreed_of_fields (Obj.data_mapFields hd _)), (Obj.cls_mapFields ..).trans hc, by rw [Obj.data_mapFields hd]; simp [rawInt]⟩
  refine wpAny_bind (wpAny_holding ?_)
  refine wpAny_bind (wpAny_isOneOf_keyiter (s := { s with heap := s.heap.update I (Obj.mapFields (·.setIfInBounds 1 (rawInt ((i : Int) + 1)))) }) hit'.typeIs ?_)
  exact wpAny_pure (wpAny_pure ⟨_, rfl, wpAny_pure (hQ _ hit' (Heap.SameBut.update ..))⟩)
theorem endEs {I d : Addr} {ep : Nat} {es : Array DictEntry} {Q : Option Value → Shared → Prop} (hh : A.handled = none) (hit : s.heap.IsKeyIter I d es.size es.size ep) (hm : EsAt s.heap d es ep)
    (hQ : ∀ h', Heap.ExtBut I s.heap h' → Q none { s with heap := h' }) : wpAny (model prog w) A (pyNext (.ref I)) Q E s := by
  obtain ⟨o, ho, hc, hd⟩ := id hit
  obtain ⟨od, hod, -, hdd⟩ := hm
  unfold pyNext
  refine wpAny_bind (wpAny_attempt (wpAny_callSpecial?_slot (name := Str.ofString "__next__") hit.typeIs F.slot_dict_keyiterator_next
    (wpAny_call_entry F.slot_dict_keyiterator_next hit.typeIs F.entry_dict_keyiterator_next ?_ (F.args_dict_keyiterator_next_1 _))))
  refine wpAny_bind (wpAny_pure (wpAny_bind (wpAny_bind ?_)))
  first | refine wpAny_bind (wpAny_typeNameOfWhole_keyiter hit.typeIs (wpAny_pure ?_)) | refine wpAny_bind (wpAny_typeNameOf_keyiter hit.typeIs (wpAny_pure ?_))
  refine wpAny_bind (wpAny_fieldsOf ho hd ?_)
  simp only [show Builtin.Dict_items.ownsTuple "dict_keyiterator" = false by decide, Bool.false_eq_true, if_false]
  show wpAny _ _ (if (Value.ref d == Value.none) = true then _ else _) _ _ s
  rw [if_neg (show ¬ ((Value.ref d == Value.none) = true) from Bool.false_ne_true)]
  refine wpAny_bind (wpAny_pure (wpAny_bind (wpAny_dictEntries hod hdd ?_)))
  rw [if_neg (by simp)]
  refine wpAny_bind (wpAny_pure (wpAny_bind (wpAny_dictEpoch hod hdd ?_)))
  rw [if_neg (by simp)]
  refine wpAny_pure ?_
  simp only [show ¬ ((es.size : Int) < 0) from by omega, if_false, Int.toNat_natCast, Array.getElem?_eq_none (Nat.le_refl es.size)]
  refine wpAny_bind ?_
  first | refine wpAny_bind (wpAny_typeNameOfWhole_keyiter hit.typeIs (wpAny_pure ?_)) | refine wpAny_bind (wpAny_typeNameOf_keyiter hit.typeIs (wpAny_pure ?_))
  show wpAny _ _ (setField (.ref I) 0 .none >>= _) _ _ s
  refine wpAny_bind (wpAny_setField ho hd (by simp) ?_)
  show wpAny _ _ (newExc (.type "StopIteration") [] >>= _) _ _ _
  refine wpAny_bind ?_
  simp only [newExc, newTuple]
  refine wpAny_bind (wpAny_newObj_type ?_ (by size_fits))
  refine wpAny_bind (m := firstArgMember _ _) (wpAny_of_eq (a := Value.none) (by first | rfl | (simp only [firstArgMember]; rfl)) ?_)
  refine wpAny_newObj_type ?_ (by size_fits)
  simp only [raiseNew]
  refine wpAny_bind (wpAny_handled ?_)
  rw [show A.in1.handled = none from hh]
  refine wpAny_bind (wpAny_pure (wpAny_throw ?_))
  refine wpAny_bind (wpAny_isInstance (T := "StopIteration") (b := true) ⟨_, Heap.get?_push_size _ rfl, rfl⟩ isSubtype_stop ?_)
  exact wpAny_pure (hQ _ (((Heap.SameBut.update ..).extBut.push _).push _))
theorem EsAt.at' {h h' : Heap} {d : Addr} {es : Array DictEntry} {ep : Nat} (x : EsAt h d es ep) (e : ∀ o, h.get? d = some o → h'.get? d = some o) : EsAt h' d es ep := let ⟨o, ho, r⟩ := x; ⟨o, e _ ho, r⟩
theorem walksEs (hh : A.handled = none) (I d : Addr) (hne : d ≠ I) (es : Array DictEntry) (ep : Nat) :
    Walks prog w A I [I, d] [I] es.size (fun i v => ∃ e, es[i]? = some e ∧ v = e.key) (fun i h => h.IsKeyIter I d i es.size ep ∧ EsAt h d es ep) where
  sub := fun b hb => by simp at hb; simp [hb]
  frame := fun _ _ _ st hk => ⟨st.1.at fun o e => hk I (by simp) o e, st.2.at' fun o e => hk d (by simp) o e⟩
  item := fun i s Q E hi st hQ => nextEs st.1 st.2 (Array.getElem?_eq_getElem hi) fun h' hit' hs' =>
    hQ _ h' s.toks ⟨_, Array.getElem?_eq_getElem hi, rfl⟩ ⟨hit', st.2.at' fun o e => hs'.extBut d o hne e⟩ fun b o hb e => hs'.extBut b o (fun h => hb (by simp [h])) e
  done := fun s Q E st hQ => endEs hh st.1 st.2 fun h' he' => hQ h' s.toks fun b o hb e => he' b o (fun h => hb (by simp [h])) e
  self := fun _ _ _ _ st hQ => wpAny_pyIter_keyiter st.1 hQ
end
/-! the same in the small logic: a dict is a raw object -/
section
variable {w : World} {sc : Scope} {d : Nat} {m : Vars} {n : ALed} {R : Flow → Vars → ALed → Prop} {rest : List Stmt} {bs : List (List Stmt)} {P : AV → ALed → Prop} {ks : List Int}
theorem keyA {us : List Value} (h : Has (ks.map AV.int) us) : TupKeyObj (intKind PR w) ks (tupObj us) := by
  have key : ItemsAre (intKind PR w) ks us := by
    induction ks generalizing us with
    | nil => cases h; exact .nil
    | cons k r ih =>
      cases h with | cons h1 h2 => ?_
      obtain ⟨t, rfl⟩ := h1
      exact .cons (intKind_is _ _ _ _) (ih h2)
  exact TupKeyObj.made key
theorem keyLed {l : Led} {T : Addr} (R : Real w.params n l) (h : (T, .tup (ks.map AV.int)) ∈ n) : ∃ ok, (T, ok) ∈ l ∧ TupKeyObj (intKind PR w) ks ok := by
  obtain ⟨us, hu, hm⟩ := R.tupAt h
  exact ⟨_, hm, keyA hu⟩
theorem rawLed {l : Led} {T : Addr} {o : Obj} (R : Real w.params n l) (h : (T, .raw o) ∈ n) : (T, o) ∈ l := by
  obtain ⟨l1, own, l2, rfl, h1⟩ := R.at h
  obtain rfl := h1.one
  exact List.mem_append_right _ (List.mem_append_left _ (.head _))
theorem EvK.dict0 {pos} (h : ∀ D o, WD PR w o [] → (D == sysModules) = false → P (.ref D) ((D, .raw o) :: n)) : EvK ⟨w, sc, d, m, n⟩ (.Dict [] [] pos) P := fun c ok s Q E F q => by
  obtain ⟨mv, l, F', V, N, Rl, D⟩ := F
  refine newDict_K F' N (topRead_of ok.top).nolimit fun a h' o F2 N2 lt lo hs _ _ _ => ?_
  refine q (.ref a) m _ h' s.toks ⟨rfl, .ref a, rfl, h a o (WD.empty hs) lo⟩ ⟨mv, (a, o) :: l, F2, V, N2, .raw Rl, ?_⟩
  rw [List.cons_append, List.map_cons, List.nodup_cons]
  refine ⟨fun hm => ?_, D⟩
  obtain ⟨p, hp, e⟩ := List.mem_map.mp hm
  exact absurd (lt p hp) (by rw [e]; exact Nat.lt_irrefl _)
theorem Cx.Ok.un2 {c : Cx} {w sc d} (ok : c.Ok w sc d) : c.A.units + 1 < cLine := by
  have := ok.un
  show c.un + 1 < cLine
  omega
theorem Op.notIn {DW T : Addr} {o : Obj} {xs : List (List Int × Addr × Value)} {b : Bool} (hD : (DW, .raw o) ∈ n) (W : WD PR w o xs) (hx : ∀ x ∈ xs, (x.2.1, .tup (x.1.map AV.int)) ∈ n) (hnd : (xs.map (·.1)).Nodup) (lo : (DW == sysModules) = false) (hT : (T, .tup (ks.map AV.int)) ∈ n) (hb : (atKey xs ks).isSome = !b) :
    Op w n (compareOp .NotIn) (.ref T) (.ref DW) (.bool b) := fun c sc ok m va vb e1 e2 s Q E F q => by
  cases e1; cases e2
  obtain ⟨mv, l, F', V, N, Rl, D⟩ := id F
  obtain ⟨okT, hm, hk⟩ := keyLed Rl hT
  exact W.notin N (List.mem_append_left _ (rawLed Rl hD)) (fun x hx' => let ⟨ok, h1, h2⟩ := keyLed Rl (hx x hx'); ⟨ok, List.mem_append_left _ h1, h2⟩) hnd lo (List.mem_append_left _ hm) hk ok.un2 hb fun k => q _ m n s.heap k ⟨rfl, .bool b, rfl, rfl, rfl⟩ F
theorem Ev.getD {o e pos DW T K} {ob : Obj} {v : Value} (ho : Ev ⟨w, sc, d, m, n⟩ o (.ref DW)) (he : Ev ⟨w, sc, d, m, n⟩ e (.ref T)) (hD : (DW, .raw ob) ∈ n) (W : WD PR w ob [(ks, K, v)]) (hK : (K, .tup (ks.map AV.int)) ∈ n) (hT : (T, .tup (ks.map AV.int)) ∈ n) (hn : noSl e = true) : Ev ⟨w, sc, d, m, n⟩ (.Subscript o e pos) (.v v) := fun c ok s Q E F q =>
  Subscript_ (ho.runV ok F fun h1 tk1 F1 => he.runV ok F1 fun g2 tk2 F2 => by
    obtain ⟨mv, l, F', V, N, Rl, D⟩ := id F2
    obtain ⟨okT, hm, hk⟩ := keyLed Rl hT
    obtain ⟨okK, hm2, hk2⟩ := keyLed Rl hK
    have hW := W.heap N (List.mem_append_left _ (rawLed Rl hD)) (fun x hx => by rw [List.mem_singleton.mp hx]; exact ⟨okK, List.mem_append_left _ hm2, hk2⟩) (by simp)
    exact tail_any hW.typeIs slot_dict_getitem.lookup (wpAny_getItem_heap (knd := tupleKind (intKind PR w)) (p := (K, v)) (tupleKind_room_in1 ok.un2) (hk.key (N.get (List.mem_append_left _ hm))) hW (by simp [atKey]) (q v m n g2 _ (evPut rfl) F2)) (sub_plain hn _ _))
/-- a dict that is empty takes an item -/
inductive SetD (w : World) (sc : Scope) (d : Nat) (m : Vars) (n : ALed) (o e : Expr) (a : AV) (K : ALed → Prop) : Prop
  | mk {DW T ob ks v a1 a2} (ho : Ev ⟨w, sc, d, m, n⟩ o (.ref DW)) (he : Ev ⟨w, sc, d, m, n⟩ e (.ref T)) (ha : a = .v v) (hn : n = a1 ++ (DW, .raw ob) :: a2) (hW : WD PR w ob []) (hT : (T, .tup (ks.map AV.int)) ∈ n) (k : ∀ ob', WD PR w ob' [(ks, T, v)] → K (a1 ++ (DW, .raw ob') :: a2))
theorem Ws.setD {o e p' value pos} (h : EvK ⟨w, sc, d, m, n⟩ value fun a n1 => SetD w sc d m n1 o e a fun n2 => Ws ⟨w, sc, d, m, n2⟩ (rest :: bs) R) (hn : noComp value = true) : Ws ⟨w, sc, d, m, n⟩ ((.Assign [.Subscript o e p'] value pos :: rest) :: bs) R := Ws.cons fun c ok s Q E F q =>
  wpAny_Assign_Subscript (h.run ok.ok F fun v n1 h1 tk1 a ha hs F1 => by
    obtain ⟨ho, he, rfl, rfl, hW, hT, k⟩ := hs
    rw [show v = _ from ha]
    refine ho.runV ok.ok F1 fun g1 tk1 F1 => he.runV ok.ok F1 fun g2 tk2 F2 => ?_
    obtain ⟨mv, l1, l2, Rl, F', N, D, up⟩ := F2.updR
    obtain ⟨okT, hm, hk⟩ := keyLed Rl hT
    exact WD.set F' N D hW (by have := List.mem_append_left c.hid hm; rwa [List.append_assoc] at this) hk ok.ok.un2 fun h' o' k' F3 N3 D3 hW' => q .next m _ h' k' (k o' hW' c ok) (up o' h' k' F3 N3 D3)) (noSwap hn _ _ _)
/-- its one item is taken out -/
theorem EvK.popD {o e apos p pos DW T K} {ob : Obj} {v : Value} {a1 a2 : ALed} (ho : Ev ⟨w, sc, d, m, n⟩ o (.ref DW)) (he : Ev ⟨w, sc, d, m, n⟩ (.Name e p) (.ref T)) (hn : n = a1 ++ (DW, .raw ob) :: a2) (hW : WD PR w ob [(ks, K, v)]) (hK : (K, .tup (ks.map AV.int)) ∈ n) (hT : (T, .tup (ks.map AV.int)) ∈ n) (hp : callOk [.Name e p] apos pos = true) (hb : plainB o = true)
    (h : ∀ ob', WD PR w ob' [] → P (.v v) (a1 ++ (DW, .raw ob') :: a2)) : EvK ⟨w, sc, d, m, n⟩ (.Call (.Attribute o "pop" apos) [.Name e p] [] pos) P := fun c ok s Q E F q => by
  obtain ⟨pl, hq⟩ := methodCall_eq (name := "pop") hb hp c.env
  have hp := (Bool.and_eq_true_iff.mp hp).1
  subst hn
  refine MethodCall_ (ho.runV ok F fun h1 tk1 F1 => ?_) hq
  obtain ⟨mv, l1, l2, Rl, F', N, D, -⟩ := F1.updR
  have hDW := N.get (List.mem_append_right _ (.head _))
  refine getMethod_builtin ⟨ob, hDW, hW.1.1⟩ PySem.F.plainAttrs_dict PySem.F.slot_dict_pop PySem.F.type_dict_pop (fun b e => by injection e with e; subst e; exact ⟨ob, hDW, hW.1.2.1⟩) ?_
  refine callEnd ok [.ref DW] (.cons rfl .nil) rfl hp (EvKs.of (Evs.cons he Evs.nil rfl) (CallK.mk2 fun c sc ok m va vb e1 e2 s Q E F q => ?_)) F1 q
  rw [show va = .ref DW from e1, show vb = .ref T from e2]
  obtain ⟨mv, l1, l2, Rl, F', N, D, up⟩ := F.updR
  obtain ⟨okT, hm, hk⟩ := keyLed Rl hT
  obtain ⟨okK, hm2, hk2⟩ := keyLed Rl hK
  have grow : ∀ {q : Addr × Obj}, q ∈ l1 ++ (DW, ob) :: l2 → q ∈ l1 ++ (DW, ob) :: (l2 ++ c.hid) := fun {q} h => by have := List.mem_append_left c.hid h; rwa [List.append_assoc] at this
  exact WD.pop F' N D hW (fun x hx => by rw [List.mem_singleton.mp hx]; exact ⟨okK, grow hm2, hk2⟩) (grow hm) hk ok.un2 fun h' o' k' F3 N3 D3 hW' => q v _ h' k' (.v v) rfl (h o' hW') (up o' h' k' F3 N3 D3)
/-- a dict with one item is walked through -/
theorem SrcAt.dict {tg DW K} {ob : Obj} {v : Value} {n1 : ALed} (ht : (DW, .raw ob) ∈ n1) (hW : WD PR w ob [(ks, K, v)]) (lo : (DW == sysModules) = false) (hg : plainG tg = true) : SrcAt w tg (.ref DW) [.ref K] [] [(DW, ob)] n1 n1 := fun l R => by
  refine ⟨[], l, List.Perm.refl _, .nil, R, fun u hv A s Q E hh hk q => ?_⟩
  obtain rfl : u = .ref DW := hv
  obtain ⟨hex, es, ep, hed, hee⟩ := hW
  have hes : es = #[entryOfKey (tupleKind (intKind PR w)) (ks, K, v)] := by apply Array.toList_inj.mp; rw [hee]; rfl
  have ho := hk _ (.head _)
  have hlt : DW < s.heap.objs.size := Heap.lt_size ho
  refine iterEs lo ⟨ob, ho, hex, hed⟩ (q _ (fun i h => h.IsKeyIter s.heap.objs.size DW i es.size ep ∧ EsAt h DW es ep) ?_ rfl ⟨⟨_, Heap.get?_push_size _ rfl, rfl, rfl⟩, ⟨ob, Heap.get?_push_of_some _ ho, hex, hed⟩⟩ (fun i h st => let ⟨o, e, _⟩ := st.1; ⟨o, e⟩) fun i a v s' Q' E' _ _ _ q' => letGo_plain hg q')
  have W := Walks.sub' (walksEs (prog := PR) (w := w) hh s.heap.objs.size DW (Nat.ne_of_lt hlt) es ep) (P' := fun i v => ∃ a, [AV.ref K][i]? = some a ∧ a.has v) fun i v hi hp => by
    obtain ⟨e, he, rfl⟩ := hp
    subst hes
    have : i = 0 := by have : i < 1 := hi; omega
    subst this
    cases he
    exact ⟨.ref K, rfl, rfl⟩
  rw [show es.size = [AV.ref K].length by rw [hes]; rfl] at W
  rw [show es.size = [AV.ref K].length by rw [hes]; rfl]
  exact W
end

/-- a comprehension's scope in a def's -/
noncomputable def relab (scope sc : Scope) : Scope := relabel scope { scope := sc, locals := 0, globals := 0, cells := [], qual := Str.ofString "", func := none, code := .none, frame := none, builtins := 0 }
theorem relab_of {scope sc : Scope} {env : Env} (h : env.scope = sc) : relabel scope env = relab scope sc := by
  cases env; cases h; rfl
/-- a comprehension that captures one name -/
theorem Cap.one {S : St} {scope : Scope} {x : Str} {a : AV} (hx : (x, a) ∈ S.m) (hk : kindIs S.sc x .cell = true) (h1 : scope.kind = .function) (h2 : (scope.names.all fun y => y.2 != .cell) = true) (h3 : (scope.names.all fun y => !(y.2 == .local) || scope.names.lookup y.1 == some .local) = true)
    (hc : ∀ (env : Env) ca, env.cells.lookup x = some ca → closureFor scope env = pure [(x, ca)]) (hsc : ((relab scope S.sc).names.all fun y => y.2 != .cell || y.1 == x) = true) : Cap S scope (relab scope S.sc) := by
  refine ⟨fun env he => relab_of he, h1, fun y hy => by have := List.all_eq_true.mp h2 y hy; simpa using this, fun y hy e => ?_, fun c ok s F => ?_⟩
  · have := List.all_eq_true.mp h3 y hy
    rw [e] at this
    simpa using this
  · have hh := F.hidden
    obtain ⟨mv, l, F', V, r⟩ := F
    obtain ⟨v, hv, ha⟩ := V _ hx
    obtain ⟨ca, o, e1, e2, e3⟩ := ok.cell s.heap mv x v F' hh hk hv
    refine ⟨[(x, ca)], hc _ _ e1, fun y hy => ?_⟩
    have := List.all_eq_true.mp hsc _ (mem_lookup (kindIs_of hy).1)
    obtain rfl : y = x := by simpa using this
    exact ⟨hk, by rw [e1]; simp⟩
/-- a def whose one parameter is captured is entered -/
theorem CallK.fnC1 {w : World} {f : Addr} {d : Nat} {x : Str} {a : AV} {n : ALed} {P : AV → ALed → Prop}
    {name qual : Str} {params : Arguments} {body : List Stmt} {scope : Scope} {dV kV doc pm cdv ct oc : Value} {an od : Option Addr} {osl : Array (Option Value)}
    (ho : (Mine.hd.heap_39 w.params).lookup f = some ⟨oc, od, .func (fnOf name qual params body scope dV kV doc pm an cdv ct), osl⟩) (hcd : codeIn (Mine.hd.heap_39 w.params) cdv qual = true)
    (hbind : ∀ (s : Shared) v, (Mine.hd.heap_39 w.params).In s.heap → BindsTo s (fnOf name qual params body scope dV kV doc pm an cdv ct) ⟨[v], []⟩ [(x, v)])
    (hsc : (!scope.isCoroutine && !scope.isGenerator && scope.kind == .function && kindIs scope x .cell) = true) (hcs : ∀ k : Addr, cellsFrom k scope.names [] = [(x, k)])
    (h : Ws ⟨w, scope, d, [(x, a)], n⟩ [body] (RetP P)) : CallK w (d + 1) n (.ref f) [a] P := fun c sc ok m vs hv s Q E F q => by
  cases hv with | @cons _ v _ _ ha hv => ?_
  cases hv
  obtain ⟨hsc, hxc⟩ := Bool.and_eq_true_iff.mp hsc
  obtain ⟨hsc, hks⟩ := Bool.and_eq_true_iff.mp hsc
  obtain ⟨hco, hgen⟩ := Bool.and_eq_true_iff.mp hsc
  obtain ⟨mv, l, F', V, N, Rl, D⟩ := F
  have hks' : scope.kind = .function := beq_iff_eq.mp hks
  have hxc' := (kindIs_of hxc).1
  refine wpAny_call ?_
  have hd1 := ok.dp
  have hd2 := ok.un
  refine code_defC ok.below F' ok.inK N ok.top rfl rfl ok.fkind ho hcd (by show c.dp < _; omega) (hbind s v (ok.inK.keeps F'.keep)) (by simp [hxc']) (by rw [hcs]; simp) (fun g L' h₁ tk cells a1 a2 a3 a4 a5 a6 a7 a8 => ?_) (by simpa using hco) (by simpa using hgen) hks'
  rw [hcs] at a4
  obtain ⟨o, rfl, hod⟩ := a4.one
  have hkx : ∀ L' : Addr, (envOfC qual scope L' f cdv).kindOf x = some .cell := fun L' => hxc'
  have hbC : bindC (envOfC qual scope L' f cdv).kindOf [(x, v)] (fun _ => none) x = some v := by
    show (if (envOfC qual scope L' f cdv).kindOf x = some .local then _ else fun y => if y = x then some v else none) x = some v
    rw [hkx, if_neg (by simp)]; exact if_pos rfl
  rw [hbC] at hod
  let c' : Cx := ⟨c.mean, c.mg, c.mb, c.dp + 1, c.un + 3, c.gd, qual, scope, L', f, cdv, [(x, L' + 1)], c.fenv :: c.outer, c.A, c.base, g, envX qual scope L' f cdv [(x, L' + 1)], (L' + 1, o) :: c.hid, fun mv y => if kindIs scope y .cell = true then (if y = x then some v else none) else mv y⟩
  have he : envOfC qual scope L' f cdv = c'.env := by unfold envOfC; rw [hcs]
  have ok' : c'.OkM w scope d := by
    refine ⟨⟨a5, a6, a7, hks', rfl, hks', rfl, rfl, fun h mv y v' F _ k e => ?_, fun h mv y v' F hid k e => ?_, by show c.dp + 1 + d < _; omega, by show c.un + 3 + 8 * d + 2 < _; omega⟩, rfl, fun mv y v' k => ?_⟩
    · have e' : (if kindIs scope y .cell = true then (if y = x then some v else none) else mv y) = some v' := e
      rw [if_neg (notCell k)] at e'
      exact ⟨mv, F.ns, e'⟩
    · have e' : (if kindIs scope y .cell = true then (if y = x then some v else none) else mv y) = some v' := e
      rw [if_pos k] at e'
      by_cases hy : y = x
      · subst hy
        rw [if_pos rfl] at e'
        cases e'
        exact ⟨L' + 1, o, by show List.lookup y [(y, L' + 1)] = some (L' + 1); simp, hid (L' + 1, o) (.head _), hod⟩
      · rw [if_neg hy] at e'; cases e'
    · funext z
      show (if kindIs scope z .cell = true then _ else if z = y then some v' else mv z) = if z = y then some v' else if kindIs scope z .cell = true then _ else mv z
      by_cases hz : z = y
      · subst hz
        rw [if_neg (notCell k), if_pos rfl, if_pos rfl]
      · rw [if_neg hz, if_neg hz]
  have hA : c.A.deeper (envOfC qual scope L' f cdv) = c'.A := by rw [he]; rfl
  rw [hA, he]
  have perm : ∀ l : Led, ([(L' + 1, o)] ++ (l ++ c.hid)).Perm (l ++ ((L' + 1, o) :: c.hid)) := fun l => (permH l [(L' + 1, o)] c.hid).symm.trans (by rw [List.append_assoc]; exact List.Perm.refl _)
  refine h c' ok' _ _ _ ⟨_, l, a2, fun p hp => ?_, fun p hp => a3 p ((perm l).mem_iff.mpr hp), Rl, (((perm l).map _).nodup_iff).mp ?_⟩ fun fl m1 n1 h1 tk1 hf F1 => ?_
  · rw [List.mem_singleton.mp hp]
    refine ⟨v, ?_, ha⟩
    show (if kindIs scope x .cell = true then (if x = x then some v else none) else _) = some v
    rw [if_pos hxc, if_pos rfl]
  · rw [List.singleton_append, List.map_cons, List.nodup_cons]
    refine ⟨fun hm => ?_, D⟩
    obtain ⟨p, hp, e⟩ := List.mem_map.mp hm
    exact absurd (Nat.lt_of_le_of_lt (Nat.le_of_eq (show L' + 1 = p.1 from e.symm)) (a8 p hp)) (Nat.not_lt.mpr (Nat.le_succ _))
  have fin : ∀ (v : Value) (a : AV), a.has v → P a n1 → LeaveK c.h₀ c.L mv g (fun r s' => match r with | .ok (.ret v) => Q v s' | .ok _ => False | .error e => E e s') v { s with heap := h1, toks := tk1 } := by
    intro v a ha hP
    obtain ⟨mv1, l1, G1, _, N1, R1, D1⟩ := F1
    have D2 := (((perm l1).map _).nodup_iff).mpr D1
    rw [List.singleton_append, List.map_cons, List.nodup_cons] at D2
    exact ⟨L', mv1, l1 ++ c.hid, G1, fun p hp => N1 p ((perm l1).mem_iff.mp (.tail _ hp)), fun FF NN => q _ m n1 h1 tk1 ⟨rfl, a, ha, hP⟩ ⟨mv, l1, FF, V, NN, R1, D2.2⟩⟩
  cases fl with
  | ret v => obtain ⟨a, ha, hP⟩ := hf; exact fin v a ha hP
  | next => exact fin .none .none rfl hf
  | _ => exact hf.elim

noncomputable abbrev raFs (lim mo ms : Int) (DW : Addr) : Vars := [(Str.ofString "time_limit", .int lim), (Str.ofString "most_octets", .int mo), (Str.ofString "most", .int ms), (Str.ofString "waiting", .ref DW)]
noncomputable abbrev raO (lim mo ms : Int) (DW : Addr) : AO := .inst 500 (raFs lim mo ms DW)
section
variable {w : World} {n : ALed} {X RR DW : Addr} {lim mo ms : Int} {hdr : Hdr} {pay : By}
theorem Reassembly_fn {P : AV → ALed → Prop} (hP : ∀ X DW o, WD PR w o [] → (DW == sysModules) = false → P (.ref X) ((DW, .raw o) :: (X, raO lim mo ms DW) :: n)) : CallK w 2 n (.ref 500) [.int lim, .int mo, .int ms] P := by
  refine' CallK.cls (fun self => [(Str.ofString "most", .int ms), (Str.ofString "most_octets", .int mo), (Str.ofString "time_limit", .int lim), (Str.ofString "self", .ref self)]) ?m1 ?m2 ?m3 ?o ?c ?b ?s ?_; (case m1 => kernel_rfl!); (case m2 => k_is); (case m3 => kernel_rfl!); (case o => k_is); (case c => k_is); (case b => intro self; exact bind4 fun s9 _ _ _ _ X9 => by first | exact BindsTo.of_eq rfl | exact binds_K X9 rfl (by k_is) rfl rfl rfl); (case s => intro self; kernel_rfl!); intro self
  repeat tm_at "ws"
  refine Ws.setA (EvK.dict0 fun D o hW lo => ?_) rfl
  tm_at "setk"
  repeat tm_at "ws"
  exact ⟨rfl, hP self D o hW lo⟩
theorem bad_piece_fn (hx : (X, hdrO hdr) ∈ n) (hp : pay.length ≤ 1000) (hb : hdr.more = true → 0 < pay.length ∧ pay.length % 8 = 0) : CallK w 1 n (.ref 442) [.ref X, .bytes pay] fun r n' => r = .bool false ∧ n' = n := by
  (refine' CallK.fn [(Str.ofString "payload", .bytes pay), (Str.ofString "header", .ref X)] ?o ?c ?b ?s ?_; (case o => k_is); (case c => k_is); (case b => exact bind2 fun s9 _ _ X9 => by first | exact BindsTo.of_eq rfl | exact binds_K X9 rfl (by k_is) rfl rfl rfl); (case s => kernel_rfl!))
  cases hm : hdr.more with
  | false =>
    repeat tm_at "ws"
    exact ⟨by simp [hm], rfl⟩
  | true =>
    obtain ⟨h1, h2⟩ := hb hm
    have hne : ¬ pay = [] := by intro e; subst e; simp at h1
    repeat tm_at "ws"
    exact ⟨by simp [hm, hne]; omega, rfl⟩
noncomputable def keyF (hdr : Hdr) : List Int := [hdr.src, hdr.tgt, hdr.proto, hdr.ident]
theorem key_of_fn (hx : (X, hdrO hdr) ∈ n) {P : AV → ALed → Prop} (hP : ∀ T, P (.ref T) ((T, .tup ((keyF hdr).map AV.int)) :: n)) : CallK w 1 n (.ref 435) [.ref X] P := by
  (refine' CallK.fn [(Str.ofString "header", .ref X)] ?o ?c ?b ?s ?_; (case o => k_is); (case c => k_is); (case b => exact bind1 fun s9 _ X9 => by first | exact BindsTo.of_eq rfl | exact binds_K X9 rfl (by k_is) rfl rfl rfl); (case s => kernel_rfl!))
  repeat tm_at "ws"
  exact hP _

section
variable {n0 : ALed} {KA XG HX LP : Addr} {began : Int} {d : DgS} {ob : Obj} {ks : List Int}
theorem CallK.sum1 {l : Addr} {i : Int} {d : Nat} (hl : (l, .lst [.int i]) ∈ n) : CallK w d n (.builtin "sum") [.ref l] fun r n' => r = .int i ∧ n' = n := CallK.mkV fun c sc ok m s Q E F q => by
  obtain ⟨us, k, hu, ho⟩ := F.lstAt hl
  obtain ⟨u, rfl, ⟨t, rfl⟩⟩ := hu.one
  obtain ⟨mv, l', F', V, N, R, D⟩ := F
  exact LSm.sum_ints F' N rfl ⟨_, ho, rfl, _, rfl⟩ (.cons i t .nil) fun h' tk t' F2 N2 => q _ n h' tk (.int i) ⟨t', by simp⟩ ⟨rfl, rfl⟩ ⟨mv, l', F2, V, N2, R, D⟩
inductive SumI (N : ALed) (z : AV) (i : Nat) : List AV → ALed → Prop
  | mk : SumI N z i ([z].take i) N
theorem stored_fn (hR : (RR, raO lim mo ms DW) ∈ n) (hD : (DW, .raw ob) ∈ n) (hW : WD PR w ob [(ks, KA, .ref XG)]) (lo : (DW == sysModules) = false) (hK : (KA, .tup (ks.map AV.int)) ∈ n) (hX : (XG, dgO began ms HX LP d) ∈ n) :
    CallK w 1 n (.ref 469) [.ref RR] fun r n' => r = .int d.size ∧ n' = n := by
  refine' CallK.fnC1 (x := Str.ofString "self") ?o ?c ?b ?s ?k ?_
  case o => k_is
  case c => k_is
  case b => intro s9 v9 X9; first | exact BindsTo.of_eq rfl | exact binds_K X9 rfl (by k_is) rfl rfl rfl
  case s => kernel_rfl!
  case k => intro k; rfl
  refine Ws.retP (EvK.drop (x := ()) ?_ rfl)
  refine' EvK.call ?ca ?cb ?cc ?cd ?_
  case cd => exact rfl
  case ca => tm_at "ev"
  case cb => tm_at "kr"
  case cc => exact rfl
  refine EvKs.cons ?_ rfl
  refine EvK.comp [(Str.ofString "self", .ref RR)] (EvK.ofE (by tm_at "ev") ⟨[.ref KA], [], [(DW, ob)], n, SumI n (.int d.size), SrcAt.dict hD hW lo rfl, fun _ _ _ l h R p hp => by rw [List.mem_singleton.mp hp]; cases h; exact rawLed R hD, by simp, .mk, ?_, ?_⟩) (Cap.one (x := Str.ofString "self") (.head _) (by kernel_rfl!) (by rfl) (by rfl) (by rfl) (fun env ca h => by simp [closureFor, cellOf, h]) (by kernel_rfl!)) (by intro p hp; rw [List.mem_singleton.mp hp]; exact ⟨.head _, by kernel_rfl!⟩) (fun _ _ => rfl)
  · refine fun i v as1 n1 hv h9 => SumI.casesOn h9 ?_
    obtain ⟨rfl, rfl⟩ : i = 0 ∧ v = .ref KA := by
      cases i with
      | zero => exact ⟨rfl, (Option.some.inj hv).symm⟩
      | succ i => simp at hv
    refine ⟨_, TgtK.name (by kernel_rfl!), true, Tests.nil, fun _ => ?_, fun e => by cases e⟩
    refine EvK.ofE (Ev.attr (Ev.getD (by tm_at "ev") (by tm_at "ev") hD hW hK hK rfl) hX (by tm_at "in") (by kernel_rfl!) rfl rfl) (.mk (i := 1))
  · refine fun D as1 n1 h9 => SumI.casesOn h9 ?_
    refine ⟨_, fun _ _ _ F => F, EvKs.nil ?_⟩
    refine CallK.to (CallK.sum1 (.head _)) ?_
    exact ⟨n, ⟨rfl, rfl⟩, List.sublist_cons_self _ _⟩
theorem make_room_fn (hR : (RR, raO lim mo ms DW) ∈ n) (hD : (DW, .raw ob) ∈ n) (hW : WD PR w ob [(ks, KA, .ref XG)]) (lo : (DW == sysModules) = false) (hK : (KA, .tup (ks.map AV.int)) ∈ n) (hX : (XG, dgO began ms HX LP d) ∈ n) (hle : d.size ≤ mo) :
    CallK w 2 n (.ref 483) [.ref RR] fun r n' => r = .none ∧ n' = n := by
  (refine' CallK.fn [(Str.ofString "self", .ref RR)] ?o ?c ?b ?s ?_; (case o => k_is); (case c => k_is); (case b => exact bind1 fun s9 _ X9 => by first | exact BindsTo.of_eq rfl | exact binds_K X9 rfl (by k_is) rfl rfl rfl); (case s => kernel_rfl!))
  refine Ws.while (k := 1) (fun j => Is [(Str.ofString "self", .ref RR)] n) ⟨_, _, .mk, fun p h => h, List.Sublist.refl _⟩ ?_
  refine fun j m1 n1 h9 => Is.casesOn h9 ?_
  refine ⟨decide (mo < d.size), Tst.cmp (Ev.meth (by tm_at "ev") hR (by k_is) (by kernel_rfl!) (by kernel_rfl!) rfl rfl Evs.nil (CallK.le (stored_fn hR hD hW lo hK hX) rfl)) (by tm_at "ev") Op.gt rfl, fun hb => ?_, fun hb => ?_⟩
  · have := of_decide_eq_true hb; omega
  · repeat tm_at "ws"
    exact ⟨rfl, rfl⟩
end
end

/-- a datagram waits in the dict -/
inductive Waits (w : World) (DW : Addr) (ms : Int) (ks : List Int) (d : DgS) (rest : ALed) : ALed → Prop
  | mk (o : Obj) (KA XG HX LR LP : Addr) (began : Int) (vs ps : List AV) : WD PR w o [(ks, KA, .ref XG)] → (KA, .tup (ks.map AV.int)) ∈ rest → Paired (RowAt rest) vs d.rows → Paired (OptAt rest) ps d.parts →
      Waits w DW ms ks d rest [(DW, .raw o), (XG, dgO began ms HX LP d), (HX, holesO ms LR), (LR, .lst vs), (LP, .lst ps)]
/-- nothing waits, or a datagram does -/
inductive Stt (w : World) (DW : Addr) (ms : Int) (ks : List Int) (rest : ALed) : DgS → ALed → Prop
  | no (o : Obj) : WD PR w o [] → Stt w DW ms ks rest (new0 ms) [(DW, .raw o)]
  | yes (d : DgS) (dyn : ALed) : Waits w DW ms ks d rest dyn → Stt w DW ms ks rest d dyn
inductive RputI (w : World) (M : Vars) (DW : Addr) (ms : Int) (ks : List Int) (d : DgS) (K2 : Addr) (rest : ALed) : Vars → ALed → Prop
  | mk (dyn r : ALed) : rest <:+ r → Waits w DW ms ks d r dyn → (K2, .tup (ks.map AV.int)) ∈ r → RputI w M DW ms ks d K2 rest M (dyn ++ r)
theorem memOutR {T DW : Addr} {us : List AV} {o : Obj} {tl r : ALed} (h : (T, AO.tup us) ∈ tl ++ (DW, .raw o) :: r) : (T, AO.tup us) ∈ tl ++ r :=
  (List.mem_append.mp h).elim (List.mem_append_left _) fun h => (List.mem_cons.mp h).elim (fun e => nomatch e) (List.mem_append_right _)
section
variable {w : World} {rest dyn : ALed} {RR DW hx : Addr} {lim mo ms now lo : Int} {hdr hF : Hdr} {pay : By} {d d2 : DgS}
/-- a datagram that was not cut goes through -/
theorem rput_single {n : ALed} (hh : (hx, hdrO hdr) ∈ n) (h0 : hdr.off = 0) (h1 : hdr.more = false) {P : AV → ALed → Prop} (hP : ∀ T, P (.ref T) ((T, .tup [.ref hx, .bytes pay]) :: n)) : CallK w 1 n (.ref 464) [.ref RR, .ref hx, .bytes pay, .int now] P := by
  (refine' CallK.fn [(Str.ofString "now", .int now), (Str.ofString "payload", .bytes pay), (Str.ofString "header", .ref hx), (Str.ofString "self", .ref RR)] ?o ?c ?b ?s ?_; (case o => k_is); (case c => k_is); (case b => exact bind4 fun s9 _ _ _ _ X9 => by first | exact BindsTo.of_eq rfl | exact binds_K X9 rfl (by k_is) rfl rfl rfl); (case s => kernel_rfl!))
  refine Ws.iteT (by tm_at "tst") (by rw [h0, h1]; rfl) ?_
  repeat tm_at "ws"
  exact hP _
theorem rput_fn (hd2 : putS ms hdr pay hx d = d2) (hR : (RR, raO lim mo ms DW) ∈ rest) (lo9 : (DW == sysModules) = false) (hh : (hx, hdrO hdr) ∈ rest) (hS : Stt w DW ms (keyF hdr) rest d dyn)
    (hfr : hdr.off = 0 → hdr.more = true) (hbad : hdr.more = true → 0 < pay.length ∧ pay.length % 8 = 0) (hpl : pay.length ≤ 1000)
    (hlast : hdr.more = false → d.endO = none → ∃ r0 : List (Int × Int), d.rows = r0 ++ [(lo, ms)] ∧ r0.length ≤ 1000) (hm : hdr.off + pay.length ≤ ms) (hag : agF d.endO d.ahead lo (hdr.off + pay.length) hdr.more = false) (hoff : 0 ≤ hdr.off) (hrl : d.rows.length ≤ 100) (hpsl : d.parts.length ≤ 1000)
    (hfst : ∀ a, d2.fst = some a → (a, hdrO hF) ∈ rest) (hsz : d2.size ≤ mo)
    (wh : Bool) (hw : (d2.endO.isSome && d2.fst.isSome && d2.rows.isEmpty) = wh) (idx : List Nat)
    (hI : wh = true → IsIdx d2.parts idx ∧ (laidBy idx d2.parts).flatten.length ≤ 1000 ∧ 1 ≤ d2.parts.length ∧ d2.parts.length ≤ 5) {C : AV → ALed → Prop}
    (k0 : wh = false → ∀ dyn' r, rest <:+ r → Waits w DW ms (keyF hdr) d2 r dyn' → C .none (dyn' ++ r))
    (k1 : wh = true → ∀ T X o' n' r, rest <:+ r → Take (DW, .raw o') n' r → WD PR w o' [] → (T, .tup [.ref X, .bytes (laidBy idx d2.parts).flatten]) ∈ r → (X, hdrO { hF with off := 0, more := false }) ∈ r → C (.ref T) n') :
    CallK w 6 (dyn ++ rest) (.ref 464) [.ref RR, .ref hx, .bytes pay, .int now] C := by
  have hR' : (RR, raO lim mo ms DW) ∈ dyn ++ rest := List.mem_append_right _ hR
  have hh' : (hx, hdrO hdr) ∈ dyn ++ rest := List.mem_append_right _ hh
  (refine' CallK.fn [(Str.ofString "now", .int now), (Str.ofString "payload", .bytes pay), (Str.ofString "header", .ref hx), (Str.ofString "self", .ref RR)] ?o ?c ?b ?s ?_; (case o => k_is); (case c => k_is); (case b => exact bind4 fun s9 _ _ _ _ X9 => by first | exact BindsTo.of_eq rfl | exact binds_K X9 rfl (by k_is) rfl rfl rfl); (case s => kernel_rfl!))
  refine Ws.iteF (by tm_at "tst") ?_ ?_
  · by_cases h : hdr.off = 0
    · rw [hfr h]; simp
    · simp [h]
  repeat tm_at "ws"
  rename_i K2
  refine Ws.cut (RputI w [(Str.ofString "key", AV.ref K2), (Str.ofString "now", AV.int now), (Str.ofString "payload", AV.bytes pay), (Str.ofString "header", AV.ref hx), (Str.ofString "self", AV.ref RR)] DW ms (keyF hdr) d K2 rest) ?_ ?_
  · clear hlast hag hrl hpsl hfst hsz hw hI k0 k1 hd2
    rcases hS with ⟨o, hW⟩ | ⟨_, _, ⟨o, KA, XG, HX, LR, LP, began, vs, ps, hW, hK, hrow, hpart⟩⟩
    · refine Ws.iteT (v := true) (Tst.cmp (by tm_at "ev") (by tm_at "ev") (Op.notIn (xs := []) (.tail _ (.head _)) hW (fun _ h => nomatch h) (by simp) lo9 (.head _) rfl) rfl) rfl ?_
      refine Ws.setD ?_ rfl
      tm_at "evc"
      refine CallK.le (Datagram_fn fun XG HX LR T LP => ?_) (Eq.refl true)
      refine SetD.mk (a1 := [(LP, .lst []), (LR, .lst [.ref T]), (T, .tup [.int 0, .int ms]), (HX, holesO ms LR), (XG, dgO now ms HX LP (new0 ms)), (K2, .tup ((keyF hdr).map AV.int))]) (by tm_at "ev") (by tm_at "ev") rfl rfl hW (by tm_at "in") fun ob hW2 => ?_
      simp only [List.cons_append, List.nil_append]
      refine Ws.front (p := (LP, .lst [])) (by tm_at "take") (Ws.front (p := (LR, .lst [.ref T])) (by tm_at "take") (Ws.front (p := (HX, holesO ms LR)) (by tm_at "take") (Ws.front (p := (XG, dgO now ms HX LP (new0 ms))) (by tm_at "take") (Ws.front (p := (DW, .raw ob)) (by tm_at "take") ?_))))
      repeat tm_at "ws"
      exact RputI.mk [_, _, _, _, _] ((T, .tup [.int 0, .int ms]) :: (K2, .tup ((keyF hdr).map AV.int)) :: rest) (List.suffix_append [_, _] rest) (.mk ob K2 XG HX LR LP now _ _ hW2 (.tail _ (.head _)) (.cons ⟨T, rfl, .head _⟩ .nil) .nil) (.tail _ (.head _))
    · refine Ws.iteF (v := false) (Tst.cmp (by tm_at "ev") (by tm_at "ev") (Op.notIn (b := false) (.tail _ (.head _)) hW (fun x hx => by rw [List.mem_singleton.mp hx]; exact .tail _ (List.mem_append_right _ hK)) (by simp) lo9 (.head _) (by simp [atKey])) rfl) rfl ?_
      simp only [List.cons_append, List.nil_append]
      refine Ws.front (p := (LP, .lst ps)) (by tm_at "take") (Ws.front (p := (LR, .lst vs)) (by tm_at "take") (Ws.front (p := (HX, holesO ms LR)) (by tm_at "take") (Ws.front (p := (XG, dgO began ms HX LP d)) (by tm_at "take") (Ws.front (p := (DW, .raw o)) (by tm_at "take") ?_))))
      repeat tm_at "ws"
      exact RputI.mk [_, _, _, _, _] ((K2, .tup ((keyF hdr).map AV.int)) :: rest) (List.suffix_append [_] rest) (.mk o KA XG HX LR LP began _ _ hW (.tail _ hK) (rowsUp hrow fun q hq => .tail _ hq) (Paired.opts hpart fun q hq => .tail _ hq)) (.head _)
  clear hS hR' hh'
  refine fun m1 n1 h9 => RputI.casesOn h9 fun dyn9 r1 hs1 hw9 hK2 => Waits.casesOn hw9 fun o KA XG HX LR LP began vs ps hW hK hrow hpart => ?_
  clear h9 hw9
  have hps := pairedLen hpart
  simp only [List.cons_append, List.nil_append]
  have hR1 := hs1.subset hR
  have hh1 := hs1.subset hh
  refine Ws.assign (EvK.ofE (Ev.getD (by tm_at "ev") (by tm_at "ev") (.head _) hW (by tm_at "in") (by tm_at "in") rfl) ?_) (by tm_at "pick") (by kernel_rfl!) (by kernel_rfl!) rfl
  refine Ws.iteK (TstK.not (TstK.val ?_ rfl))
  tm_at "evm"
  refine CallK.front (p := (LP, .lst ps)) (by tm_at "take") (CallK.front (p := (LR, .lst vs)) (by tm_at "take") (CallK.front (p := (HX, holesO ms LR)) (by tm_at "take") (CallK.front (p := (XG, dgO began ms HX LP d)) (by tm_at "take")
    (CallK.le (put_fn (rest := (DW, .raw o) :: r1) (lo := lo) hd2 (.tail _ hh1) (rowsUp hrow fun q hq => .tail _ hq) (Paired.opts hpart fun q hq => .tail _ hq) hlast hm hag hoff hpl hrl (by omega) fun LR2 vs2 ps2 tl2 hrow2 hpart2 => ⟨true, rfl, fun h => (nomatch h), fun _ => ?_⟩) (Eq.refl true)))))
  clear hlast hag hrow hpart
  replace hrow2 : Paired (RowAt (tl2 ++ r1)) vs2 d2.rows := pairedImp (fun _ _ h => h.imp fun _ h => ⟨h.1, memOutR h.2⟩) hrow2
  replace hpart2 : Paired (OptAt (tl2 ++ r1)) ps2 d2.parts := pairedImp (fun _ _ h => h.imp fun _ h => ⟨h.1, memOutR h.2⟩) hpart2
  refine Ws.front (p := (DW, .raw o)) (by tm_at "take") ?_
  have hR2 := List.mem_append_right tl2 hR1
  have hk3 := List.mem_append_right tl2 hK
  have hk4 := List.mem_append_right tl2 hK2
  have hps2 := pairedLen hpart2
  have hrow3 : Paired (RowAt ((DW, .raw o) :: (XG, dgO began ms HX LP d2) :: (HX, holesO ms LR2) :: (LR2, .lst vs2) :: (LP, .lst ps2) :: (tl2 ++ r1))) vs2 d2.rows := rowsUp hrow2 fun q hq => .tail _ (.tail _ (.tail _ (.tail _ (.tail _ hq))))
  tm_at "ws"
  refine Ws.ite (v := wh) (Tst.val (a := .bool wh) (by rw [← hw]; tm_at "ev") rfl rfl) (fun h => ?_) (fun h => ?_)
  · have hi := hI h
    have w2 : d2.fst.isSome = true := by
      have := hw.trans h
      rw [Bool.and_eq_true, Bool.and_eq_true] at this
      exact this.1.2
    refine (Option.isSome_iff_exists.mp w2).elim fun a ha => ?_
    have hX : dgO began ms HX LP d2 = dgI began ms HX LP (endA d2.endO) d2.ahead (.ref a) d2.size := by show dgI _ _ _ _ _ _ _ _ = _; rw [ha]; rfl
    have ha2 := List.mem_append_right tl2 (hs1.subset (hfst a ha))
    refine Ws.expr (EvK.popD (a1 := []) (by tm_at "ev") (by tm_at "ev") rfl hW (.tail _ (.tail _ (.tail _ (.tail _ (.tail _ hk3))))) (.tail _ (.tail _ (.tail _ (.tail _ (.tail _ hk4))))) rfl rfl fun ob hW2 => ?_) rfl
    refine Ws.retP (EvK.tuple (EvKs.cons ?_ rfl))
    refine' EvK.call ?ca ?cb ?cc ?cd ?_
    case cd => exact rfl
    case ca => tm_at "ev"
    case cb => tm_at "kr"
    case cc => exact rfl
    refine EvKs.ofE (as := [.ref a]) (Evs.cons (by show Ev ⟨_, _, _, _, (DW, .raw ob) :: (XG, dgO began ms HX LP d2) :: _⟩ _ _; rw [hX]; tm_at "ev") Evs.nil rfl) ?_
    refine CallK.le (whole_header_fn (by tm_at "in") fun y => ?_) (Eq.refl true)
    refine EvKs.ofE (Evs.cons (a := .bytes (laidBy idx d2.parts).flatten) ?_ Evs.nil rfl) ⟨rfl, fun T => ?_⟩
    · refine Ev.meth (by tm_at "ev") (by tm_at "in") (by k_is) (by kernel_rfl!) (by kernel_rfl!) rfl rfl Evs.nil (CallK.le (octets_fn (HX := HX) (LP := LP) (began := began) (most := ms) (ps := ps2) (by tm_at "in") (by tm_at "in") (Paired.opts hpart2 fun q hq => ?_) hi.2.2.1 hi.2.2.2 hi.1 hi.2.1) rfl)
      exact .tail _ (.tail _ (.tail _ (.tail _ (.tail _ (.tail _ hq)))))
    · exact k1 h T y ob _ ((T, .tup [.ref y, .bytes (laidBy idx d2.parts).flatten]) :: (y, hdrO { hF with off := 0, more := false }) :: (XG, dgO began ms HX LP d2) :: (HX, holesO ms LR2) :: (LR2, .lst vs2) :: (LP, .lst ps2) :: (tl2 ++ r1)) ((hs1.trans (List.suffix_append tl2 r1)).trans (List.suffix_append [_, _, _, _, _, _] (tl2 ++ r1))) (.tail (.tail .head)) hW2 (.head _) (.tail _ (.head _))
  · tm_at "ws"
    refine Ws.expr ?_ rfl
    tm_at "evm"
    refine CallK.to (CallK.le (make_room_fn (ob := o) (ks := keyF hdr) (KA := KA) (by tm_at "in") (by tm_at "in") hW lo9 (by tm_at "in") (by tm_at "in") hsz) (Eq.refl true)) ?_
    repeat tm_at "ws"
    exact k0 h [_, _, _, _, _] (tl2 ++ r1) (hs1.trans (List.suffix_append tl2 r1)) (.mk o KA XG HX LR2 LP began vs2 ps2 hW hk3 hrow2 hpart2)
end

/-- holes in order and apart -/
noncomputable def Apart (rows : List (Int × Int)) : Prop := (∀ r ∈ rows, r.1 < r.2) ∧ rows.Pairwise fun r s => r.2 < s.1
noncomputable def InRows (rows : List (Int × Int)) (x : Int) : Prop := ∃ r ∈ rows, r.1 ≤ x ∧ x < r.2
theorem fillOne_keep {b e : Int} {r : Int × Int} (h : min r.2 e ≤ max r.1 b) : fillOne b e r = ([], [r]) := by unfold fillOne; rw [if_pos h]
theorem fillOne_sub {b e : Int} {r : Int × Int} (hr : r.1 < r.2) (hbe : b < e) : ∀ s ∈ (fillOne b e r).2, r.1 ≤ s.1 ∧ s.1 < s.2 ∧ s.2 ≤ r.2 := by
  intro s hs
  unfold fillOne at hs
  split at hs
  · rw [List.mem_singleton.mp hs]; lia
  · dsimp only at hs
    rcases List.mem_append.mp hs with h | h
    · split at h
      · rw [List.mem_singleton.mp h]; dsimp only; lia
      · cases h
    · split at h
      · rw [List.mem_singleton.mp h]; dsimp only; lia
      · cases h
theorem fillOne_pw {b e : Int} {r : Int × Int} : ((fillOne b e r).2).Pairwise fun r s => r.2 < s.1 := by
  unfold fillOne
  split
  · simp
  · dsimp only
    split <;> split <;> simp
    lia
theorem fillOne_in {b e x : Int} {r : Int × Int} (hr : r.1 < r.2) (hbe : b < e) : InRows (fillOne b e r).2 x ↔ (r.1 ≤ x ∧ x < r.2) ∧ ¬ (b ≤ x ∧ x < e) := by
  unfold fillOne InRows
  split
  · simp; lia
  · dsimp only
    split <;> split <;> simp <;> lia
theorem Apart.rest {b e : Int} {rows : List (Int × Int)} (h : Apart rows) (hbe : b < e) : Apart (restF b e rows) := by
  unfold restF
  refine ⟨fun s hs => ?_, List.pairwise_flatMap.mpr ⟨fun r _ => fillOne_pw, ?_⟩⟩
  · obtain ⟨r, hr, hs⟩ := List.mem_flatMap.mp hs
    exact (fillOne_sub (h.1 r hr) hbe s hs).2.1
  · refine List.Pairwise.imp_of_mem ?_ h.2
    intro r s hr hs hrs x hx y hy
    have h1 := fillOne_sub (h.1 r hr) hbe x hx
    have h2 := fillOne_sub (h.1 s hs) hbe y hy
    lia
theorem inRest {b e x : Int} {rows : List (Int × Int)} (h : Apart rows) (hbe : b < e) : InRows (restF b e rows) x ↔ InRows rows x ∧ ¬ (b ≤ x ∧ x < e) := by
  have one : ∀ r ∈ rows, _ := fun r hr => fillOne_in (x := x) (h.1 r hr) hbe
  constructor
  · rintro ⟨s, hs, hx⟩
    obtain ⟨r, hr, hs⟩ := List.mem_flatMap.mp hs
    have := (one r hr).mp ⟨s, hs, hx⟩
    exact ⟨⟨r, hr, this.1⟩, this.2⟩
  · rintro ⟨⟨r, hr, hx⟩, hn⟩
    obtain ⟨s, hs, hx⟩ := (one r hr).mpr ⟨hx, hn⟩
    exact ⟨s, List.mem_flatMap.mpr ⟨r, hr, hs⟩, hx⟩
theorem found_none {b e : Int} : ∀ {rows : List (Int × Int)}, (∀ r ∈ rows, r.1 < r.2) → b < e → (∀ x, b ≤ x → x < e → ¬ InRows rows x) → foundF b e rows = [] ∧ restF b e rows = rows
  | [], _, _, _ => ⟨rfl, rfl⟩
  | r :: rows, hr, hbe, h => by
    obtain ⟨i1, i2⟩ := found_none (rows := rows) (fun s hs => hr s (.tail _ hs)) hbe fun x h1 h2 ⟨s, hs, hx⟩ => h x h1 h2 ⟨s, .tail _ hs, hx⟩
    have hr0 := hr r (.head _)
    have hk : min r.2 e ≤ max r.1 b := by
      by_cases hc : min r.2 e ≤ max r.1 b
      · exact hc
      · exact absurd ⟨r, .head _, by lia, by lia⟩ (h (max r.1 b) (by lia) (by lia))
    have f := fillOne_keep hk
    unfold foundF at i1 ⊢
    unfold restF at i2 ⊢
    rw [List.flatMap_cons, List.flatMap_cons, i1, i2, f]
    exact ⟨rfl, rfl⟩
theorem found_one {b e : Int} : ∀ {rows : List (Int × Int)}, Apart rows → b < e → (∀ x, b ≤ x → x < e → InRows rows x) → foundF b e rows = [(b, e)]
  | [], _, hbe, h => by obtain ⟨r, hr, _⟩ := h b (Int.le_refl _) hbe; cases hr
  | r :: rows, ha, hbe, h => by
    have hr0 := ha.1 r (.head _)
    have hp := List.pairwise_cons.mp ha.2
    have hA : Apart rows := ⟨fun s hs => ha.1 s (.tail _ hs), hp.2⟩
    have e0 : foundF b e (r :: rows) = (fillOne b e r).1 ++ foundF b e rows := by unfold foundF; simp
    rw [e0]
    by_cases hb : r.1 ≤ b ∧ b < r.2
    · have he : e ≤ r.2 := by
        by_cases hc : e ≤ r.2
        · exact hc
        · obtain ⟨s, hs, hx⟩ := h r.2 (by lia) (by lia)
          rcases List.mem_cons.mp hs with rfl | hs
          · lia
          · have := hp.1 s hs; lia
      rw [(found_none (rows := rows) hA.1 hbe fun x h1 h2 ⟨s, hs, hx⟩ => by have := hp.1 s hs; lia).1]
      unfold fillOne
      rw [if_neg (by lia)]
      dsimp only
      rw [List.append_nil, show max r.1 b = b by lia, show min r.2 e = e by lia]
    · have hlt : r.2 < b := by
        obtain ⟨s, hs, hx⟩ := h b (Int.le_refl _) hbe
        rcases List.mem_cons.mp hs with rfl | hs
        · lia
        · have := hp.1 s hs; lia
      rw [fillOne_keep (by lia)]
      exact found_one hA hbe fun x h1 h2 => by
        obtain ⟨s, hs, hx⟩ := h x h1 h2
        rcases List.mem_cons.mp hs with rfl | hs
        · lia
        · exact ⟨s, hs, hx⟩
theorem nodup_len {l m : List Nat} (hl : l.Nodup) (hs : ∀ x ∈ l, x ∈ m) : l.length ≤ m.length := by
  induction l generalizing m with
  | nil => exact Nat.zero_le _
  | cons x l ih =>
    obtain ⟨h1, h2⟩ := List.nodup_cons.mp hl
    have hx := hs x (.head _)
    have h3 := ih (m := m.erase x) h2 fun y hy => (List.mem_erase_of_ne (fun e => h1 (by rw [← e]; exact hy))).mpr (hs y (.tail _ hy))
    rw [List.length_erase_of_mem hx] at h3
    have : 0 < m.length := List.length_pos_of_mem hx
    rw [List.length_cons]; lia
theorem nodup_le {l : List Nat} {n : Nat} (hl : l.Nodup) (hs : ∀ x ∈ l, x < n) : l.length ≤ n := by
  have := nodup_len (m := List.range n) hl fun x hx => List.mem_range.mpr (hs x hx)
  rwa [List.length_range] at this
theorem nodup_all {l : List Nat} {n : Nat} (hl : l.Nodup) (hs : ∀ x ∈ l, x < n) (hn : l.length = n) {i : Nat} (hi : i < n) : i ∈ l := by
  by_cases h : i ∈ l
  · exact h
  · have := nodup_le (l := i :: l) (n := n) (List.nodup_cons.mpr ⟨h, hl⟩) fun x hx => (List.mem_cons.mp hx).elim (fun e => e ▸ hi) (hs x)
    rw [List.length_cons] at this; lia
theorem nodup_miss {l : List Nat} {n : Nat} (hn : l.length < n) : ∃ i, i < n ∧ i ∉ l := by
  by_cases h : ∃ i, i < n ∧ i ∉ l
  · exact h
  · have := nodup_len (l := List.range n) (m := l) List.nodup_range fun x hx => by
      by_cases hx' : x ∈ l
      · exact hx'
      · exact absurd ⟨x, List.mem_range.mp hx, hx'⟩ h
    rw [List.length_range] at this; lia
/-- where the pieces begin -/
structure Tiles (o : Nat → Int) (n : Nat) (ms : Int) : Prop where
  zero : o 0 = 0
  lt : ∀ i j, i < j → j ≤ n → o i < o j
  top : o n < ms
  two : 2 ≤ n
  five : n ≤ 5
theorem Tiles.le {o : Nat → Int} {n : Nat} {ms : Int} (T : Tiles o n ms) {i j : Nat} (h : i ≤ j) (hj : j ≤ n) : o i ≤ o j := by
  rcases Nat.lt_or_eq_of_le h with h | rfl
  · exact Int.le_of_lt (T.lt i j h hj)
  · exact Int.le_refl _
theorem Tiles.nonneg {o : Nat → Int} {n : Nat} {ms : Int} (T : Tiles o n ms) {i : Nat} (h : i ≤ n) : 0 ≤ o i := by
  have := T.le (Nat.zero_le i) h
  rwa [T.zero] at this
theorem tile_find {o : Nat → Int} {x : Int} (h0 : o 0 ≤ x) : ∀ {n : Nat}, x < o n → ∃ i, i < n ∧ o i ≤ x ∧ x < o (i + 1)
  | 0, h => by lia
  | n + 1, h => by
    by_cases h1 : x < o n
    · obtain ⟨i, hi, hx⟩ := tile_find h0 h1
      exact ⟨i, by lia, hx⟩
    · exact ⟨n, by lia, by lia, h⟩
theorem Tiles.apart {o : Nat → Int} {n : Nat} {ms : Int} (T : Tiles o n ms) {i j : Nat} (hi : i < n) (hj : j < n) (hij : i ≠ j) {x : Int} (h1 : o i ≤ x) (h2 : x < o (i + 1)) : ¬ (o j ≤ x ∧ x < o (j + 1)) := by
  rcases Nat.lt_or_gt_of_ne hij with h | h
  · have := T.le (i := i + 1) (j := j) h (by lia); lia
  · have := T.le (i := j + 1) (j := i) h (by lia); lia
theorem Tiles.inj {o : Nat → Int} {n : Nat} {ms : Int} (T : Tiles o n ms) {i j : Nat} (hi : i ≤ n) (hj : j ≤ n) (h : o i = o j) : i = j := by
  by_cases e : i = j
  · exact e
  · rcases Nat.lt_or_gt_of_ne e with h' | h'
    · have := T.lt i j h' hj; lia
    · have := T.lt j i h' hi; lia
/-- the datagram d holds the pieces st -/
structure Held (o : Nat → Int) (n : Nat) (ms : Int) (pay : Nat → By) (d : DgS) (st : List Nat) : Prop where
  ap : Apart d.rows
  sem : ∀ x, InRows d.rows x ↔ 0 ≤ x ∧ x < ms ∧ (∀ i ∈ st, ¬ (o i ≤ x ∧ x < o (i + 1))) ∧ (n - 1 ∈ st → x < o n)
  parts : d.parts = st.map fun i => (o i, pay i)
  endO : d.endO = if n - 1 ∈ st then some (o n) else none
  ahead : d.ahead ≤ o (n - 1)
  fst : d.fst.isSome = decide (0 ∈ st)
  size : d.size = (st.map fun i => o (i + 1) - o i).sum
  rl : d.rows.length ≤ 2 ^ (st.length + (if n - 1 ∈ st then 1 else 0))
  nd : st.Nodup
  lt : ∀ i ∈ st, i < n
theorem held0 {o : Nat → Int} {n : Nat} {ms : Int} {pay : Nat → By} (T : Tiles o n ms) : Held o n ms pay (new0 ms) [] := by
  have h1 := T.nonneg (Nat.le_refl n)
  have h2 := T.top
  have h3 := T.nonneg (i := n - 1) (by lia)
  refine ⟨⟨?_, by simp [new0]⟩, fun x => ?_, rfl, rfl, h3, rfl, rfl, by simp [new0], .nil, fun _ h => nomatch h⟩
  · intro r hr
    rw [List.mem_singleton.mp hr]; dsimp only; lia
  · simp [InRows, new0]
theorem pow_two_step {a b k : Nat} (h : a ≤ 2 ^ k) (hb : b ≤ 2 * a) : b ≤ 2 ^ (k + 1) := by rw [Nat.pow_succ]; lia
theorem mem_snoc {l : List Nat} {i j : Nat} : i ∈ l ++ [j] ↔ i ∈ l ∨ i = j := by simp
theorem partsF_one {b e : Int} {p : By} (h : (p.length : Int) = e - b) : partsF b p [(b, e)] = [(b, p)] := by
  unfold partsF
  simp only [List.map_cons, List.map_nil, Int.sub_self, Int.toNat_zero, List.drop_zero, Nat.sub_zero]
  rw [List.take_of_length_le (by lia)]
theorem Held.step {o : Nat → Int} {n : Nat} {ms : Int} {pay : Nat → By} {d : DgS} {st : List Nat} (T : Tiles o n ms) (H : Held o n ms pay d st) {j : Nat} (hj : j < n) {hdr : Hdr} {p : By} {hx : Addr}
    (ho : hdr.off = o j) (hm : hdr.more = decide (j + 1 < n)) (hl : (p.length : Int) = o (j + 1) - o j) (hp : pay j = p) : Held o n ms pay (putS ms hdr p hx d) (if j ∈ st then st else st ++ [j]) := by
  have he : hdr.off + (p.length : Int) = o (j + 1) := by lia
  have hlt := T.lt j (j + 1) (by lia) hj
  have h0 := T.nonneg (i := j) (by lia)
  have htop := T.le (i := j + 1) (j := n) hj (Nat.le_refl _)
  have hms := T.top
  have hf0 : hdr.off = 0 ↔ j = 0 := ⟨fun e => T.inj (by lia) (by lia) (by rw [T.zero]; lia), fun e => by rw [ho, e, T.zero]⟩
  by_cases hjs : j ∈ st
  · rw [if_pos hjs]
    obtain ⟨f1, f2⟩ := found_none (b := o j) (e := o (j + 1)) H.ap.1 hlt fun x h1 h2 hr => ((H.sem x).mp hr).2.2.1 j hjs ⟨h1, h2⟩
    have e1 : putS ms hdr p hx d = { d with ahead := if hdr.more = true then max d.ahead (o (j + 1)) else d.ahead } := by
      unfold putS
      rw [he, ho, f1, f2]
      have hfz : d.fst = none → ¬ o j = 0 := by
        intro hfst e
        have := H.fst
        rw [hfst] at this
        have h0s : 0 ∉ st := by simpa using this.symm
        exact h0s ((hf0.mp (ho.trans e)) ▸ hjs)
      have hen : d.endO = none → hdr.more = true := by
        intro hn
        rw [H.endO] at hn
        by_cases hc : n - 1 ∈ st
        · rw [if_pos hc] at hn; cases hn
        · rw [hm]
          have : j ≠ n - 1 := fun e => hc (e ▸ hjs)
          simp; lia
      cases hfst : d.fst with
      | none =>
        have hz := hfz hfst
        cases hmo : hdr.more with
        | true => simp [partsF, sizeF, hz]
        | false =>
          cases hE : d.endO with
          | none => rw [hen hE] at hmo; cases hmo
          | some v => simp [partsF, sizeF, hz]
      | some a =>
        cases hmo : hdr.more with
        | true => simp [partsF, sizeF]
        | false =>
          cases hE : d.endO with
          | none => rw [hen hE] at hmo; cases hmo
          | some v => simp [partsF, sizeF]
    rw [e1]
    refine ⟨H.ap, H.sem, H.parts, H.endO, ?_, H.fst, H.size, H.rl, H.nd, H.lt⟩
    have ha := H.ahead
    dsimp only
    split
    · rename_i hmt
      rw [hm] at hmt
      have hmt : j + 1 < n := by simpa using hmt
      have := T.le (i := j + 1) (j := n - 1) (by lia) (by lia)
      lia
    · exact ha
  · rw [if_neg hjs]
    have hin : ∀ x, o j ≤ x → x < o (j + 1) → InRows d.rows x := fun x h1 h2 => (H.sem x).mpr ⟨by lia, by lia, fun i hi => T.apart hj (H.lt i hi) (fun e => hjs (e ▸ hi)) h1 h2, fun _ => by lia⟩
    have f1 := found_one H.ap hlt hin
    have hfs : (match d.fst with | none => if o j = 0 then some hx else none | some a => some a).isSome = decide (0 ∈ st ++ [j]) := by
      have h1 := H.fst
      cases hfst : d.fst with
      | none =>
        rw [hfst] at h1
        have h0s : 0 ∉ st := by simpa using h1.symm
        dsimp only
        by_cases hj0 : j = 0
        · rw [if_pos (by rw [hj0, T.zero])]; subst hj0; simp
        · rw [if_neg (fun e => hj0 (hf0.mp (ho ▸ e)))]; simp [h0s]; lia
      | some a =>
        rw [hfst] at h1
        have h0s : 0 ∈ st := by simpa using h1.symm
        simp [h0s]
    have hnd : (st ++ [j]).Nodup := by
      rw [List.nodup_append]
      exact ⟨H.nd, by simp, fun a ha b hb e => by rw [List.mem_singleton.mp hb] at e; exact hjs (e ▸ ha)⟩
    have hltn : ∀ i ∈ st ++ [j], i < n := fun i hi => (mem_snoc.mp hi).elim (H.lt i) fun e => e ▸ hj
    have hsz : d.size + sizeF [(o j, o (j + 1))] = ((st ++ [j]).map fun i => o (i + 1) - o i).sum := by rw [H.size]; simp [sizeF]
    have hpt : d.parts ++ partsF (o j) p [(o j, o (j + 1))] = (st ++ [j]).map fun i => (o i, pay i) := by rw [partsF_one hl, H.parts, List.map_append, ← hp]; rfl
    have hR := H.ap.rest hlt
    have hrl := rest_len (b := o j) (e := o (j + 1)) d.rows
    have hprl := pow_two_step H.rl hrl
    have hsem1 : ∀ x, InRows (restF (o j) (o (j + 1)) d.rows) x ↔ 0 ≤ x ∧ x < ms ∧ (∀ i ∈ st ++ [j], ¬ (o i ≤ x ∧ x < o (i + 1))) ∧ (n - 1 ∈ st → x < o n) := by
      intro x
      rw [inRest H.ap hlt, H.sem]
      constructor
      · rintro ⟨⟨a1, a2, a3, a4⟩, a5⟩
        exact ⟨a1, a2, fun i hi => (mem_snoc.mp hi).elim (a3 i) fun e => e ▸ a5, a4⟩
      · rintro ⟨a1, a2, a3, a4⟩
        exact ⟨⟨a1, a2, fun i hi => a3 i (mem_snoc.mpr (.inl hi)), a4⟩, a3 j (mem_snoc.mpr (.inr rfl))⟩
    have ha := H.ahead
    have e1 : putS ms hdr p hx d = ⟨if hdr.more = true then restF (o j) (o (j + 1)) d.rows else match d.endO with | none => restF (o (j + 1)) ms (restF (o j) (o (j + 1)) d.rows) | some _ => restF (o j) (o (j + 1)) d.rows, (st ++ [j]).map fun i => (o i, pay i), if hdr.more = true then d.endO else match d.endO with | none => some (o (j + 1)) | some x => some x, if hdr.more = true then max d.ahead (o (j + 1)) else d.ahead, match d.fst with | none => if o j = 0 then some hx else none | some a => some a, ((st ++ [j]).map fun i => o (i + 1) - o i).sum⟩ := by
      unfold putS
      rw [he, ho, f1, hpt, hsz]
      all_goals (cases d.fst <;> cases d.endO <;> rfl)
    rw [e1]
    by_cases hjn : j + 1 < n
    · have hmt : hdr.more = true := by rw [hm]; exact decide_eq_true hjn
      rw [if_pos hmt, if_pos hmt, if_pos hmt]
      have hiff : n - 1 ∈ st ++ [j] ↔ n - 1 ∈ st := by rw [mem_snoc]; exact ⟨fun h => h.elim id fun e => absurd e (by lia), .inl⟩
      refine ⟨hR, fun x => by rw [hsem1, hiff], rfl, ?_, ?_, hfs, rfl, ?_, hnd, hltn⟩
      · dsimp only
        rw [H.endO]
        by_cases hc : n - 1 ∈ st
        · rw [if_pos hc, if_pos (hiff.mpr hc)]
        · rw [if_neg hc, if_neg (fun h => hc (hiff.mp h))]
      · have := T.le (i := j + 1) (j := n - 1) (by lia) (by lia)
        dsimp only; lia
      · dsimp only
        rw [List.length_append, List.length_singleton]
        by_cases hc : n - 1 ∈ st
        · rw [if_pos (hiff.mpr hc)]; rw [if_pos hc] at hprl
          rwa [show st.length + 1 + 1 = st.length + 1 + 1 from rfl]
        · rw [if_neg (fun h => hc (hiff.mp h))]; rw [if_neg hc] at hprl
          exact hprl
    · have hjn : j + 1 = n := by lia
      have hmt : ¬ hdr.more = true := by rw [hm]; simp; lia
      have hnj : n - 1 = j := by lia
      have hns : n - 1 ∉ st := hnj ▸ hjs
      have hE : d.endO = none := by rw [H.endO, if_neg hns]
      have hin' : n - 1 ∈ st ++ [j] := mem_snoc.mpr (.inr hnj)
      rw [if_neg hmt, if_neg hmt, if_neg hmt, hE]
      have hlt2 : o (j + 1) < ms := by rw [hjn]; exact hms
      have hrl2 := rest_len (b := o (j + 1)) (e := ms) (restF (o j) (o (j + 1)) d.rows)
      refine ⟨hR.rest hlt2, fun x => ?_, rfl, ?_, ha, hfs, rfl, ?_, hnd, hltn⟩
      · dsimp only
        rw [inRest hR hlt2, hsem1, hjn]
        constructor
        · rintro ⟨⟨a1, a2, a3, a4⟩, a5⟩
          exact ⟨a1, a2, a3, fun _ => by lia⟩
        · rintro ⟨a1, a2, a3, a4⟩
          have := a4 hin'
          exact ⟨⟨a1, a2, a3, fun h => absurd h hns⟩, by lia⟩
      · dsimp only
        rw [if_pos hin', hjn]
      · dsimp only
        rw [List.length_append, List.length_singleton, if_pos hin']
        rw [if_neg hns] at hprl
        exact pow_two_step hprl hrl2
theorem Held.len {o : Nat → Int} {n : Nat} {ms : Int} {pay : Nat → By} {d : DgS} {st : List Nat} (H : Held o n ms pay d st) : st.length ≤ n := nodup_le H.nd H.lt
theorem Held.short {o : Nat → Int} {n : Nat} {ms : Int} {pay : Nat → By} {d : DgS} {st : List Nat} (T : Tiles o n ms) (H : Held o n ms pay d st) : d.rows.length ≤ 64 := by
  have h1 := H.rl; have h2 := H.len; have h3 := T.five
  have : (2 : Nat) ^ (st.length + if n - 1 ∈ st then 1 else 0) ≤ 2 ^ 6 := Nat.pow_le_pow_right (by decide) (by split <;> lia)
  lia
theorem sum_le {o : Nat → Int} {n : Nat} {c : Int} : ∀ {st : List Nat}, (∀ i ∈ st, o (i + 1) - o i ≤ c) → (st.map fun i => o (i + 1) - o i).sum ≤ st.length * c
  | [], _ => by simp
  | i :: st, h => by
    have := sum_le (n := n) (c := c) (st := st) fun k hk => h k (.tail _ hk)
    have h0 := h i (.head _)
    rw [List.map_cons, List.sum_cons, List.length_cons, Int.natCast_add, Int.add_mul]
    lia
theorem Held.small {o : Nat → Int} {n : Nat} {ms : Int} {pay : Nat → By} {d : DgS} {st : List Nat} (T : Tiles o n ms) (H : Held o n ms pay d st) (hc : o n ≤ 40) : d.size ≤ 200 := by
  rw [H.size]
  have := sum_le (o := o) (n := n) (c := 40) (st := st) fun i hi => by
    have h1 := T.nonneg (i := i) (Nat.le_of_lt (H.lt i hi)); have h2 := T.le (i := i + 1) (j := n) (H.lt i hi) (Nat.le_refl _)
    lia
  have h2 := H.len; have h3 := T.five
  lia
/-- what put asks of the piece j -/
theorem Held.may {o : Nat → Int} {n : Nat} {ms : Int} {pay : Nat → By} {d : DgS} {st : List Nat} (T : Tiles o n ms) (H : Held o n ms pay d st) {j : Nat} (hj : j < n) {hdr : Hdr} {p : By}
    (ho : hdr.off = o j) (hm : hdr.more = decide (j + 1 < n)) (hl : (p.length : Int) = o (j + 1) - o j) :
    ∃ lo, (hdr.more = false → d.endO = none → ∃ r0 : List (Int × Int), d.rows = r0 ++ [(lo, ms)] ∧ r0.length ≤ 1000) ∧ agF d.endO d.ahead lo (hdr.off + p.length) hdr.more = false := by
  have he : hdr.off + (p.length : Int) = o (j + 1) := by lia
  have ha := H.ahead
  rw [he]
  have hms := T.top
  have hn1 := T.lt (n - 1) n (by have := T.two; lia) (Nat.le_refl _)
  by_cases hjn : j + 1 < n
  · have hmt : hdr.more = true := by rw [hm]; exact decide_eq_true hjn
    refine ⟨0, (fun h => by rw [hmt] at h; cases h), ?_⟩
    rw [hmt, H.endO]
    have := T.lt (j + 1) n hjn (Nat.le_refl _)
    split <;> simp [agF]; lia
  · have hjn : j + 1 = n := by lia
    have hmt : hdr.more = false := by rw [hm]; simp; lia
    rw [hmt, hjn]
    by_cases hc : n - 1 ∈ st
    · refine ⟨0, (fun _ h => by rw [H.endO, if_pos hc] at h; cases h), ?_⟩
      rw [H.endO, if_pos hc]; simp [agF]
    · have hE : d.endO = none := by rw [H.endO, if_neg hc]
      have h0 := T.nonneg (Nat.le_refl n)
      have hin : ∀ x, o (n - 1) ≤ x → x < ms → InRows d.rows x := fun x h1 h2 => (H.sem x).mpr ⟨by have := T.nonneg (i := n - 1) (by lia); lia, h2, fun i hi hx => by
        have hin : i < n - 1 := by
          have := H.lt i hi
          have : i ≠ n - 1 := fun e => hc (e ▸ hi)
          lia
        have := T.le (i := i + 1) (j := n - 1) hin (by lia)
        lia, fun h => absurd h hc⟩
      have hne : d.rows ≠ [] := by
        obtain ⟨r, hr, _⟩ := hin (o (n - 1)) (Int.le_refl _) (by lia)
        exact List.ne_nil_of_mem hr
      obtain ⟨r0, ⟨lo, hi⟩, hrows⟩ : ∃ r0 r, d.rows = r0 ++ [r] := ⟨d.rows.dropLast, d.rows.getLast hne, (List.dropLast_concat_getLast hne).symm⟩
      have hlast : (lo, hi) ∈ d.rows := by rw [hrows]; simp
      have hpw := H.ap.2
      rw [hrows, List.pairwise_append] at hpw
      have hlt := H.ap.1 _ hlast
      dsimp only at hlt
      have hhi : hi = ms := by
        obtain ⟨r, hr, hx⟩ := hin (ms - 1) (by lia) (by lia)
        have hle : hi ≤ ms := by
          have := ((H.sem (hi - 1)).mp ⟨_, hlast, by dsimp only; lia, by dsimp only; lia⟩).2.1
          lia
        rw [hrows] at hr
        rcases List.mem_append.mp hr with h | h
        · have := hpw.2.2 r h _ (List.mem_singleton.mpr rfl)
          dsimp only at this; lia
        · rw [List.mem_singleton.mp h] at hx; dsimp only at hx; lia
      have hlo : lo < o n := by
        obtain ⟨r, hr, hx⟩ := hin (o n - 1) (by lia) (by lia)
        rw [hrows] at hr
        rcases List.mem_append.mp hr with h | h
        · have hr2 := hpw.2.2 r h _ (List.mem_singleton.mpr rfl)
          dsimp only at hr2
          obtain ⟨s, hs, hsx⟩ := hin r.2 (by lia) (by lia)
          have hrr : r ∈ d.rows := by rw [hrows]; exact List.mem_append_left _ h
          rcases Decidable.em (s = r) with rfl | hsr
          · lia
          · have hp2 := H.ap.2
            obtain ⟨i, hi', hri⟩ := List.getElem_of_mem hrr
            obtain ⟨k, hk', hsk⟩ := List.getElem_of_mem hs
            rcases Nat.lt_trichotomy i k with h3 | h3 | h3
            · have := (List.pairwise_iff_getElem.mp hp2) i k hi' hk' h3
              rw [hri, hsk] at this; lia
            · subst h3; rw [hri] at hsk; exact absurd hsk.symm hsr
            · have := (List.pairwise_iff_getElem.mp hp2) k i hk' hi' h3
              rw [hri, hsk] at this; lia
        · rw [List.mem_singleton.mp h] at hx; dsimp only at hx; lia
      have hs := H.short T
      refine ⟨lo, fun _ _ => ⟨r0, by rw [hrows, hhi], ?_⟩, ?_⟩
      · rw [hrows, List.length_append] at hs; lia
      · rw [hE]; simp [agF]; lia
theorem Held.whole {o : Nat → Int} {n : Nat} {ms : Int} {pay : Nat → By} {d : DgS} {st : List Nat} (T : Tiles o n ms) (H : Held o n ms pay d st) :
    (d.endO.isSome && d.fst.isSome && decide (d.rows = [])) = decide (st.length = n) := by
  have h2 := T.two
  by_cases hn : st.length = n
  · have hall := fun i hi => nodup_all H.nd H.lt hn (i := i) hi
    have hr : d.rows = [] := by
      cases hrw : d.rows with
      | nil => rfl
      | cons r rs =>
        have hrm : r ∈ d.rows := by rw [hrw]; exact .head _
        obtain ⟨a1, a2, a3, a4⟩ := (H.sem r.1).mp ⟨r, hrm, Int.le_refl _, H.ap.1 r hrm⟩
        obtain ⟨i, hi, hx⟩ := tile_find (o := o) (x := r.1) (by rw [T.zero]; exact a1) (a4 (hall _ (by lia)))
        exact absurd hx (a3 i (hall i hi))
    rw [H.endO, if_pos (hall _ (by lia)), H.fst, decide_eq_true (hall 0 (by lia)), decide_eq_true hr, decide_eq_true hn]; rfl
  · have hl := H.len
    obtain ⟨i, hi, his⟩ := nodup_miss (l := st) (n := n) (by lia)
    have : InRows d.rows (o i) := (H.sem _).mpr ⟨T.nonneg (by lia), by have := T.lt i n hi (Nat.le_refl _); have := T.top; lia, fun k hk => T.apart hi (H.lt k hk) (fun e => his (e ▸ hk)) (Int.le_refl _) (T.lt i (i + 1) (by lia) hi), fun _ => T.lt i n hi (Nat.le_refl _)⟩
    obtain ⟨r, hr, _⟩ := this
    rw [decide_eq_false hn, decide_eq_false (List.ne_nil_of_mem hr), Bool.and_false]
/-- the places in the order of their keys -/
noncomputable def laidIdx (st : List Nat) : List Nat := (runK (fun i j => decide (st.getD i 0 < st.getD j 0)) (kas_sort st.length)).toList
noncomputable def laidOk (st : List Nat) : Bool := (laidIdx st).all (· < st.length) && decide ((laidIdx st).length ≤ 5) && decide ((laidIdx st).map (fun i => st.getD i 0) = List.range st.length)
theorem allR {n a : Nat} {f : Nat → Bool} (h : (List.range n).all f = true) (ha : a < n) : f a = true := List.all_eq_true.mp h a (List.mem_range.mpr ha)
theorem orNe {a b : Nat} {q : Bool} (h : (a == b || q) = true) (hne : ¬ b = a) : q = true := by
  rw [Bool.or_eq_true] at h
  exact h.resolve_left fun e => hne (eq_of_beq e).symm
theorem laid2 : ((List.range 2).all fun a => (List.range 2).all fun b => b == a || laidOk [a, b]) = true := by decide +kernel
theorem laid3 : ((List.range 3).all fun a => (List.range 3).all fun b => b == a || (List.range 3).all fun c => c == a || (c == b || laidOk [a, b, c])) = true := by decide +kernel
theorem laid4 : ((List.range 4).all fun a => (List.range 4).all fun b => b == a || (List.range 4).all fun c => c == a || (c == b || (List.range 4).all fun d => d == a || (d == b || (d == c || laidOk [a, b, c, d])))) = true := by decide +kernel
theorem laid5 : ((List.range 5).all fun a => (List.range 5).all fun b => b == a || (List.range 5).all fun c => c == a || (c == b || (List.range 5).all fun d => d == a || (d == b || (d == c || (List.range 5).all fun e => e == a || (e == b || (e == c || (e == d || laidOk [a, b, c, d, e]))))))) = true := by decide +kernel
theorem laidN {st : List Nat} (hn : st.Nodup) (hl : ∀ i ∈ st, i < st.length) (h2 : 2 ≤ st.length) (h5 : st.length ≤ 5) : laidOk st = true := by
  match st, hn, hl, h2, h5 with
  | [a, b], hn, hl, _, _ =>
    have ha := hl a (by simp); have hb := hl b (by simp)
    simp only [List.nodup_cons, List.mem_cons, List.not_mem_nil, or_false, not_or] at hn
    exact orNe (allR (allR laid2 ha) hb) hn.1
  | [a, b, c], hn, hl, _, _ =>
    have ha := hl a (by simp); have hb := hl b (by simp); have hc := hl c (by simp)
    simp only [List.nodup_cons, List.mem_cons, List.not_mem_nil, or_false, not_or] at hn
    exact orNe (orNe (allR (orNe (allR (allR laid3 ha) hb) hn.1.1) hc) hn.1.2) hn.2.1
  | [a, b, c, d], hn, hl, _, _ =>
    have ha := hl a (by simp); have hb := hl b (by simp); have hc := hl c (by simp); have hd := hl d (by simp)
    simp only [List.nodup_cons, List.mem_cons, List.not_mem_nil, or_false, not_or] at hn
    exact orNe (orNe (orNe (allR (orNe (orNe (allR (orNe (allR (allR laid4 ha) hb) hn.1.1) hc) hn.1.2.1) hn.2.1.1) hd) hn.1.2.2) hn.2.1.2) hn.2.2.1
  | [a, b, c, d, e], hn, hl, _, _ =>
    have ha := hl a (by simp); have hb := hl b (by simp); have hc := hl c (by simp); have hd := hl d (by simp); have he := hl e (by simp)
    simp only [List.nodup_cons, List.mem_cons, List.not_mem_nil, or_false, not_or] at hn
    exact orNe (orNe (orNe (orNe (allR (orNe (orNe (orNe (allR (orNe (orNe (allR (orNe (allR (allR laid5 ha) hb) hn.1.1) hc) hn.1.2.1) hn.2.1.1) hd) hn.1.2.2.1) hn.2.1.2.1) hn.2.2.1.1) he) hn.1.2.2.2) hn.2.1.2.2) hn.2.2.1.2) hn.2.2.2.1
  | _ :: _ :: _ :: _ :: _ :: _ :: _, _, _, _, h5 => simp at h5
theorem Held.idx {o : Nat → Int} {n : Nat} {ms : Int} {pay : Nat → By} {d : DgS} {st : List Nat} (T : Tiles o n ms) (H : Held o n ms pay d st) (hn : st.length = n) :
    IsIdx d.parts (laidIdx st) ∧ laidBy (laidIdx st) d.parts = (List.range n).map pay ∧ d.parts.length = n := by
  have h2 := T.two; have h5 := T.five
  have hok := laidN H.nd (fun i hi => by rw [hn]; exact H.lt i hi) (by lia) (by lia)
  unfold laidOk at hok
  simp only [Bool.and_eq_true, List.all_eq_true, decide_eq_true_eq] at hok
  obtain ⟨⟨k1, k2⟩, k3⟩ := hok
  have hfst : d.parts.map (·.1) = st.map o := by rw [H.parts, List.map_map]; rfl
  have hpl : d.parts.length = n := by rw [H.parts, List.length_map, hn]
  refine ⟨⟨?_, fun i hi => by rw [hpl, ← hn]; exact k1 i hi, k2, ?_⟩, ?_, hpl⟩
  · rw [hfst]
    unfold sortIdx laidIdx
    rw [List.length_map, if_neg (by lia)]
    congr 1
    refine runK_congr (n := st.length) (fun i j hij hi hj => ?_) _ (okN (by lia) (by lia))
    have gi : (st.map o).getD i 0 = o st[i] := by simp [hi]
    have gj : (st.map o).getD j 0 = o st[j] := by simp [hj]
    have gi' : st.getD i 0 = st[i] := by simp [hi]
    have gj' : st.getD j 0 = st[j] := by simp [hj]
    have li := H.lt _ (List.getElem_mem hi); have lj := H.lt _ (List.getElem_mem hj)
    rw [gi, gj, gi', gj']
    by_cases hlt : st[i] < st[j]
    · rw [decide_eq_true hlt, decide_eq_true (T.lt _ _ hlt (by lia))]
    · rw [decide_eq_false hlt, decide_eq_false]
      have := T.le (i := st[j]) (j := st[i]) (by lia) (by lia)
      lia
  · rw [hfst]
    refine List.Pairwise.map _ (fun a b h => h) ?_
    refine List.Pairwise.imp_of_mem ?_ H.nd
    intro a b ha hb hab e
    exact hab (T.inj (Nat.le_of_lt (H.lt a ha)) (Nat.le_of_lt (H.lt b hb)) e)
  · unfold laidBy
    rw [← hn, ← k3, List.map_map]
    refine List.map_congr_left fun i hi => ?_
    have hi' := k1 i hi
    rw [H.parts]
    simp [hi']
/-- the pieces of a datagram lie side by side -/
noncomputable def payP (P : List (Hdr × By)) (j : Nat) : By := (P.map (·.2)).getD j []
theorem Seg.tiles {BH : Hdr} {W : By} {P : List (Hdr × By)} (hs : Seg BH W 0 W.length false P) (H : Base BH W) (h2 : 2 ≤ P.length) : Tiles (offN 0 P) P.length 500 ∧ offN 0 P P.length = W.length := by
  have hf := hs.flat
  have hend : offN 0 P P.length = W.length := by
    unfold offN
    rw [List.take_length, Int.zero_add]
    have h1 : ∀ L : List (Hdr × By), (L.map fun x => (x.2.length : Int)).sum = (((L.map (·.2)).flatten.length : Nat) : Int) := by
      intro L
      induction L with
      | nil => rfl
      | cons x L ih => rw [List.map_cons, List.sum_cons, ih, List.map_cons, List.flatten_cons, List.length_append]; lia
    rw [h1, hf.2.2.2]; simp
  have step : ∀ i, i < P.length → offN 0 P i < offN 0 P (i + 1) := by
    intro i hi
    have hx := List.getElem?_eq_getElem hi
    have p := hs.nth hx
    rcases p.ne with h | h
    · exact h
    · have p0 := hs.nth (i := 0) (List.getElem?_eq_getElem (by lia))
      rw [if_pos (by lia)] at p0
      have := (p0.mm rfl).2; have := p0.bW; have := p0.a0
      lia
  refine ⟨⟨offN_zero 0 P, fun i j hij hj => ?_, by rw [hend]; have := H.len; lia, h2, hs.five H.len⟩, hend⟩
  induction j with
  | zero => lia
  | succ j ih =>
    have := step j (by lia)
    rcases Nat.lt_or_eq_of_le (Nat.le_of_lt_succ hij) with h | rfl
    · have := ih h (by lia); lia
    · exact this
theorem Seg.piece {BH : Hdr} {W : By} {P : List (Hdr × By)} (hs : Seg BH W 0 W.length false P) {j : Nat} {x : Hdr × By} (hx : P[j]? = some x) :
    x.1.off = offN 0 P j ∧ x.1.more = decide (j + 1 < P.length) ∧ (x.2.length : Int) = offN 0 P (j + 1) - offN 0 P j ∧ payP P j = x.2 ∧ keyF x.1 = keyF BH := by
  have p := hs.nth hx
  refine ⟨by rw [p.hdr], ?_, p.len, ?_, by rw [p.hdr]; rfl⟩
  · rw [p.hdr]; dsimp only; split <;> simp [*]
  · unfold payP; rw [List.getD_eq_getElem?_getD, List.getElem?_map, hx]; rfl
theorem payP_all (P : List (Hdr × By)) : (List.range P.length).map (payP P) = P.map (·.2) := by
  apply List.ext_getElem
  · simp
  · intro i h1 h2
    simp at h1
    simp [payP, h1]
theorem Seg.joined {BH : Hdr} {W : By} {P : List (Hdr × By)} (hs : Seg BH W 0 W.length false P) : ((List.range P.length).map (payP P)).flatten = W := by
  rw [payP_all, hs.flat.2.2.2]; simp
/-- what the law asks of the told list: the pieces come as js -/
noncomputable def stepSt (n : Nat) (st : List Nat) (j : Nat) : List Nat := if j ∈ st then st else if st.length + 1 = n then [] else st ++ [j]
noncomputable def outB (n : Nat) (st : List Nat) (j : Nat) : Bool := decide (j ∉ st ∧ st.length + 1 = n)
noncomputable def stF (n : Nat) (js : List Nat) : List Nat := js.foldl (stepSt n) []
noncomputable def toldB (n : Nat) (js : List Nat) (i : Nat) : Bool := outB n (stF n (js.take i)) (js.getD i 0)
noncomputable def seenF (js : List Nat) : List Nat := js.foldl (fun s j => if j ∈ s then s else s ++ [j]) []
theorem stF_succ {n : Nat} {js : List Nat} {i j : Nat} (h : js[i]? = some j) : stF n (js.take (i + 1)) = stepSt n (stF n (js.take i)) j := by
  unfold stF; rw [List.take_add_one, h, List.foldl_append]; rfl
theorem seenF_succ {js : List Nat} {i j : Nat} (h : js[i]? = some j) : seenF (js.take (i + 1)) = if j ∈ seenF (js.take i) then seenF (js.take i) else seenF (js.take i) ++ [j] := by
  unfold seenF; rw [List.take_add_one, h, List.foldl_append]; rfl
theorem stF_prop {n : Nat} (js : List Nat) (hl : ∀ j ∈ js, j < n) : (stF n js).Nodup ∧ ∀ j ∈ stF n js, j < n := by
  unfold stF
  have key : ∀ (l st : List Nat), (∀ j ∈ l, j < n) → st.Nodup → (∀ j ∈ st, j < n) → (l.foldl (stepSt n) st).Nodup ∧ ∀ j ∈ l.foldl (stepSt n) st, j < n := by
    intro l
    induction l with
    | nil => intro st _ h1 h2; exact ⟨h1, h2⟩
    | cons j l ih =>
      intro st hl h1 h2
      refine ih _ (fun k hk => hl k (.tail _ hk)) ?_ ?_
      · unfold stepSt
        split
        · exact h1
        · split
          · exact .nil
          · rename_i hj _
            rw [List.nodup_append]
            exact ⟨h1, by simp, fun a ha b hb e => by rw [List.mem_singleton.mp hb] at e; exact hj (e ▸ ha)⟩
      · unfold stepSt
        split
        · exact h2
        · split
          · intro _ h; cases h
          · intro k hk
            exact (mem_snoc.mp hk).elim (h2 k) fun e => e ▸ hl j (.head _)
  exact key js [] hl .nil fun _ h => nomatch h
theorem seenF_prop (js : List Nat) : (seenF js).Nodup ∧ ∀ j, j ∈ seenF js ↔ j ∈ js := by
  unfold seenF
  have key : ∀ (l st : List Nat), st.Nodup → (l.foldl (fun s j => if j ∈ s then s else s ++ [j]) st).Nodup ∧ ∀ j, j ∈ l.foldl (fun s j => if j ∈ s then s else s ++ [j]) st ↔ j ∈ st ∨ j ∈ l := by
    intro l
    induction l with
    | nil => intro st h1; exact ⟨h1, fun j => by simp⟩
    | cons j l ih =>
      intro st h1
      have h2 : (if j ∈ st then st else st ++ [j]).Nodup := by
        split
        · exact h1
        · rename_i hj
          rw [List.nodup_append]
          exact ⟨h1, by simp, fun a ha b hb e => by rw [List.mem_singleton.mp hb] at e; exact hj (e ▸ ha)⟩
      obtain ⟨i1, i2⟩ := ih _ h2
      refine ⟨i1, fun k => ?_⟩
      rw [List.foldl_cons, i2]
      split
      · rename_i hj
        simp only [List.mem_cons]
        constructor
        · rintro (h | h)
          · exact .inl h
          · exact .inr (.inr h)
        · rintro (h | rfl | h)
          · exact .inl h
          · exact .inl hj
          · exact .inr h
      · simp only [List.mem_append, List.mem_cons, List.not_mem_nil, or_false]
        exact or_assoc
  obtain ⟨h1, h2⟩ := key js [] .nil
  exact ⟨h1, fun j => by rw [h2]; simp⟩
theorem seen_len (js : List Nat) {i : Nat} : (seenF (js.take i)).length ≤ i := by
  have := nodup_len (seenF_prop (js.take i)).1 (m := js.take i) fun x hx => ((seenF_prop _).2 x).mp hx
  rw [List.length_take] at this; lia
theorem seen_le {n : Nat} {js : List Nat} (hl : ∀ j ∈ js, j < n) (i : Nat) : (seenF (js.take i)).length ≤ n :=
  nodup_le (seenF_prop _).1 fun x hx => hl x (List.mem_of_mem_take (((seenF_prop _).2 x).mp hx))
theorem st_seen {n : Nat} {js : List Nat} : ∀ {i : Nat}, i ≤ js.length → (seenF (js.take i)).length < n → stF n (js.take i) = seenF (js.take i)
  | 0, _, _ => rfl
  | i + 1, hi, h => by
    have hx := List.getElem?_eq_getElem (l := js) (i := i) (by lia)
    rw [stF_succ hx]
    rw [seenF_succ hx] at h ⊢
    by_cases hj : js[i] ∈ seenF (js.take i)
    · rw [if_pos hj] at h ⊢
      rw [st_seen (by lia) h]
      unfold stepSt; rw [if_pos hj]
    · rw [if_neg hj] at h ⊢
      rw [List.length_append, List.length_singleton] at h
      rw [st_seen (by lia) (by lia)]
      unfold stepSt; rw [if_neg hj, if_neg (by lia)]
theorem told_before {n : Nat} {js : List Nat} {i : Nat} (hi : i < js.length) (h : (seenF (js.take (i + 1))).length < n) : toldB n js i = false := by
  have hx := List.getElem?_eq_getElem hi
  have hj : js.getD i 0 = js[i] := by simp [hi]
  have h0 := h
  rw [seenF_succ hx] at h0
  unfold toldB outB
  rw [hj]
  refine decide_eq_false fun ⟨a, b⟩ => ?_
  by_cases hm : js[i] ∈ seenF (js.take i)
  · rw [if_pos hm] at h0
    rw [st_seen (Nat.le_of_lt hi) h0] at a
    exact a hm
  · rw [if_neg hm, List.length_append, List.length_singleton] at h0
    rw [st_seen (Nat.le_of_lt hi) (by lia)] at b
    lia
theorem told_last {n : Nat} {js : List Nat} (hl : ∀ j ∈ js, j < n) {i : Nat} (hi : i < js.length) (hm : js[i] ∉ js.take i) (h : ¬ (seenF (js.take (i + 1))).length < n) : toldB n js i = true := by
  have hx := List.getElem?_eq_getElem hi
  have hj : js.getD i 0 = js[i] := by simp [hi]
  have hm2 : js[i] ∉ seenF (js.take i) := fun h => hm (((seenF_prop _).2 _).mp h)
  have h1 := seen_le hl (i + 1)
  rw [seenF_succ hx, if_neg hm2, List.length_append, List.length_singleton] at h h1
  unfold toldB outB
  rw [hj, st_seen (Nat.le_of_lt hi) (by lia)]
  exact decide_eq_true ⟨hm2, by lia⟩
theorem told_again {n : Nat} {js : List Nat} (h2 : 2 ≤ n) (hz : js.length ≤ n + 1) {i : Nat} (hi : i < js.length) (hm : js[i] ∈ js.take i) (h : (seenF (js.take (i + 1))).length = n) : toldB n js i = false := by
  have hx := List.getElem?_eq_getElem hi
  have hj : js.getD i 0 = js[i] := by simp [hi]
  have hm2 : js[i] ∈ seenF (js.take i) := ((seenF_prop _).2 _).mpr hm
  rw [seenF_succ hx, if_pos hm2] at h
  have h3 := seen_len js (i := i)
  obtain rfl : i = n := by lia
  have hk : i - 1 < js.length := by lia
  have hx1 := List.getElem?_eq_getElem hk
  have e1 : i - 1 + 1 = i := by lia
  have s1 := seenF_succ hx1
  rw [e1] at s1
  have h4 := seen_len js (i := i - 1)
  have hnm : js[i - 1] ∉ seenF (js.take (i - 1)) := fun hc => by rw [if_pos hc] at s1; rw [s1] at h; lia
  rw [if_neg hnm] at s1
  have h5 := h
  rw [s1, List.length_append, List.length_singleton] at h5
  have t1 := stF_succ (n := i) hx1
  rw [e1, st_seen (Nat.le_of_lt hk) (by lia)] at t1
  unfold stepSt at t1
  rw [if_neg hnm, if_pos h5] at t1
  unfold toldB outB
  rw [hj, t1]
  refine decide_eq_false fun ⟨_, b⟩ => ?_
  simp at b; lia
theorem told_lacks {n : Nat} {js : List Nat} (hl : ∀ j ∈ js, j < n) {k : Nat} (hk : k < n) (hkj : k ∉ js) {i : Nat} (hi : i < js.length) : toldB n js i = false := by
  refine told_before hi ?_
  have h1 := (seenF_prop (js.take (i + 1)))
  have := nodup_le (l := k :: seenF (js.take (i + 1))) (n := n) (List.nodup_cons.mpr ⟨fun h => hkj (List.mem_of_mem_take ((h1.2 k).mp h)), h1.1⟩) fun x hx => (List.mem_cons.mp hx).elim (fun e => e ▸ hk) fun h => hl x (List.mem_of_mem_take ((h1.2 x).mp h))
  rw [List.length_cons] at this; lia
theorem pk_inj {BH : Hdr} {W : By} {P : List (Hdr × By)} (hs : Seg BH W 0 W.length false P) (H : Base BH W) {i j : Nat} {x y : Hdr × By} (hx : P[i]? = some x) (hy : P[j]? = some y) (h : pk x = pk y) : i = j := by
  have px := hs.nth hx; have py := hs.nth hy
  have e1 := (px.good H).readOff; have e2 := (py.good H).readOff
  unfold pk at h
  rw [h, e2] at e1
  have e3 : x.1.off = y.1.off := e1.symm
  rw [px.hdr, py.hdr] at e3
  have e3 : offN 0 P i = offN 0 P j := e3
  by_cases hn : 2 ≤ P.length
  · have T := (hs.tiles H hn).1
    have hi := (List.getElem?_eq_some_iff.mp hx).1; have hj := (List.getElem?_eq_some_iff.mp hy).1
    exact T.inj (Nat.le_of_lt hi) (Nat.le_of_lt hj) e3
  · have hi := (List.getElem?_eq_some_iff.mp hx).1; have hj := (List.getElem?_eq_some_iff.mp hy).1
    lia

/-- a ledger may be told anew -/
inductive Re (w : World) (n : ALed) (K : ALed → Prop) : Prop
  | mk (n2 : ALed) : (∀ (c : Cx) (m : Vars) (s : Shared), Frm w c m n s → Frm w c m n2 s) → K n2 → Re w n K
theorem CallK.re {w : World} {d : Nat} {n : ALed} {fv : Value} {as : List AV} {R : AV → ALed → Prop} (h : CallK w d n fv as fun a n' => Re w n' (R a)) : CallK w d n fv as R :=
  fun c sc ok m vs hv s Q E F q => h c sc ok m vs hv s Q E F fun v m1 n1 h1 tk1 ⟨e1, a, ha, ⟨n2, hF, hR⟩⟩ F1 => q v m1 n2 h1 tk1 ⟨e1, a, ha, hR⟩ (hF _ _ _ F1)
/-- the head of what is put together -/
noncomputable def wholeH (BH : Hdr) : Hdr := { BH with more := false, off := 0 }
/-- what a call of put hands back -/
noncomputable def ToldAt (hW : Hdr) (W : By) (n : ALed) (r : AV) (b : Bool) : Prop :=
  (b = false → r = .none) ∧ (b = true → ∃ T X, r = .ref T ∧ (T, .tup [.ref X, .bytes W]) ∈ n ∧ (X, hdrO hW) ∈ n)
/-- what waits behind some pieces -/
inductive WaitSt (w : World) (DW : Addr) (BH : Hdr) (P : List (Hdr × By)) (rest : ALed) : List Nat → ALed → Prop
  | no (o : Obj) : WD PR w o [] → WaitSt w DW BH P rest [] [(DW, .raw o)]
  | yes (st : List Nat) (dyn : ALed) (d : DgS) : st ≠ [] → st.length < P.length → Waits w DW 500 (keyF BH) d rest dyn → Held (offN 0 P) P.length 500 (payP P) d st → (∀ a, d.fst = some a → (a, hdrO { BH with off := 0, more := true }) ∈ rest) → WaitSt w DW BH P rest st dyn
theorem rput_any {w : World} {RR DW hx : Addr} {now : Int} {BH : Hdr} {W : By} {P : List (Hdr × By)} (hs : Seg BH W 0 W.length false P) (H : Base BH W) {j : Nat} {x : Hdr × By} (hj : P[j]? = some x) {st : List Nat} {dyn rest : ALed}
   (hR : (RR, raO 50 500 500 DW) ∈ rest) (hlo : (DW == sysModules) = false) (hh : (hx, hdrO x.1) ∈ rest) (hW : WaitSt w DW BH P rest st dyn) {C : AV → ALed → Prop}
   (hP : ∀ r dyn' rest', rest <:+ rest' → WaitSt w DW BH P rest' (stepSt P.length st j) dyn' → ToldAt (wholeH BH) W rest' r (outB P.length st j) → C r (dyn' ++ rest')) :
   CallK w 6 (dyn ++ rest) (.ref 464) [.ref RR, .ref hx, .bytes x.2, .int now] C := by
  obtain ⟨q1, q2, q3, q4, q5⟩ := hs.piece hj
  have hjn : j < P.length := (List.getElem?_eq_some_iff.mp hj).1
  have hpc := hs.nth hj
  have hoff0 := hpc.a0
  have hWl := H.len
  have hbW := hpc.bW
  have hpl := hpc.len
  have hoff8 := hpc.a8
  by_cases hone : P.length = 1
  · -- not cut
    obtain rfl : j = 0 := by lia
    rw [offN_zero] at q1
    have hm : x.1.more = false := by rw [q2]; simp; lia
    have hxW : x.1 = wholeH BH := by
      rw [hpc.hdr, offN_zero, if_neg (by lia)]; rfl
    have hpW : x.2 = W := by
      have h1 := hs.joined
      rw [hone] at h1
      have h2 : (List.range 1).map (payP P) = [payP P 0] := rfl
      rw [h2, q4] at h1
      simpa using h1
    rcases hW with ⟨o, hWD⟩ | ⟨_, _, d, hne, hlt⟩
    · refine CallK.re (CallK.le (rput_single (List.mem_append_right _ hh) q1 hm fun T => .mk ([(DW, .raw o)] ++ (T, .tup [.ref hx, .bytes x.2]) :: rest) (fun _ _ _ F => F.front (.tail .head)) (hP (.ref T) [(DW, .raw o)] ((T, .tup [.ref hx, .bytes x.2]) :: rest) (List.suffix_append [_] rest) ?_ ⟨?_, fun _ => ⟨T, hx, rfl, by rw [hpW]; exact .head _, by rw [← hxW]; exact .tail _ hh⟩⟩)) (Eq.refl true))
      · have e : stepSt P.length [] 0 = [] := by unfold stepSt; rw [if_neg (by simp), if_pos (by simp; lia)]
        rw [e]
        exact .no o hWD
      · intro h; unfold outB at h; simp at h; lia
    · have := List.length_pos_iff.mpr hne; lia
  · have h2 : 2 ≤ P.length := by lia
    obtain ⟨T, hend⟩ := hs.tiles H h2
    have hfr : x.1.off = 0 → x.1.more = true := by
      intro h
      rw [q1] at h
      have : j = 0 := T.inj (Nat.le_of_lt hjn) (by lia) (by rw [h, T.zero])
      rw [q2]; simp; lia
    have hstep := T.lt j (j + 1) (by lia) hjn
    have hbad : x.1.more = true → 0 < x.2.length ∧ x.2.length % 8 = 0 := by
      intro h
      rw [q2] at h
      have h : j + 1 < P.length := by simpa using h
      rw [if_pos h] at hpc
      have := hpc.mm rfl
      lia
    have hF0 : x.1.off = 0 → x.1 = { BH with off := 0, more := true } := by
      intro h
      have hmo := hfr h
      have ha : offN 0 P j = 0 := by rw [← q1]; exact h
      have h' := hpc.hdr
      rw [ha] at h'
      rw [h'] at hmo ⊢
      dsimp only at hmo
      rw [hmo]; rfl
    -- one statement for both: nothing waits, or something does
    obtain ⟨d, hS, hHeld, hfst, hlen⟩ : ∃ d, Stt w DW 500 (keyF x.1) rest d dyn ∧ Held (offN 0 P) P.length 500 (payP P) d st ∧ (∀ a, d.fst = some a → (a, hdrO { BH with off := 0, more := true }) ∈ rest) ∧ st.length < P.length := by
      rcases hW with ⟨o, hWD⟩ | ⟨_, _, d, hne, hlen, hWt, hHeld, hfst⟩
      · exact ⟨new0 500, .no o hWD, held0 T, fun a h => (nomatch h), by rw [List.length_nil]; lia⟩
      · exact ⟨d, .yes _ _ (by rw [show keyF x.1 = keyF BH from q5]; exact hWt), hHeld, hfst, hlen⟩
    clear hW
    have hH := hHeld.step T hjn (hdr := x.1) (p := x.2) (hx := hx) q1 q2 q3 q4
    obtain ⟨lo, ml, ma⟩ := hHeld.may T hjn q1 q2 q3
    have hsm := hH.small T (by rw [hend]; lia)
    have hshort := hHeld.short T
    have hwh := hH.whole T
    have hpp : d.parts.length = st.length := by rw [hHeld.parts, List.length_map]
    have h5 := T.five
    have hfst' : ∀ a, (putS 500 x.1 x.2 hx d).fst = some a → (a, hdrO { BH with off := 0, more := true }) ∈ rest := by
      intro a ha
      unfold putS at ha
      dsimp only at ha
      split at ha
      · split at ha
        · rename_i h0
          obtain rfl := Option.some.inj ha
          rw [← hF0 h0]; exact hh
        · cases ha
      · rename_i a' hd'
        obtain rfl := Option.some.inj ha
        exact hfst a' hd'
    generalize hst' : (if j ∈ st then st else st ++ [j]) = st' at hH hsm hwh
    have hpp' : (putS 500 x.1 x.2 hx d).parts.length = st'.length := by rw [hH.parts, List.length_map]
    have hwh' : ((putS 500 x.1 x.2 hx d).endO.isSome && (putS 500 x.1 x.2 hx d).fst.isSome && (putS 500 x.1 x.2 hx d).rows.isEmpty) = decide (st'.length = P.length) := by
      rw [← hwh]; congr 1
      cases (putS 500 x.1 x.2 hx d).rows <;> simp
    have hlen' : st'.length ≤ P.length := hH.len
    refine CallK.re (rput_fn (hdr := x.1) (pay := x.2) (d := d) (lo := lo) (hF := { BH with off := 0, more := true }) rfl hR hlo hh hS hfr hbad (by lia) ml (by lia) ma (by lia) (by lia) (by lia) hfst' (by lia) _ hwh' (laidIdx st') (fun hw => ?_) (fun hw dyn' r hr hW' => ?_) fun hw TT X o' n' r hr hT n1 n2 n3 => ?_)
    · have i := hH.idx T (of_decide_eq_true hw)
      have i2 := i.2.1
      have i3 := i.2.2
      exact ⟨i.1, by rw [i2, hs.joined]; lia, by lia, by lia⟩
    · have hw := of_decide_eq_false hw
      have e : stepSt P.length st j = st' := by
        unfold stepSt
        by_cases hjs : j ∈ st
        · rw [if_pos hjs] at hst' ⊢; exact hst'
        · rw [if_neg hjs] at hst' ⊢
          rw [if_neg (fun h => hw (by rw [← hst', ← h]; simp))]; exact hst'
      have eo : outB P.length st j = false := decide_eq_false fun ⟨hjs, h⟩ => hw (by rw [if_neg hjs] at hst'; rw [← hst', ← h]; simp)
      have hne' : st' ≠ [] := by
        rw [← hst']
        split
        · rename_i h; exact List.ne_nil_of_mem h
        · simp
      rw [show keyF x.1 = keyF BH from q5] at hW'
      exact .mk _ (fun _ _ _ F => F) (hP _ _ _ hr (by rw [e]; exact .yes _ _ _ hne' (by lia) hW' hH fun a ha => hr.subset (hfst' a ha)) (by rw [eo]; exact ⟨fun _ => rfl, fun h => (nomatch h)⟩))
    · have hw := of_decide_eq_true hw
      have i2 := (hH.idx T hw).2.1
      rw [i2, hs.joined] at n2
      have hjs : j ∉ st := by
        intro h; rw [if_pos h] at hst'; rw [← hst'] at hw; lia
      rw [if_neg hjs] at hst'
      have hl1 : st.length + 1 = P.length := by rw [← hw, ← hst']; simp
      have e : stepSt P.length st j = [] := by unfold stepSt; rw [if_neg hjs, if_pos hl1]
      have eo : outB P.length st j = true := decide_eq_true ⟨hjs, hl1⟩
      exact .mk ([(DW, .raw o')] ++ r) (fun _ _ _ F => F.front hT) (hP _ _ _ hr (by rw [e]; exact .no o' n1) (by rw [eo]; exact ⟨fun h => (nomatch h), fun _ => ⟨TT, X, rfl, n2, n3⟩⟩))

theorem Real.perm {P : Params} {n n' : ALed} (h : n.Perm n') : ∀ {l : Led}, Real P n l → ∃ l', l'.Perm l ∧ Real P n' l' := by
  induction h with
  | nil => exact fun R => ⟨_, .refl _, R⟩
  | @cons x n1 n2 _ ih =>
    intro l R
    rw [← List.singleton_append] at R
    obtain ⟨l1, l2, rfl, R1, R2⟩ := R.split
    obtain ⟨l', hp, R'⟩ := ih R2
    exact ⟨l1 ++ l', hp.append_left l1, R1.app R'⟩
  | swap x y n1 =>
    intro l R
    rw [← List.singleton_append, ← List.singleton_append (l := n1)] at R
    obtain ⟨l1, l2, rfl, R1, R2⟩ := R.split
    obtain ⟨l3, l4, rfl, R3, R4⟩ := R2.split
    exact ⟨l3 ++ (l1 ++ l4), by rw [← List.append_assoc, ← List.append_assoc]; exact List.perm_append_comm.append_right l4, R3.app (R1.app R4)⟩
  | trans _ _ ih1 ih2 =>
    intro l R
    obtain ⟨l1, h1, R1⟩ := ih1 R
    obtain ⟨l2, h2, R2⟩ := ih2 R1
    exact ⟨l2, h2.trans h1, R2⟩
theorem Frm.perm {w c m n n'} {s : Shared} (h : n.Perm n') (F : Frm w c m n s) : Frm w c m n' s := F.of_perm (Real.perm h)
theorem CallK.perm {w : World} {d : Nat} {n n' : ALed} {fv : Value} {as : List AV} {R : AV → ALed → Prop} (h : n.Perm n') (k : CallK w d n' fv as R) : CallK w d n fv as R :=
  fun c sc ok m vs hv => Tr.weak (fun _ F => F.perm h) (k c sc ok m vs hv)
/-- what lies behind is let alone -/
theorem CallK.frame {w : World} {d : Nat} {n ow : ALed} {fv : Value} {as : List AV} {R : AV → ALed → Prop} (h : CallK w d n fv as fun a n' => R a (n' ++ ow)) : CallK w d (n ++ ow) fv as R := fun c sc ok m vs hv s Q E F q => by
  obtain ⟨mv, l, F', V, N, Rl, D⟩ := F
  obtain ⟨l1, l2, rfl, R1, R2⟩ := Rl.split
  let c' : Cx := { c with hid := l2 ++ c.hid }
  have ok' : c'.Ok w sc d := { ok with
    loc := fun h mv x v F hh k e => ok.loc h mv x v F (fun p hp => hh p (List.mem_append_right _ hp)) k e
    cell := fun h mv x v F hh k e => ok.cell h mv x v F (fun p hp => hh p (List.mem_append_right _ hp)) k e }
  refine h c' sc ok' m vs hv s Q E ⟨mv, l1, F', V, by rw [List.append_assoc] at N; exact N, R1, by rw [List.append_assoc] at D; exact D⟩ fun v m1 n1 h1 tk1 hp F1 => ?_
  obtain ⟨mv1, l3, G, V1, N1, R3, D1⟩ := F1
  exact q v m1 (n1 ++ ow) h1 tk1 hp ⟨mv1, l3 ++ l2, G, V1, by rw [List.append_assoc]; exact N1, R3.app R2, by rw [List.append_assoc]; exact D1⟩
theorem turnPerm {α : Type} {A B C D : List α} {t : α} : (A ++ t :: (B ++ C ++ D)).Perm ((B ++ (A ++ C)) ++ t :: D) := by
  refine List.perm_middle.trans (List.Perm.trans (List.Perm.cons t ?_) List.perm_middle.symm)
  rw [← List.append_assoc, ← List.append_assoc, ← List.append_assoc]
  exact (List.perm_append_comm.append_right C).append_right D
section
variable {w : World} {sc : Scope} {d : Nat} {m : Vars} {n : ALed} {R : Flow → Vars → ALed → Prop} {rest : List Stmt} {bs : List (List Stmt)} {P : AV → ALed → Prop}
theorem CallK.listC {l : Addr} {vs vs' : List AV} (hl : (l, .lst vs) ∈ n) (hz : vs.length ≤ 100000) (e : vs = vs') (hP : ∀ D, P (.ref D) ((D, .lst vs') :: n)) : CallK w d n (.type "list") [.ref l] P := CallK.mkV fun c sc ok m s Q E F q => by
  subst e
  obtain ⟨mv, ld, F', V, N, Rl, D⟩ := F
  obtain ⟨l1, own, l2, rfl, h1⟩ := Rl.at hl
  obtain ⟨us, k, rfl, ha⟩ := h1.one
  refine kup_listOf F' N (zs := us) (List.mem_append_left _ (List.mem_append_right _ (List.mem_append_left _ (.head _)))) rfl (fun D2 k2 h' F2 N2 hlt => ?_) (by show us.length ≤ _; rw [ha.length, sizeLine_eq]; omega)
  refine q (.ref D2) _ h' s.toks (.ref D2) rfl (hP D2) ⟨mv, (D2, _) :: _, F2, V, N2, .lst ha Rl, ?_⟩
  rw [List.cons_append, List.map_cons, List.nodup_cons]
  refine ⟨fun h => ?_, D⟩
  obtain ⟨p, hp, e⟩ := List.mem_map.mp h
  exact absurd e (Nat.ne_of_lt (hlt p hp))
theorem Has.erase {as : List AV} {us : List Value} (h : Has as us) : ∀ i, Has (as.eraseIdx i) (us.eraseIdx i) := by
  induction h with
  | nil => exact fun _ => .nil
  | cons h1 h2 ih =>
    intro i
    cases i with
    | zero => exact h2
    | succ i => exact .cons h1 (ih i)
theorem CallK.popL {l : Addr} {vs : List AV} {i : Int} {a : AV} {n2 : ALed} {vs' : List AV} (hu : UpdA l (.lst vs) (.lst vs') n n2) (h0 : 0 ≤ i) (h1 : vs[i.toNat]? = some a) (hz : vs.length ≤ 100000) (he : vs.eraseIdx i.toNat = vs') (hP : P a n2) : CallK w d n (.builtin "list.pop") [.ref l, .int i] P := CallK.mk2 fun c sc ok m va vb e1 ⟨t, e2⟩ s Q E F q => by
  subst he
  rw [show va = .ref l from e1, e2]
  obtain ⟨us', k, hh, ho, up⟩ := F.updL hu
  obtain ⟨hi, -⟩ := List.getElem?_eq_some_iff.mp h1
  have hl := hh.length
  have hi' : i.toNat < us'.length := by omega
  obtain ⟨a', ha', hv'⟩ := hh.get (List.getElem?_eq_getElem hi')
  rw [h1] at ha'
  cases ha'
  have hz' : us'.toArray.size ≤ sizeLine := by rw [List.size_toArray, sizeLine_eq]; omega
  have hs : seqIndex? i us'.toArray.size = some i.toNat := by
    unfold seqIndex?
    rw [List.size_toArray, show (if i < 0 then i + (us'.length : Int) else i) = i from if_neg (by omega)]
    exact if_pos (by rw [Bool.and_eq_true]; exact ⟨decide_eq_true h0, decide_eq_true (by omega)⟩)
  have f : (s.heap.update l (Obj.mapSeq fun xs => xs.eraseIdxIfInBounds i.toNat)).get? l = some (listOf (us'.eraseIdx i.toNat).toArray (k + 1)) := by
    have q := PySem.IsL.update ho (fun xs => xs.eraseIdxIfInBounds i.toNat)
    have e1 : us'.toArray.eraseIdxIfInBounds i.toNat = (us'.eraseIdx i.toNat).toArray := by
      unfold Array.eraseIdxIfInBounds
      rw [dif_pos (by simpa using hi')]
      apply Array.toList_inj.mp
      rw [Array.toList_eraseIdx]
    rw [e1, if_neg (by simp [List.length_eraseIdx, hi']; omega)] at q
    exact q
  refine call_meets PySem.F.slot_list_pop ⟨_, ho, rfl⟩ PySem.F.entry_list_pop (PySem.F.args_list_pop_2 _ _) (PySem.MeetsSeq.list_pop_at l _ k i t _ _ (by simp [Builtin.List.listFitsIndex]; omega) hs (by simp [hi']; rfl) hz') ⟨ho, ?_⟩
  exact q _ n2 _ s.toks a hv' hP (up _ _ _ s.toks (hh.erase _) (fun b x hb e => (Heap.SameBut.update s.heap l (Obj.mapSeq fun xs => xs.eraseIdxIfInBounds i.toNat)).extBut b x hb e) f)
end
section
variable {w : World} {sc : Scope} {d : Nat} {m : Vars} {n : ALed}
theorem TstK.cmp {l op r pos} {P : Bool → ALed → Prop} (h : EvK ⟨w, sc, d, m, n⟩ l fun a n1 => EvK ⟨w, sc, d, m, n1⟩ r fun b n2 => Op2 w n2 (compareOp op) a b fun z n3 => ∃ t, z = .bool t ∧ P t n3) (hm : behindInMarks op r = false) : TstK ⟨w, sc, d, m, n⟩ (.Compare l [op] [r] pos) P := fun c ok s Q E F q =>
  wpAny_isTrue_Compare1 (h.run ok F fun v n1 h1 tk1 a ha hb F1 => hb.run ok F1 fun u n2 h2 tk2 b hb2 hc F2 => hc.run ok ha hb2 F2 fun y n3 h3 tk3 z hz hp F3 => hp.elim fun t hp => truthy_of (a := .bool t) (hp.1 ▸ hz) rfl (q t m n3 h3 tk3 ⟨rfl, hp.2⟩ F3)) hm
theorem TstK.and2 {x y pos b} {P : Bool → ALed → Prop} (h : Tst ⟨w, sc, d, m, n⟩ x b) (h0 : b = false → P false n) (h1 : b = true → TstK ⟨w, sc, d, m, n⟩ y P) : TstK ⟨w, sc, d, m, n⟩ (.BoolOp .And [x, y] pos) P := fun c ok s Q E F q =>
  isTrue_and (h.run ok F fun g1 tk1 F1 => by
    cases b with
    | false => exact q false m n g1 tk1 ⟨rfl, h0 rfl⟩ F1
    | true =>
      rw [isTrue_bool_any (t' := eval (.BoolOp .And [y] pos) c.env)]
      refine isTrue_and (h1 rfl c ok _ _ E F1 fun v m2 n2 h2 tk2 p F2 => ?_)
      cases v with
      | false => exact q false m2 n2 h2 tk2 p F2
      | true => exact isTrue_and_nil (q true m2 n2 h2 tk2 p F2))
end
noncomputable def pkAt (P : List (Hdr × By)) (j : Nat) : By := (P.map pk).getD j []
theorem pkAt_of {P : List (Hdr × By)} {j : Nat} {x : Hdr × By} (h : P[j]? = some x) : pkAt P j = pk x := by
  unfold pkAt; rw [List.getD_eq_getElem?_getD, List.getElem?_map, h]; rfl
/-- pieces by their numbers -/
noncomputable def bsJ (P : List (Hdr × By)) (ls : List Nat) : List AV := ls.map fun j => .bytes (pkAt P j)
theorem bsJ_all (P : List (Hdr × By)) : bsJ P (List.range P.length) = pks P := by
  apply List.ext_getElem
  · simp [bsJ, pks]
  · intro i h1 h2
    have h1 : i < P.length := by simpa [bsJ] using h1
    simp [bsJ, pks, pkAt, h1]
theorem bsJ_len {P : List (Hdr × By)} {ls : List Nat} : (bsJ P ls).length = ls.length := List.length_map _
theorem bsJ_erase {P : List (Hdr × By)} {ls : List Nat} {i : Nat} : (bsJ P ls).eraseIdx i = bsJ P (ls.eraseIdx i) := by
  unfold bsJ
  induction ls generalizing i with
  | nil => rfl
  | cons x l ih =>
    cases i with
    | zero => rfl
    | succ i => exact congrArg (List.cons _) ih
theorem bsJ_at {P : List (Hdr × By)} {ls : List Nat} {i j : Nat} (h : ls[i]? = some j) : (bsJ P ls)[i]? = some (.bytes (pkAt P j)) := by unfold bsJ; rw [List.getElem?_map, h]; rfl
theorem bsJ_snoc {P : List (Hdr × By)} {ls : List Nat} {j : Nat} : bsJ P ls ++ [.bytes (pkAt P j)] = bsJ P (ls ++ [j]) := by unfold bsJ; rw [List.map_append]; rfl
/-- the pieces' numbers, as they come -/
noncomputable def OrderOk (n : Nat) (lacks : Bool) (js : List Nat) : Prop := (∀ j ∈ js, j < n) ∧ js.length ≤ n + 1 ∧ (lacks = true → ∃ k, k < n ∧ k ∉ js)
theorem mem_erase {l : List Nat} {i j : Nat} (h : j ∈ l.eraseIdx i) : j ∈ l := (List.eraseIdx_sublist l i).subset h
theorem range_erase {n i : Nat} : i ∉ (List.range n).eraseIdx i := by
  intro h
  rw [List.mem_eraseIdx_iff_getElem] at h
  obtain ⟨j, hj, hne, e⟩ := h
  simp at e
  exact hne e
theorem Waits.mono {w : World} {DW : Addr} {ms : Int} {ks : List Int} {d : DgS} {r r' dyn : ALed} (h : Waits w DW ms ks d r dyn) (k : ∀ q ∈ r, q ∈ r') : Waits w DW ms ks d r' dyn := by
  cases h with | mk o KA XG HX LR LP began vs ps hW hK hr hp => exact .mk o KA XG HX LR LP began vs ps hW (k _ hK) (rowsUp hr k) (Paired.opts hp k)
theorem WaitSt.mono {w : World} {DW : Addr} {BH : Hdr} {P : List (Hdr × By)} {st : List Nat} {dyn r r' : ALed} (h : WaitSt w DW BH P r st dyn) (k : ∀ q ∈ r, q ∈ r') : WaitSt w DW BH P r' st dyn := by
  cases h with
  | no o h => exact .no o h
  | yes _ _ d h1 h2 h3 h4 h5 => exact .yes _ _ d h1 h2 (h3.mono k) h4 fun a ha => k _ (h5 a ha)
theorem ToldAt.mono {hW : Hdr} {W : By} {n n' : ALed} {r : AV} {b : Bool} (h : ToldAt hW W n r b) (k : ∀ q ∈ n, q ∈ n') : ToldAt hW W n' r b :=
  ⟨h.1, fun hb => let ⟨T, X, e, h1, h2⟩ := h.2 hb; ⟨T, X, e, k _ h1, k _ h2⟩⟩
/-- what is left, behind some steps -/
inductive LeftJ (P : List (Hdr × By)) (S LL : Addr) (lacks : Bool) (mx : Nat) (M : Vars) (stat : ALed) : Vars → ALed → Prop
  | mk (ls : List Nat) (a b : Int) : 0 ≤ b → b < 2147483647 → (∀ j ∈ ls, j < P.length) → ls.length ≤ mx → (lacks = true → ∃ k, k < P.length ∧ k ∉ ls) → LeftJ P S LL lacks mx M stat M ((S, srcO a b) :: (LL, .lst (bsJ P ls)) :: stat)
inductive WhileJ (P : List (Hdr × By)) (S LL OL : Addr) (lacks : Bool) (M : Vars) (stat : ALed) : Nat → Vars → ALed → Prop
  | mk (ls os : List Nat) (a b : Int) : 0 ≤ b → b < 2147483647 → (∀ j ∈ ls, j < P.length) → (∀ j ∈ os, j < P.length) → os.length + ls.length ≤ P.length + 1 → (lacks = true → ∃ k, k < P.length ∧ k ∉ ls ∧ k ∉ os) →
      WhileJ P S LL OL lacks M stat ls.length M ((S, srcO a b) :: (LL, .lst (bsJ P ls)) :: (OL, .lst (bsJ P os)) :: stat)
inductive ToldI (w : World) (DW : Addr) (BH : Hdr) (W : By) (P : List (Hdr × By)) (os : List Nat) (M : Vars) (TL : Addr) (base : ALed) (i : Nat) : Vars → ALed → Prop
  | mk (tv : List AV) (dyn C : ALed) : base <:+ C → WaitSt w DW BH P C (stF P.length (os.take i)) dyn → Paired (ToldAt (wholeH BH) W C) tv ((List.range i).map (toldB P.length os)) → ToldI w DW BH W P os M TL base i M ((TL, .lst tv) :: (dyn ++ C))
@[elab_as_elim] theorem bsJ_get {P : List (Hdr × By)} {os : List Nat} {i : Nat} {v : AV} {C : AV → Prop} (hv : (bsJ P os)[i]? = some v) (hl : ∀ j ∈ os, j < P.length) (k : ∀ j x, os[i]? = some j → P[j]? = some x → C (.bytes (pk x))) : C v := by
  unfold bsJ at hv
  rw [List.getElem?_map] at hv
  cases h : os[i]? with
  | none => rw [h] at hv; cases hv
  | some j =>
    rw [h] at hv
    have hx := List.getElem?_eq_getElem (hl j (List.mem_of_getElem? h))
    have e : AV.bytes (pkAt P j) = v := Option.some.inj hv
    rw [← e, pkAt_of hx]
    exact k j _ h hx
section
variable {w : World} {rest : ALed} {S LPk : Addr} {a b : Int} {P : List (Hdr × By)} {BH : Hdr} {W : By} {lacks : Bool}
theorem joined_fn (hb0 : 0 ≤ b) (hb1 : b < 2147483647) (hP : (LPk, .lst (pks P)) ∈ rest) (hs : Seg BH W 0 W.length false P) (H : Base BH W) {C : AV → ALed → Prop}
    (hC : ∀ LO OL TL js tv r, rest <:+ r → Paired (ToldAt (wholeH BH) W r) tv ((List.range js.length).map (toldB P.length js)) → OrderOk P.length lacks js → C (.ref LO) ((LO, .lst [.ref OL, .ref TL]) :: (OL, .lst (bsJ P js)) :: (TL, .lst tv) :: r)) :
    CallK w 8 ((S, srcO a b) :: rest) (.ref 570) [.ref S, .ref LPk, .bool lacks] C := by
  (refine' CallK.fn [(Str.ofString "lacks", .bool lacks), (Str.ofString "packets", .ref LPk), (Str.ofString "source", .ref S)] ?o ?c ?b ?s ?_; (case o => k_is); (case c => k_is); (case b => exact bind3 fun s9 _ _ _ X9 => by first | exact BindsTo.of_eq rfl | exact binds_K X9 rfl (by k_is) rfl rfl rfl); (case s => kernel_rfl!))
  have hpos := hs.pos
  have h5 := hs.five H.len
  have hpl := pks_len P
  refine Ws.assignS ?_ (by tm_at "swp") (by tm_at "sws")
  refine EvK.tuple (EvKs.cons ?_ rfl)
  tm_at "evc"
  refine CallK.listC (.tail _ hP) (by omega) (bsJ_all P).symm fun LL => ?_
  refine EvKs.cons ?_ rfl
  tm_at "evc"
  refine CallK.le (Reassembly_fn fun RR DW oW hWD hlo => ?_) (Eq.refl true)
  refine EvKs.cons ?_ rfl
  tm_at "evk"
  refine EvKs.nil ⟨rfl, fun T => ?_⟩
  tm_at "ags"
  rename_i TL
  refine Ws.weak (n' := (TL, .lst []) :: (DW, .raw oW) :: (RR, raO 50 500 500 DW) :: (LL, .lst (bsJ P (List.range P.length))) :: (S, srcO a b) :: rest) (fun _ h => h) (by tm_at "sl") ?_
  refine Ws.front (p := (LL, .lst (bsJ P (List.range P.length)))) (by tm_at "take") (Ws.front (p := (S, srcO a b)) (by tm_at "take") ?_)
  generalize hst : (TL, AO.lst []) :: (DW, AO.raw oW) :: (RR, raO 50 500 500 DW) :: rest = stat
  refine Ws.cut (LeftJ P S LL lacks P.length [(Str.ofString "left", AV.ref LL), (Str.ofString "joined", AV.ref RR), (Str.ofString "told", AV.ref TL), (Str.ofString "lacks", AV.bool lacks), (Str.ofString "packets", AV.ref LPk), (Str.ofString "source", AV.ref S)] stat) ?_ ?_
  · clear hC hst
    refine Ws.ite (v := lacks) (Tst.val (a := .bool lacks) (by tm_at "ev") rfl rfl) (fun h => ?_) fun h => ?_
    · refine Ws.expr (EvK.lmeth (by tm_at "ev") (by tm_at "in") PySem.F.slot_list_pop PySem.F.type_list_pop rfl rfl (EvKs.cons ?_ rfl)) rfl
      have hl9 : (bsJ P (List.range P.length)).length = P.length := by rw [bsJ_len, List.length_range]
      tm_at "evc"
      refine CallK.le (take_fn hb0 hb1 (by omega) (by omega) fun v a' b' l0 l1 m0 m1 => ?_) (Eq.refl true)
      have hv : v.toNat < P.length := by omega
      refine EvKs.nil (CallK.popL (.tail .head) l0 (bsJ_at (List.getElem?_eq_getElem (by rw [List.length_range]; exact hv))) (by omega) bsJ_erase ?_)
      repeat tm_at "ws"
      exact LeftJ.mk ((List.range P.length).eraseIdx v.toNat) a' b' m0 m1 (fun j hj => List.mem_range.mp (mem_erase hj)) (by rw [List.length_eraseIdx, List.length_range]; split <;> omega) fun _ => ⟨v.toNat, hv, range_erase⟩
    · repeat tm_at "ws"
      exact LeftJ.mk _ a b hb0 hb1 (fun j hj => List.mem_range.mp hj) (by rw [List.length_range]; omega) fun k => absurd k (by rw [h]; exact Bool.false_ne_true)
  refine fun _ _ h9 => LeftJ.casesOn h9 fun ls a1 b1 hb2 hb3 hj hll hk => ?_
  refine Ws.cut (LeftJ P S LL lacks (P.length + 1) [(Str.ofString "left", AV.ref LL), (Str.ofString "joined", AV.ref RR), (Str.ofString "told", AV.ref TL), (Str.ofString "lacks", AV.bool lacks), (Str.ofString "packets", AV.ref LPk), (Str.ofString "source", AV.ref S)] stat) ?_ ?_
  · clear hC hst
    refine Ws.iteK (TstK.and2 (b := !(bsJ P ls).isEmpty) (by tm_at "tst") ?_ ?_)
    · refine fun _ => ⟨fun h => (nomatch h), fun _ => ?_⟩
      repeat tm_at "ws"
      exact LeftJ.mk ls a1 b1 hb2 hb3 hj (by omega) hk
    · intro hne
      refine TstK.cmp ?_ rfl
      tm_at "evc"
      refine CallK.le (take_fn hb2 hb3 (by omega) (by omega) fun v a' b' l0 l1 m0 m1 => ?_) (Eq.refl true)
      tm_at "evk"
      refine Op2.of (by tm_at "op") ⟨_, rfl, fun _ => ?_, fun _ => ?_⟩
      · cases ls with
        | nil => cases hne
        | cons j ls' =>
          refine Ws.expr (EvK.lmeth (by tm_at "ev") (by tm_at "in") PySem.F.slot_list_append PySem.F.type_list_append rfl rfl (EvKs.cons (EvK.ofE (Ev.itemL (by tm_at "ev") (by tm_at "in") (by tm_at "ev") (a := .bytes (pkAt P j)) rfl (by rw [bsJ_len]; omega) rfl) (EvKs.nil ?_)) rfl)) rfl
          refine CallK.append (.tail .head) (by rw [bsJ_len]; omega) ?_
          repeat tm_at "ws"
          rw [bsJ_snoc]
          refine LeftJ.mk (mx := P.length + 1) (j :: ls' ++ [j]) a' b' m0 m1 (fun i hi => ?_) (by rw [List.length_append, List.length_singleton]; omega) fun h => (hk h).imp fun k hk => ⟨hk.1, fun hm => ?_⟩
          · exact (List.mem_append.mp hi).elim (hj i) fun h => by rw [List.mem_singleton.mp h]; exact hj j (.head _)
          · exact (List.mem_append.mp hm).elim hk.2 fun h => by rw [List.mem_singleton.mp h] at hk; exact hk.2 (.head _)
      · repeat tm_at "ws"
        exact LeftJ.mk ls _ _ m0 m1 hj (by omega) hk
  clear hll hk hj hb2 hb3
  refine fun _ _ h9 => LeftJ.casesOn h9 fun ls a1 b1 hb2 hb3 hj hll hk => ?_
  tm_at "ws"
  rename_i OL
  refine Ws.front (p := (LL, .lst (bsJ P ls))) (by tm_at "take") (Ws.front (p := (S, srcO a1 b1)) (by tm_at "take") ?_)
  refine Ws.while (k := ls.length) (WhileJ P S LL OL lacks [(Str.ofString "order", AV.ref OL), (Str.ofString "left", AV.ref LL), (Str.ofString "joined", AV.ref RR), (Str.ofString "told", AV.ref TL), (Str.ofString "source", AV.ref S)] stat)
    ⟨_, _, .mk ls [] a1 b1 hb2 hb3 hj (fun _ h => (nomatch h)) (by rw [List.length_nil]; omega) (fun h => (hk h).imp fun k hk => ⟨hk.1, hk.2, fun h => (nomatch h)⟩), by tm_at "sub", List.Sublist.refl _⟩ ?_
  clear hll hk hj hb2 hb3
  refine fun k _ _ h9 => WhileJ.casesOn h9 fun ls os a b c0 c1 c2 c3 c4 c5 => ?_
  refine ⟨_, (by tm_at "tst"), fun hne => ?_, fun hne => ?_⟩
  · clear hC hst
    have hl0 : 0 < ls.length := by
      cases ls with
      | nil => cases hne
      | cons j l => exact Nat.succ_pos _
    have hl9 := bsJ_len (P := P) (ls := ls)
    have hl8 := bsJ_len (P := P) (ls := os)
    refine Ws.expr (EvK.lmeth (by tm_at "ev") (by tm_at "in") PySem.F.slot_list_append PySem.F.type_list_append rfl rfl (EvKs.cons (EvK.lmeth (by tm_at "ev") (by tm_at "in") PySem.F.slot_list_pop PySem.F.type_list_pop rfl rfl (EvKs.cons ?_ rfl)) rfl)) rfl
    tm_at "evc"
    refine CallK.le (take_fn c0 c1 (by omega) (by omega) fun v a' b' l0 l1 m0 m1 => ?_) (Eq.refl true)
    have hv : v.toNat < ls.length := by omega
    have hx := List.getElem?_eq_getElem hv
    generalize ls[v.toNat] = j at hx
    have hjm := List.mem_of_getElem? hx
    refine EvKs.nil (CallK.popL (.tail .head) l0 (bsJ_at hx) (by omega) bsJ_erase (EvKs.nil (CallK.append (.tail (.tail .head)) (by omega) ?_)))
    repeat tm_at "ws"
    refine ⟨(ls.eraseIdx v.toNat).length, _, _, .mk (ls.eraseIdx v.toNat) (os ++ [j]) a' b' m0 m1 (fun i hi => c2 i (mem_erase hi)) (fun i hi => ?_) ?_ (fun h => (c5 h).imp fun k hk => ⟨hk.1, fun hm => hk.2.1 (mem_erase hm), fun hm => ?_⟩), ?_, by tm_at "sub", by rw [← bsJ_snoc]; exact List.Sublist.refl _⟩
    · exact (List.mem_append.mp hi).elim (c3 i) fun h => by rw [List.mem_singleton.mp h]; exact c2 j hjm
    · rw [List.length_append, List.length_singleton, List.length_eraseIdx, if_pos hv]; omega
    · exact (List.mem_append.mp hm).elim hk.2.2 fun h => by rw [List.mem_singleton.mp h] at hk; exact hk.2.1 hjm
    · rw [List.length_eraseIdx, if_pos hv]; omega
  subst hst
  refine Ws.for (EvK.ofE (by tm_at "ev") (ForK.lst (ToldI w DW BH W P os [(Str.ofString "order", AV.ref OL), (Str.ofString "joined", AV.ref RR), (Str.ofString "told", AV.ref TL)] TL ((RR, raO 50 500 500 DW) :: rest))
    (.tail (.tail .head)) ⟨_, _, .mk [] [(DW, .raw oW)] _ (List.suffix_refl _) (.no oW hWD) .nil, by tm_at "sub", .cons _ (.cons _ (List.Sublist.refl _))⟩ ?_ ?_)) rfl
  · clear hC
    refine fun i v _ _ ow hv h9 => ToldI.casesOn h9 fun tv dyn C hsf hW hT => ?_
    refine bsJ_get hv c3 fun j x hj1 hx => ?_
    have hjn := c3 j (List.mem_of_getElem? hj1)
    have G := (hs.nth hx).good H
    tm_at "asg"
    refine Ws.assignT ?_ (fun _ _ => rfl) fun _ => rfl
    tm_at "evc"
    refine CallK.le (unpack_pack_fn G fun T z => ?_) (Eq.refl true)
    tm_at "asg"
    have hRR : (RR, raO 50 500 500 DW) ∈ C := hsf.subset (.head _)
    have htl : tv.length = i := by rw [pairedLen hT, List.length_map, List.length_range]
    have hil : i < os.length := (List.getElem?_eq_some_iff.mp hj1).1
    have hRR2 : (RR, raO 50 500 500 DW) ∈ ((TL, AO.lst tv) :: (dyn ++ C)) ++ ow := List.mem_append_left _ (.tail _ (List.mem_append_right _ hRR))
    refine Ws.expr (EvK.lmeth (by tm_at "ev") (by tm_at "in") PySem.F.slot_list_append PySem.F.type_list_append rfl rfl (EvKs.cons ?_ rfl)) rfl
    tm_at "evm"
    refine CallK.perm (turnPerm (α := Addr × AO) (A := [(T, .tup [.ref z, .bytes x.2]), (z, hdrO x.1)]) (t := (TL, .lst tv)) (B := dyn) (C := C) (D := ow)) (CallK.frame (CallK.le (rput_any (rest := [(T, .tup [.ref z, .bytes x.2]), (z, hdrO x.1)] ++ C) hs H hx (List.mem_append_right _ hRR) hlo (.tail _ (.head _)) (hW.mono fun q hq => List.mem_append_right _ hq) fun r dyn' C' hs' hW2 hT2 => ?_) (Eq.refl true)))
    refine EvKs.nil (CallK.append (UpdA.app .head _) (by omega) ?_)
    refine Ws.front (Take.app .head _) ?_
    repeat tm_at "ws"
    rw [← stF_succ (n := P.length) hj1] at hW2
    have eo : toldB P.length os i = outB P.length (stF P.length (os.take i)) j := by unfold toldB; rw [List.getD_eq_getElem?_getD, hj1]; rfl
    rw [← eo] at hT2
    have hT3 : Paired (ToldAt (wholeH BH) W C') (tv ++ [r]) ((List.range (i + 1)).map (toldB P.length os)) := by
      rw [List.range_succ, List.map_append]
      exact Paired.snoc (pairedImp (fun _ _ h => h.mono fun q hq => hs'.subset (List.mem_append_right _ hq)) hT) hT2
    exact ⟨_, _, .mk (tv ++ [r]) dyn' C' ((hsf.trans (List.suffix_append _ C)).trans hs') hW2 hT3, by tm_at "sub", List.Sublist.refl _⟩
  refine fun _ _ h9 => ToldI.casesOn h9 fun tv dyn C hsf hW hT => ?_
  rw [bsJ_len] at hT
  refine Ws.weak (fun _ h => h) (.cons_cons _ (.cons_cons _ (List.sublist_append_right dyn _))) ?_
  tm_at "ws"
  exact hC _ OL TL os tv _ ((List.suffix_cons _ rest).trans hsf) hT ⟨c3, by omega, fun h => (c5 h).imp fun k hk => ⟨hk.1, hk.2.2⟩⟩
end

section
open PySem.SeqAt
variable {A : Around} {s : Shared}
theorem eqAtBytes (x y : By) (t u : Tok) : EqAt A s (.bytes x.toArray t) (.bytes y.toArray u) (decide (x = y)) := fun prog w E Q h => by
  unfold eqBool
  refine wpAny_holding ?_
  show wpAny _ _ (if (Value.bytes x.toArray t == Value.bytes y.toArray u) = true then _ else _) Q E s
  by_cases hab : (Value.bytes x.toArray t == Value.bytes y.toArray u) = true
  · rw [if_pos hab]
    have e : x = y := by
      have := eq_of_beq hab
      injection this with h1 h2
      simpa using congrArg Array.toList h1
    subst e
    exact wpAny_bind (wpAny_rule (wpAny_pure (by simpa using h)))
  · rw [if_neg hab]
    exact wpAny_bind (show wpAny _ _ (compareOp .Eq (.bytes x.toArray t) (.bytes y.toArray u)) _ _ _ from bytesEq_ (wpAny_truthy_bool h))
/-- two values of it are equal -/
noncomputable def Same (a : AV) : Prop := ∀ {A : Around} {s : Shared} {x y : Value}, a.has x → a.has y → EqAt A s x y true
theorem Same.int {i : Int} : Same (.int i) := fun ⟨t, h⟩ ⟨u, k⟩ => by
  subst h k
  have := (MeetsSeq.EqGives.int i i t u).at
  rw [beq_self_eq_true] at this
  exact this _ _
theorem Same.bytes {b : By} : Same (.bytes b) := fun {A s _ _} ⟨t, h⟩ ⟨u, k⟩ => by
  subst h k
  have := eqAtBytes (A := A) (s := s) b b t u
  rwa [decide_eq_true rfl] at this
theorem Same.v {v : Value} : Same (.v v) := fun h k => by
  cases h; cases k
  exact EqAt.same _
end
theorem Real.lstAt {P : Params} {n : ALed} {l : Led} {T : Addr} {as : List AV} (R : Real P n l) (h : (T, .lst as) ∈ n) : ∃ us k, Has as us ∧ (T, listOf us.toArray k) ∈ l := by
  obtain ⟨l1, own, l2, rfl, h1⟩ := R.at h
  obtain ⟨us, k, rfl, ha⟩ := h1.one
  exact ⟨us, k, ha, List.mem_append_right _ (List.mem_append_left _ (.head _))⟩
theorem Has.take {as : List AV} {us : List Value} (h : Has as us) : ∀ i, Has (as.take i) (us.take i) := by
  induction h with
  | nil => intro i; rw [List.take_nil, List.take_nil]; exact .nil
  | cons h1 _ ih =>
    intro i
    cases i with
    | zero => exact .nil
    | succ i => exact .cons h1 (ih i)
theorem Frm.newL {w : World} {c : Cx} {m : Vars} {n : ALed} {s : Shared} {mv : Str → Option Value} {l : Led} {D : Addr} {us : List Value} {as : List AV} {h' : Heap} {k : Nat} (V : VarsAt m (c.lv mv)) (R : Real w.params n l) (Dn : ((l ++ c.hid).map (·.1)).Nodup) (hu : Has as us)
    (F2 : Fr c.h₀ c.L h' mv) (N2 : News c.h₀ c.L h' ((D, listOf us.toArray k) :: (l ++ c.hid))) (hlt : ∀ p ∈ l ++ c.hid, p.1 < D) : Frm w c m ((D, .lst as) :: n) { s with heap := h' } :=
  ⟨mv, (D, _) :: l, F2, V, N2, .lst hu R, by
    rw [List.cons_append, List.map_cons, List.nodup_cons]
    refine ⟨fun h => ?_, Dn⟩
    obtain ⟨p, hp, e⟩ := List.mem_map.mp h
    exact absurd e (Nat.ne_of_lt (hlt p hp))⟩
section
variable {w : World} {sc : Scope} {d : Nat} {m : Vars} {n : ALed} {P : AV → ALed → Prop}
theorem Op.neSame {a b : Addr} {vs : List AV} (ha : (a, .tup vs) ∈ n) (hb : (b, .tup vs) ∈ n) (hs : ∀ v ∈ vs, Same v) : Op w n (compareOp .NotEq) (.ref a) (.ref b) (.bool false) := fun c sc ok m va vb e1 e2 s Q E F q => by
  cases e1; cases e2
  obtain ⟨us, hu, ho⟩ := F.tupAt ha
  obtain ⟨us2, hu2, ho2⟩ := F.tupAt hb
  have hl := hu.length
  have hl2 := hu2.length
  refine richCompare_meets_room (op := .NotEq) ⟨_, ho, rfl⟩ ⟨_, ho2, rfl⟩ PySem.F.slot_tuple_ne PySem.F.entry_tuple_ne (PySem.F.args_tuple_ne_2 _ _) (PySem.SeqAt.tuple_neAt a b us.toArray us2.toArray 0 0 none none #[] #[] fun _ => true)
    ⟨ho, ho2, fun j h1 h2 => ?_, (fun x => nomatch x), ?_⟩ ok.un1
  · obtain ⟨x, hx, e1⟩ := hu.get (i := j) (List.getElem?_eq_getElem (by simpa using h1))
    obtain ⟨y, hy, e2⟩ := hu2.get (i := j) (List.getElem?_eq_getElem (by simpa using h2))
    rw [hx] at hy
    cases hy
    exact hs x (List.mem_of_getElem? hx) e1 e2
  · have e : (!((List.range (min us.toArray.size us2.toArray.size)).all (fun _ => true) && us.toArray.size == us2.toArray.size)) = false := by
      simp [hl, hl2]
    rw [e]
    exact q (.bool false) _ _ s.heap s.toks ⟨rfl, .bool false, rfl, rfl, rfl⟩ F
theorem any_bytes {x : By} : ∀ {bs : List By} {vs : List Value}, Has (bs.map AV.bytes) vs → ∃ e : Value → Bool, (∀ (A : Around) (s : Shared) t, ∀ y ∈ vs, PySem.SeqAt.EqAt A s y (.bytes x.toArray t) (e y)) ∧ vs.any e = decide (x ∈ bs) := by
  intro bs vs h
  refine ⟨fun y => match y with | .bytes z _ => decide (z.toList = x) | _ => false, ?_, ?_⟩
  · intro A s t y hy
    obtain ⟨i, hi, e⟩ := List.getElem_of_mem hy
    obtain ⟨a, ha, hv⟩ := h.get (List.getElem?_eq_getElem hi)
    rw [List.getElem?_map] at ha
    obtain ⟨b, -, rfl⟩ := Option.map_eq_some_iff.mp ha
    obtain ⟨u, hu⟩ := hv
    rw [e] at hu
    subst hu
    exact eqAtBytes b x u t
  · induction bs generalizing vs with
    | nil => cases h; rfl
    | cons b bs ih =>
      cases h with | cons h1 h2 => ?_
      obtain ⟨t, rfl⟩ := h1
      rw [List.any_cons, ih h2, Bool.eq_iff_iff, Bool.or_eq_true, decide_eq_true_eq, decide_eq_true_eq, decide_eq_true_eq]
      exact (or_congr ⟨Eq.symm, Eq.symm⟩ Iff.rfl).trans List.mem_cons.symm
theorem Op.inB {l : Addr} {bs : List By} {x : By} (hl : (l, .lst (bs.map AV.bytes)) ∈ n) : Op w n (compareOp .In) (.bytes x) (.ref l) (.bool (decide (x ∈ bs))) := fun c sc ok m va vb ⟨t, e1⟩ e2 s Q E F q => by
  cases e1; cases e2
  obtain ⟨us, k, hu, ho⟩ := F.lstAt hl
  obtain ⟨e, he, ha⟩ := any_bytes (x := x) hu
  refine PySem.SeqAt.in_listAt (items := us.toArray) e ⟨_, ho, rfl, _, rfl⟩ (fun y hy => he _ _ _ y (by simpa using hy)) ?_
  rw [← Array.any_toList, ha]
  exact q (.bool _) _ _ s.heap s.toks ⟨rfl, .bool _, rfl, rfl, rfl⟩ F
theorem Op.notinB {l : Addr} {bs : List By} {x : By} (hl : (l, .lst (bs.map AV.bytes)) ∈ n) : Op w n (compareOp .NotIn) (.bytes x) (.ref l) (.bool (!decide (x ∈ bs))) := fun c sc ok m va vb ⟨t, e1⟩ e2 s Q E F q => by
  cases e1; cases e2
  obtain ⟨us, k, hu, ho⟩ := F.lstAt hl
  obtain ⟨e, he, ha⟩ := any_bytes (x := x) hu
  refine PySem.SeqAt.notIn_listAt (items := us.toArray) e ⟨_, ho, rfl, _, rfl⟩ (fun y hy => he _ _ _ y (by simpa using hy)) ?_
  rw [← Array.any_toList, ha]
  exact q (.bool _) _ _ s.heap s.toks ⟨rfl, .bool _, rfl, rfl, rfl⟩ F
theorem Op2.addL {a b : Addr} {vs ws xs : List AV} (ha : (a, .lst vs) ∈ n) (hb : (b, .lst ws) ∈ n) (hz : vs.length + ws.length ≤ 100000) (hx : vs ++ ws = xs) (h : ∀ D, P (.ref D) ((D, .lst xs) :: n)) : Op2 w n (binaryOp .Add) (.ref a) (.ref b) P := fun c sc ok m va vb e1 e2 s Q E F q => by
  subst hx
  cases e1; cases e2
  obtain ⟨mv, l, F', V, N, R, Dn⟩ := F
  obtain ⟨us, k, hu, h1⟩ := R.lstAt ha
  obtain ⟨us2, k2, hu2, h2⟩ := R.lstAt hb
  have hl := hu.length
  have hl2 := hu2.length
  exact kmk_add_lit F' N (News.isList N (List.mem_append_left _ h1)) (News.isList N (List.mem_append_left _ h2)) rfl (fun D h' F2 N2 hlt => q (.ref D) _ _ h' s.toks ⟨rfl, .ref D, rfl, h D⟩ (Frm.newL V R Dn (hu.append hu2) F2 N2 hlt))
    (by show us.length + us2.length ≤ sizeLine; rw [sizeLine_eq]; omega)
theorem Op2.mulL {a : Addr} {vs : List AV} {b : Bool} (ha : (a, .lst vs) ∈ n) (hz : Nat.ble vs.length 100 = true) (h : ∀ D, P (.ref D) ((D, .lst (if b = true then vs else [])) :: n)) : Op2 w n (binaryOp .Mult) (.ref a) (.int (if b = true then 1 else 0)) P := fun c sc ok m va vb e1 ⟨t, e2⟩ s Q E F q => by
  cases e1; cases e2
  obtain ⟨mv, l, F', V, N, R, Dn⟩ := F
  obtain ⟨us, k, hu, h1⟩ := R.lstAt ha
  have hl := hu.length
  have hz := Nat.le_of_ble_eq_true hz
  cases b with
  | true => exact KMa.mul F' N (News.isList N (List.mem_append_left _ h1)) (by decide) (by decide) (by show us.length * 1 ≤ 256; omega) (ws := us) (by simp) fun D h' F2 N2 hlt => q (.ref D) _ _ h' s.toks ⟨rfl, .ref D, rfl, h D⟩ (Frm.newL V R Dn hu F2 N2 hlt)
  | false => exact KMa.mul F' N (News.isList N (List.mem_append_left _ h1)) (by decide) (by decide) (by show us.length * 0 ≤ 256; omega) (ws := []) (by simp) fun D h' F2 N2 hlt => q (.ref D) _ _ h' s.toks ⟨rfl, .ref D, rfl, h D⟩ (Frm.newL V R Dn .nil F2 N2 hlt)
/-- the first items of a list -/
theorem EvK.sliceL {v hi p pos l vs i} (hv : Ev ⟨w, sc, d, m, n⟩ v (.ref l)) (hl : (l, .lst vs) ∈ n) (hu : Ev ⟨w, sc, d, m, n⟩ hi (.int i)) (h0 : 0 ≤ i) (hz : vs.length ≤ 100000) (hp : ∀ x r, letTemporaryGo v (.ref x) r = Pure.pure ())
    (h : ∀ D, P (.ref D) ((D, .lst (vs.take i.toNat)) :: n)) : EvK ⟨w, sc, d, m, n⟩ (.Subscript v (.Slice none (some hi) none p) pos) P := fun c ok s Q E F q => by
  refine Subscript_ (hv.runV ok F fun h1' tk1 F1 => by
    refine wpAny_Slice (evalPart_none_step (evalPart_some_step (hu.runI ok F1 fun t h2 tk2 F2 => evalPart_none_step ?_)))
    obtain ⟨mv, ld, F', V, N, R, Dn⟩ := F2
    obtain ⟨us, k, hu, h1⟩ := R.lstAt hl
    have hl := hu.length
    refine kmk_slice_lit (s := ⟨h2, s.gens, s.drawn, tk2, s.os⟩) (zs := us.take i.toNat) F' N (News.isList N (List.mem_append_left _ h1)) .none (.int _ _) ?_ (fun D h' F2 N2 hlt => q (.ref D) _ _ h' tk2 ⟨rfl, .ref D, rfl, h D⟩ (Frm.newL (s := s) V R Dn (hu.take _) F2 N2 hlt)) rfl (hp _) (by rw [List.size_toArray, sizeLine_eq]; omega)
    have e : sliceBounds none (some i) none us.toArray.size = (((0 : Nat) : Int), ((min i.toNat us.toArray.size : Nat) : Int), 1) := by
      simp only [sliceBounds, Option.getD_none, show (1 : Int) > 0 by decide, if_true, if_neg (show ¬ (i < 0) by omega)]
      congr 1
      congr 1
      omega
    rw [kmk_pick_nat _ e]
    show (us.drop 0).take (min i.toNat us.toArray.size - 0) = _
    rw [List.drop_zero, Nat.sub_zero, List.size_toArray, kmk_take_min])
end
/-- a head as a row -/
noncomputable def rowL (h : Hdr) : List AV := [.int h.src, .int h.tgt, .int h.proto, .int h.ident, .int h.ttl, .int h.tos, .bool h.dont, .bool h.more, .int h.off, .bytes h.opts]
theorem bsJ_map {P : List (Hdr × By)} {ls : List Nat} : bsJ P ls = (ls.map (pkAt P)).map AV.bytes := by unfold bsJ; rw [List.map_map]; rfl
theorem pkAt_mem {BH : Hdr} {W : By} {P : List (Hdr × By)} (hs : Seg BH W 0 W.length false P) (H : Base BH W) {ls : List Nat} (hl : ∀ j ∈ ls, j < P.length) {j : Nat} (hj : j < P.length) : pkAt P j ∈ ls.map (pkAt P) ↔ j ∈ ls := by
  rw [List.mem_map]
  constructor
  · rintro ⟨i, hi, e⟩
    have h1 := List.getElem?_eq_getElem (hl i hi)
    have h2 := List.getElem?_eq_getElem hj
    rw [pkAt_of h1, pkAt_of h2] at e
    exact pk_inj hs H h1 h2 e ▸ hi
  · intro h; exact ⟨j, h, rfl⟩
section
variable {w : World} {n : ALed} {x OL TL DU DR LPk : Addr} {h : Hdr} {P : List (Hdr × By)} {BH : Hdr} {W : By} {js ls : List Nat} {j : Nat} {tv : List AV}
theorem Op.inJ {l : Addr} (hl : (l, .lst (bsJ P ls)) ∈ n) (hm : pkAt P j ∈ ls.map (pkAt P) ↔ j ∈ ls) : Op w n (compareOp .In) (.bytes (pkAt P j)) (.ref l) (.bool (decide (j ∈ ls))) := by
  rw [bsJ_map] at hl
  rw [← decide_eq_decide.mpr hm]
  exact Op.inB hl
theorem Op.notinJ {l : Addr} (hl : (l, .lst (bsJ P ls)) ∈ n) (hm : pkAt P j ∈ ls.map (pkAt P) ↔ j ∈ ls) : Op w n (compareOp .NotIn) (.bytes (pkAt P j)) (.ref l) (.bool (!decide (j ∈ ls))) := by
  rw [bsJ_map] at hl
  rw [← decide_eq_decide.mpr hm]
  exact Op.notinB hl
theorem EvK.sliceJ {sc : Scope} {d : Nat} {m : Vars} {Q : AV → ALed → Prop} {v hi p pos l} {i : Nat} (hv : Ev ⟨w, sc, d, m, n⟩ v (.ref l)) (hl : (l, .lst (bsJ P js)) ∈ n) (hu : Ev ⟨w, sc, d, m, n⟩ hi (.int (i : Int))) (hz : js.length ≤ 100000) (hp : ∀ x r, letTemporaryGo v (.ref x) r = Pure.pure ())
    (h : (0 : Nat) = 0 ∧ ∀ D, Q (.ref D) ((D, .lst (bsJ P (js.take i))) :: n)) : EvK ⟨w, sc, d, m, n⟩ (.Subscript v (.Slice none (some hi) none p) pos) Q :=
  EvK.sliceL hv hl hu (Int.natCast_nonneg i) (by rw [bsJ_len]; exact hz) hp fun D => by
    have e : (bsJ P js).take i = bsJ P (js.take i) := by unfold bsJ; rw [List.map_take]
    show Q _ ((D, .lst ((bsJ P js).take i)) :: n)
    rw [e]; exact h.2 D
theorem row_fn (hx : (x, hdrO h) ∈ n) {C : AV → ALed → Prop} (hC : ∀ T, C (.ref T) ((T, .tup (rowL h)) :: n)) : CallK w 1 n (.ref 180) [.ref x] C := by
  (refine' CallK.fn [(Str.ofString "self", .ref x)] ?o ?c ?b ?s ?_; (case o => k_is); (case c => k_is); (case b => exact bind1 fun s9 _ X9 => by first | exact BindsTo.of_eq rfl | exact binds_K X9 rfl (by k_is) rfl rfl rfl); (case s => kernel_rfl!))
  repeat tm_at "ws"
  exact hC _
theorem rowL_same : ∀ v ∈ rowL h, Same v := by
  intro v hv
  simp only [rowL, List.mem_cons, List.not_mem_nil, or_false] at hv
  rcases hv with rfl | rfl | rfl | rfl | rfl | rfl | rfl | rfl | rfl | rfl <;> first | exact Same.int | exact Same.v | exact Same.bytes
inductive SeenI (P : List (Hdr × By)) (js : List Nat) (W : By) (DU TL OL : Addr) (n : ALed) (i : Nat) : Vars → ALed → Prop
  | mk (SL : Addr) : SeenI P js W DU TL OL n i [(Str.ofString "seen", .ref SL), (Str.ofString "many", .int (pks P).length), (Str.ofString "payload", .bytes W), (Str.ofString "due", .ref DU), (Str.ofString "told", .ref TL), (Str.ofString "order", .ref OL)] ((SL, .lst (bsJ P (seenF (js.take i)))) :: n)
theorem told_right_fn (hs : Seg BH W 0 W.length false P) (H : Base BH W) (hOL : (OL, .lst (bsJ P js)) ∈ n) (hTL : (TL, .lst tv) ∈ n) (htv : Paired (ToldAt (wholeH BH) W n) tv ((List.range js.length).map (toldB P.length js)))
    (hDU : (DU, .tup [.ref DR, .ref LPk]) ∈ n) (hDR : (DR, .tup (rowL (wholeH BH))) ∈ n) (hLP : (LPk, .lst (pks P)) ∈ n) (hjs : ∀ j ∈ js, j < P.length) (hjz : js.length ≤ P.length + 1) :
    CallK w 3 n (.ref 577) [.ref OL, .ref TL, .ref DU, .bytes W] fun r n' => r = .bool true ∧ n' = n := by
  (refine' CallK.fn [(Str.ofString "payload", .bytes W), (Str.ofString "due", .ref DU), (Str.ofString "told", .ref TL), (Str.ofString "order", .ref OL)] ?o ?c ?b ?s ?_; (case o => k_is); (case c => k_is); (case b => exact bind4 fun s9 _ _ _ _ X9 => by first | exact BindsTo.of_eq rfl | exact binds_K X9 rfl (by k_is) rfl rfl rfl); (case s => kernel_rfl!))
  have htl := pairedLen htv
  rw [List.length_map, List.length_range] at htl
  have h5 := hs.five H.len
  have hpos := hs.pos
  have hWl := H.len
  have hol := bsJ_len (P := P) (ls := js)
  have hpl := pks_len P
  refine Ws.assignS ?_ (by tm_at "swp") (by tm_at "sws")
  refine EvK.tuple (EvKs.cons ?_ rfl)
  tm_at "evk"
  refine EvKs.cons ?_ rfl
  refine EvK.ofE (Ev.call (by tm_at "ev") (by tm_at "kr") rfl rfl (Evs.cons (Ev.itemT (by tm_at "ev") (.tail _ hDU) (by tm_at "ev") (a := .ref LPk) rfl (by tm_at "T") rfl) .nil rfl) (CallK.lenL (.tail _ hLP) (by omega))) ?_
  refine EvKs.nil ⟨rfl, fun T => ?_⟩
  tm_at "ags"
  rename_i S0
  refine' Ws.forR (k := js.length) (SeenI P js W DU TL OL n) ?f1 ?s1 ?r1 ?st1 ?ab1 (size_one ?sz1) ?k1 rfl rfl ⟨_, _, .mk S0, ?h1, .cons _ (List.Sublist.refl _)⟩ ?turn ?done
  case f1 => tm_at "ev"
  case s1 => tm_at "evs"
  case r1 => constructor
  case st1 => decide
  case ab1 => omega
  case sz1 => omega
  case k1 => omega
  case h1 => tm_at "sub"
  case turn =>
    refine fun i m1 n1 ow hi h9 => SeenI.casesOn h9 fun SL => ?_
    refine eq_to (C := fun v => AsgK _ _ (.int v) _) (show 0 + (i : Int) * 1 = (i : Int) by omega) ?_
    have hj := List.getElem?_eq_getElem hi
    have hjn := hjs _ (List.getElem_mem hi)
    generalize hjj : js[i] = j at hj hjn
    have hgi : getI (bsJ P js) (i : Int) = some (.bytes (pkAt P j)) := bsJ_at hj
    have hsn := seenF_succ hj
    have hm1 := pkAt_mem hs H (ls := seenF (js.take i)) (fun k hk => hjs k (List.mem_of_mem_take (((seenF_prop _).2 k).mp hk))) hjn
    have hm2 := pkAt_mem hs H (ls := js.take i) (fun k hk => hjs k (List.mem_of_mem_take hk)) hjn
    have hl6 := seen_len js (i := i)
    have hl5 := seen_le hjs (i + 1)
    have hl7 := bsJ_len (P := P) (ls := seenF (js.take i))
    have hl8 := bsJ_len (P := P) (ls := seenF (js.take (i + 1)))
    have hOL2 := List.mem_append_left ow hOL
    have hTL2 := List.mem_append_left ow hTL
    have hDU2 := List.mem_append_left ow hDU
    have hDR2 := List.mem_append_left ow hDR
    tm_at "asg"
    refine Ws.assign (EvK.bin (EvK.ofE (by tm_at "ev") (EvK.bin ?_))) (by tm_at "pick") (by tm_at "kr") (by tm_at "kr") rfl
    tm_at "evk"
    tm_at "evk"
    have e : bsJ P (seenF (js.take i)) ++ (if (!decide (j ∈ seenF (js.take i))) = true then [.bytes (pkAt P j)] else []) = bsJ P (seenF (js.take (i + 1))) := by
      rw [hsn]
      by_cases h : j ∈ seenF (js.take i)
      · rw [if_pos h, if_neg (by simp [h]), List.append_nil]
      · rw [if_neg h, if_pos (by simp [h])]; exact bsJ_snoc
    refine Op2.mulL (.head _) (by tm_at "T") fun D => Op2.addL (.tail _ (.tail _ (.head _))) (.head _) (by split <;> simp <;> omega) e fun D2 => ?_
    refine Ws.weak (n' := (D2, .lst (bsJ P (seenF (js.take (i + 1))))) :: (n ++ ow)) (fun _ h => h) (.cons_cons _ (.cons _ (.cons _ (.cons _ (List.Sublist.refl _))))) ?_
    clear e hm1 hl6 hl7 hsn
    have hro : ∃ r, getI tv (i : Int) = some r ∧ ToldAt (wholeH BH) W n r (toldB P.length js i) := by
      obtain ⟨b, hb, hto⟩ := pairedAt htv (List.getElem?_eq_getElem (l := tv) (i := i) (by omega))
      rw [List.getElem?_map, List.getElem?_range hi] at hb
      obtain rfl := Option.some.inj hb
      exact ⟨_, List.getElem?_eq_getElem (by omega), hto⟩
    refine hro.elim fun r hro => ?_
    have hr := hro.1
    have hto := hro.2
    clear hro
    by_cases hA : (seenF (js.take (i + 1))).length < P.length
    · rw [told_before hi hA] at hto
      rw [hto.1 rfl] at hr
      refine Ws.iteT (by tm_at "tst") (by tm_at "tt") ?_
      repeat tm_at "ws"
      exact ⟨_, _, .mk D2, by tm_at "sub", List.Sublist.refl _⟩
    have hA2 : (seenF (js.take (i + 1))).length = P.length := by omega
    by_cases hD : j ∈ js.take i
    · have hr2 : plainN r = true ∧ (r.isN = true ∨ P.length = 1) := by
        by_cases h2 : 2 ≤ P.length
        · rw [told_again h2 hjz hi (by rw [hjj]; exact hD) hA2] at hto
          obtain rfl := hto.1 rfl
          exact ⟨rfl, .inl rfl⟩
        · refine ⟨?_, .inr (by omega)⟩
          cases hb : toldB P.length js i with
          | false => rw [hb] at hto; rw [hto.1 rfl]; rfl
          | true => rw [hb] at hto; obtain ⟨T, X, e, -⟩ := hto.2 rfl; rw [e]; rfl
      refine Ws.iteT (by tm_at "tst") (by tm_at "tt") ?_
      refine Ws.iteF (Tst.and (Tst.cmp (by tm_at "ev") (by tm_at "ev") (Op.isnt hr2.1) rfl) fun _ => Tst.and (by tm_at "tst") fun _ => Tst.and0) ?_ ?_
      · rcases hr2.2 with h | h
        · rw [h]; rfl
        · rw [decide_eq_false (by omega)]; simp
      repeat tm_at "ws"
      exact ⟨_, _, .mk D2, by tm_at "sub", List.Sublist.refl _⟩
    · rw [told_last hjs hi (by rw [hjj]; exact hD) hA] at hto
      refine (hto.2 rfl).elim fun T2 h => h.elim fun X h => ?_
      rw [h.1] at hr
      have hm3 := List.mem_append_left ow h.2.1
      have hm4 := List.mem_append_left ow h.2.2
      refine Ws.iteF (by tm_at "tst") (by tm_at "ff") ?_
      refine Ws.iteF (by tm_at "tst") (by tm_at "ff") ?_
      repeat tm_at "ws"
      exact ⟨_, _, .mk D2, by tm_at "sub", List.Sublist.refl _⟩
  case done =>
    refine fun m1 n1 h9 => SeenI.casesOn h9 fun SL => ?_
    refine Ws.weak (fun _ h => h) (List.sublist_cons_self _ _) ?_
    tm_at "ws"
    exact ⟨rfl, rfl⟩
end

noncomputable def optR (b : Bool) : Int × By := if b = true then (148, [0, 9]) else (7, [4, 0, 0, 0, 0])
noncomputable def OptBs (bs : List Bool) : Prop := bs = [] ∨ bs = [true] ∨ bs = [false] ∨ bs = [true, false] ∨ bs = [false, true]
theorem OptBs.isOpts {bs : List Bool} (h : OptBs bs) : IsOpts (writeB (bs.map optR)) := by
  rcases h with rfl | rfl | rfl | rfl | rfl
  · exact .inl rfl
  · exact .inr (.inl rfl)
  · exact .inr (.inr (.inl rfl))
  · exact .inr (.inr (.inr (.inl rfl)))
  · exact .inr (.inr (.inr (.inr rfl)))
theorem OptBs.kept {bs : List Bool} (h : OptBs bs) : (List.replicate (if bs.any id = true then (1 : Int) else 0).toNat [(148 : UInt8), 4, 0, 9]).flatten = laterB (writeB (bs.map optR)) := by
  rcases h with rfl | rfl | rfl | rfl | rfl <;> decide
theorem OptBs.bound {bs : List Bool} (h : OptBs bs) : (∀ r ∈ bs.map optR, 2 ≤ r.1 ∧ r.1 ≤ 255 ∧ r.2.length ≤ 5) ∧ ((bs.map optR).map optB).flatten.length ≤ 36 ∧ bs.length ≤ 2 := by
  rcases h with rfl | rfl | rfl | rfl | rfl <;> decide
noncomputable abbrev refsO (DA DR : Addr) (bs : List Bool) : List AV := bs.map fun b => .ref (if b = true then DA else DR)
section
variable {w : World} {n rest : ALed} {S l DA DR : Addr} {a b : Int} {bs : List Bool}
theorem optPaired (h1 : (DA, .tup [.int 148, .bytes [0, 9]]) ∈ n) (h2 : (DR, .tup [.int 7, .bytes [4, 0, 0, 0, 0]]) ∈ n) (bs : List Bool) : Paired (OptAt n) (refsO DA DR bs) (bs.map optR) := by
  induction bs with
  | nil => exact .nil
  | cons b bs ih =>
    refine .cons ?_ ih
    cases b with
    | true => exact ⟨DA, rfl, h1⟩
    | false => exact ⟨DR, rfl, h2⟩
theorem Op.inOpts {x y : By} (hl : (l, .lst (refsO DA DR bs)) ∈ n) (h1 : (DA, .tup [.int 148, .bytes x]) ∈ n) (h2 : (DR, .tup [.int 7, .bytes y]) ∈ n) : Op w n (compareOp .In) (.ref DA) (.ref l) (.bool (bs.any id)) := fun c sc ok m va vb e1 e2 s Q E F q => by
  cases e1; cases e2
  obtain ⟨us, k, hu, ho⟩ := F.lstAt hl
  obtain ⟨us1, hu1, ho1⟩ := F.tupAt h1
  obtain ⟨us2, hu2, ho2⟩ := F.tupAt h2
  obtain ⟨u1, v1, rfl, ⟨t1, rfl⟩, ⟨t2, rfl⟩⟩ := hu1.two
  obtain ⟨u2, v2, rfl, ⟨t3, rfl⟩, ⟨t4, rfl⟩⟩ := hu2.two
  have hD : DR ≠ DA := fun e => by
    rw [e, ho1] at ho2
    simp at ho2
  have ha : us.any (fun v => decide (v = Value.ref DA)) = bs.any id := by
    clear ho ho1 ho2 q F hl
    induction bs generalizing us with
    | nil => cases hu; rfl
    | cons b bs ih =>
      cases hu with | cons g1 g2 => ?_
      cases g1
      rw [List.any_cons, List.any_cons, ih _ g2]
      congr 1
      cases b with
      | true => exact decide_eq_true rfl
      | false => exact decide_eq_false fun e => hD (by injection e)
  have hu0 : c.A.in1.units < cLine := ok.un2
  refine PySem.SeqAt.in_listAt (items := us.toArray) (fun v => decide (v = Value.ref DA)) ⟨_, ho, rfl, _, rfl⟩ (fun v hv => ?_) ?_
  · by_cases e : v = .ref DA
    · rw [e, decide_eq_true rfl]; exact PySem.SeqAt.EqAt.same _
    · obtain ⟨i, hi, ei⟩ := List.getElem_of_mem (show v ∈ us by simpa using hv)
      obtain ⟨a', ha', hv'⟩ := hu.get (List.getElem?_eq_getElem hi)
      rw [List.getElem?_map] at ha'
      obtain ⟨b', -, rfl⟩ := Option.map_eq_some_iff.mp ha'
      have hv' : us[i] = .ref (if b' = true then DA else DR) := hv'
      rw [ei] at hv'
      have hv2 : v = .ref DR := by
        cases b' with
        | true => exact absurd hv' e
        | false => exact hv'
      subst hv2
      rw [decide_eq_false e]
      refine PySem.SeqAt.EqAt.of_refs hD ?_
      exact PySem.SeqAt.RcAt.tuples (e := fun j => match j with | 0 => false | _ => decide (y = x)) ⟨_, ho2, rfl, _, rfl⟩ ⟨_, ho1, rfl, _, rfl⟩ hu0 fun j k1 k2 => by
        match j, k1, k2 with
        | 0, _, _ => exact (PySem.MeetsSeq.EqGives.int 7 148 t3 t1).at _ _
        | 1, _, _ => exact eqAtBytes y x t4 t2
        | j + 2, k1, _ => exact absurd k1 (by simp)
  · rw [← Array.any_toList, ha]
    exact q (.bool _) _ _ s.heap s.toks ⟨rfl, .bool _, rfl, rfl, rfl⟩ F
theorem Op.mulB {x : By} {i : Int} (h0 : x ≠ []) (h1 : 0 ≤ i) (h2 : i ≤ 100) {z : By} (e : (List.replicate i.toNat x).flatten = z) (hz : x.length ≤ 16) : Op w n (binaryOp .Mult) (.bytes x) (.int i) (.bytes z) := fun c sc ok m va vb ⟨t, e1⟩ ⟨u, e2⟩ s Q E F q => by
  subst e
  subst e1 e2
  exact bytes_mul_any h0 (by omega) (by omega) hz fun t' k => q _ _ _ s.heap k ⟨rfl, .bytes _, ⟨t', rfl⟩, rfl, rfl⟩ F
inductive OptJ (S DA DR : Addr) (rest : ALed) : Vars → ALed → Prop
  | mk (Lr : Addr) (bs : List Bool) (a b : Int) : OptBs bs → 0 ≤ b → b < 2147483647 → OptJ S DA DR rest [(Str.ofString "rows", AV.ref Lr), (Str.ofString "alert", AV.ref DA), (Str.ofString "record", AV.ref DR), (Str.ofString "source", AV.ref S)] ((S, srcO a b) :: (Lr, .lst (refsO DA DR bs)) :: (DR, .tup [.int 7, .bytes [4, 0, 0, 0, 0]]) :: (DA, .tup [.int 148, .bytes [0, 9]]) :: rest)
theorem options_fn (hb0 : 0 ≤ b) (hb1 : b < 2147483647) {C : AV → ALed → Prop}
    (hC : ∀ l Lr DA DR a' b' bs, OptBs bs → 0 ≤ b' → b' < 2147483647 → C (.ref l) ((l, .lst [.ref Lr, .bytes (writeB (bs.map optR)), .bytes (laterB (writeB (bs.map optR)))]) :: (S, srcO a' b') :: (Lr, .lst (refsO DA DR bs)) :: (DR, .tup [.int 7, .bytes [4, 0, 0, 0, 0]]) :: (DA, .tup [.int 148, .bytes [0, 9]]) :: rest)) :
    CallK w 3 ((S, srcO a b) :: rest) (.ref 537) [.ref S] C := by
  (refine' CallK.fn [(Str.ofString "source", .ref S)] ?o ?c ?b ?s ?_; (case o => k_is); (case c => k_is); (case b => exact bind1 fun s9 _ X9 => by first | exact BindsTo.of_eq rfl | exact binds_K X9 rfl (by k_is) rfl rfl rfl); (case s => kernel_rfl!))
  tm_at "ws"
  rename_i DA DR T
  refine Ws.front (p := (S, srcO a b)) (by tm_at "take") ?_
  refine Ws.cut (OptJ S DA DR rest) ?_ ?_
  · refine Ws.assign ?_ (by tm_at "pick") (by tm_at "kr") (by tm_at "kr") rfl
    tm_at "evc"
    refine CallK.front (p := (S, srcO a b)) (by tm_at "take") (CallK.le (one_fn hb0 hb1 (.head _) (by exact Nat.succ_pos _) (by exact Nat.le_of_ble_eq_true (Eq.refl true)) fun i r a' b' hr m0 m1 => ?_) (Eq.refl true))
    rename_i l6 l5 l4 l3 l2 l1 l0
    refine Exists.elim (p := fun Lr => ∃ bs, r = .ref Lr ∧ OptBs bs ∧ ((Lr, AO.lst (refsO DA DR bs)) :: (DR, .tup [.int 7, .bytes (octs [4, 0, 0, 0, 0])]) :: (DA, .tup [.int 148, .bytes (octs [0, 9])]) :: rest).Sublist ((l0, .lst [.ref l6, .ref l5, .ref l4, .ref l3, .ref l2, .ref l1]) :: (l1, .lst [.ref DR, .ref DA]) :: (l2, .lst [.ref DA, .ref DR]) :: (l3, .lst [.ref DR]) :: (l4, .lst [.ref DA]) :: (l5, .lst []) :: (l6, .lst []) :: (T, .tup [.ref DA, .ref DR]) :: (DR, .tup [.int 7, .bytes (octs [4, 0, 0, 0, 0])]) :: (DA, .tup [.int 148, .bytes (octs [0, 9])]) :: rest)) ?_ fun Lr h => ?_
    · match i, hr with
      | 0, hr => exact ⟨_, [], (Option.some.inj hr).symm, .inl rfl, .cons _ (.cons _ (.cons _ (.cons _ (.cons _ (.cons _ (.cons_cons _ (.cons _ (List.Sublist.refl _))))))))⟩
      | 1, hr => exact ⟨_, [], (Option.some.inj hr).symm, .inl rfl, .cons _ (.cons _ (.cons _ (.cons _ (.cons _ (.cons_cons _ (.cons _ (.cons _ (List.Sublist.refl _))))))))⟩
      | 2, hr => exact ⟨_, [true], (Option.some.inj hr).symm, .inr (.inl rfl), .cons _ (.cons _ (.cons _ (.cons _ (.cons_cons _ (.cons _ (.cons _ (.cons _ (List.Sublist.refl _))))))))⟩
      | 3, hr => exact ⟨_, [false], (Option.some.inj hr).symm, .inr (.inr (.inl rfl)), .cons _ (.cons _ (.cons _ (.cons_cons _ (.cons _ (.cons _ (.cons _ (.cons _ (List.Sublist.refl _))))))))⟩
      | 4, hr => exact ⟨_, [true, false], (Option.some.inj hr).symm, .inr (.inr (.inr (.inl rfl))), .cons _ (.cons _ (.cons_cons _ (.cons _ (.cons _ (.cons _ (.cons _ (.cons _ (List.Sublist.refl _))))))))⟩
      | 5, hr => exact ⟨_, [false, true], (Option.some.inj hr).symm, .inr (.inr (.inr (.inr rfl))), .cons _ (.cons_cons _ (.cons _ (.cons _ (.cons _ (.cons _ (.cons _ (.cons _ (List.Sublist.refl _))))))))⟩
      | i + 6, hr => cases hr
    obtain ⟨bs, rfl, ho, hsub⟩ := h
    refine Ws.weak (fun _ h => h) (.cons_cons _ hsub) ?_
    repeat tm_at "ws"
    exact OptJ.mk Lr bs a' b' ho m0 m1
  clear hb0 hb1
  refine fun _ _ h9 => OptJ.casesOn h9 fun Lr bs a b ho m0 m1 => ?_
  have o1 := ho.bound.1
  have o2 := ho.bound.2.1
  have o3 := ho.bound.2.2
  have o4 : (bs.map optR).length = bs.length := List.length_map _
  refine Ws.assign ?_ (by tm_at "pick") (by tm_at "kr") (by tm_at "kr") rfl
  refine' EvK.joinB ?ja ?jb ?jc ?_
  case jb => exact rfl
  case jc => exact rfl
  case ja => tm_at "ev"
  refine EvKs.cons ?_ rfl
  refine EvK.comp (sc' := _) [] (EvK.ofE (by tm_at "ev") ⟨refsO DA DR bs, [(Lr, .lst (refsO DA DR bs))], [], (S, srcO a b) :: (DR, .tup [.int 7, .bytes [4, 0, 0, 0, 0]]) :: (DA, .tup [.int 148, .bytes [0, 9]]) :: rest, JoinI ((S, srcO a b) :: (DR, .tup [.int 7, .bytes [4, 0, 0, 0, 0]]) :: (DA, .tup [.int 148, .bytes [0, 9]]) :: rest) ((bs.map optR).map optB),
    SrcAt.lst (.tail .head) (.inr ⟨⟨_, _, _, rfl⟩, fun x hx => ?_⟩), fun _ _ _ _ _ _ _ h => (nomatch h), by rw [List.length_map]; omega, .mk, ?_, ?_⟩) (Cap.none (by rfl) fun _ => rfl) (List.forall_mem_nil _) (fun _ _ => rfl)
  · obtain ⟨b, -, rfl⟩ := List.mem_map.mp hx
    exact ⟨_, rfl⟩
  · refine fun i v as1 n1 hv h9 => JoinI.casesOn h9 ?_
    refine optAt (optPaired (n := (S, srcO a b) :: (DR, .tup [.int 7, .bytes [4, 0, 0, 0, 0]]) :: (DA, .tup [.int 148, .bytes [0, 9]]) :: rest) (.tail _ (.tail _ (.head _))) (.tail _ (.head _)) bs) hv fun kk dd T hr hT => ?_
    have hk : 2 ≤ kk ∧ kk ≤ 255 ∧ dd.length ≤ 5 := o1 _ (List.mem_of_getElem? hr)
    have hk1 := hk.1
    have hk2 := hk.2.1
    have hd := hk.2.2
    refine ⟨_, TgtK.pair hT (by kernel_rfl!) (by kernel_rfl!) (by rfl), true, Tests.nil, fun _ => ?_, fun e => by cases e⟩
    tm_at "evk"
    exact .next (by rw [List.getElem?_map, hr]; rfl)
  · refine fun D as1 n1 h9 => JoinI.casesOn h9 ?_
    have e : ((bs.map optR).map optB).take (refsO DA DR bs).length = (bs.map optR).map optB := by
      rw [show (refsO DA DR bs).length = ((bs.map optR).map optB).length by simp only [List.length_map], List.take_length]
    have hfl : ((bs.map optR).map optB).flatten.length ≤ 100 := by omega
    refine ⟨_, fun _ _ _ F => F.back (.tail .head), EvKs.nil ?_⟩
    rw [e]
    refine CallK.to (CallK.joinB (.head _) (by omega)) ?_
    refine Ws.weak (fun _ h => h) (List.sublist_cons_self _ _) ?_
    refine Ws.assign (EvK.ofE (Ev.bin (by tm_at "ev") (Ev.call (by tm_at "ev") (by tm_at "kr") rfl rfl (Evs.cons (Ev.cmp (by tm_at "ev") (by tm_at "ev") (Op.inOpts (.tail _ (.head _)) (.tail _ (.tail _ (.tail _ (.head _)))) (.tail _ (.tail _ (.head _)))) rfl) .nil rfl) CallK.intB) (Op.mulB (by decide) (by split <;> decide) (by split <;> decide) (show (List.replicate (if bs.any id = true then (1 : Int) else 0).toNat (octs [148, 4, 0, 9])).flatten = _ from ho.kept) (by decide))) ?_) (by tm_at "pick") (by tm_at "kr") (by tm_at "kr") rfl
    tm_at "ws"
    exact hC _ _ _ _ _ _ _ ho m0 m1
end

noncomputable def cellLv (sc : Scope) (vals : List (Str × Value)) (mv : Str → Option Value) : Str → Option Value := fun y => if kindIs sc y .cell = true then vals.lookup y else mv y
/-- the law's frame: some names lie in cells -/
noncomputable abbrev lawCx (mean : ExcName → Option Value) (mg mb : Str → Option Value) (cn : Str) (sc : Scope) (L a : Addr) (ccd : Value) (base : Heap) (hid : Led) (vals : List (Str × Value)) : Cx :=
  ⟨mean, mg, mb, callerA.depth + 1, 7, some [], cn, sc, L, a, ccd, cellsFrom (L + 1) sc.names [], [], callerA, base, base, envOfC cn sc L a ccd, hid, cellLv sc vals⟩
section
variable {mean : ExcName → Option Value} {mg mb : Str → Option Value} {cn : Str} {sc : Scope} {L a : Addr} {ccd : Value} {cl : List (Str × Addr)} {base : Heap} {hid H1 H2 : Led} {vals : List (Str × Value)} {w : World} {d : Nat} {m : Vars} {n : ALed} {s : Shared} {Q : Flow → Shared → Prop} {E : Value → Shared → Prop}
theorem lawOk (B : Below callerA base [] base) (K : (KK w).In base) (T : TopV mean mg mb base) (hk : sc.kind = .function) (hcl : cellsFrom (L + 1) sc.names [] = cl) (hc : ∀ x v, vals.lookup x = some v → ∃ ca o, cl.lookup x = some ca ∧ (ca, o) ∈ hid ∧ o.data = .cell (some v)) :
    (lawCx mean mg mb cn sc L a ccd base hid vals).OkM w sc 10 := by
  refine ⟨⟨B, K, T, hk, rfl, hk, rfl, rfl, fun h mv y v F _ k e => ?_, fun h mv y v F hh k e => ?_, by show callerA.depth + 1 + 10 < recursionLimit; decide, by show 7 + 8 * 10 + 2 < cLine; decide⟩, rfl, fun mv y v k => ?_⟩
  · have e' : (if kindIs sc y .cell = true then vals.lookup y else mv y) = some v := e
    rw [if_neg (notCell k)] at e'
    exact ⟨mv, F.ns, e'⟩
  · have e' : (if kindIs sc y .cell = true then vals.lookup y else mv y) = some v := e
    rw [if_pos k] at e'
    obtain ⟨ca, o, h1, h2, h3⟩ := hc y v e'
    exact ⟨ca, o, by rw [← hcl] at h1; exact h1, hh _ h2, h3⟩
  · funext z
    show (if kindIs sc z .cell = true then vals.lookup z else if z = y then some v else mv z) = if z = y then some v else if kindIs sc z .cell = true then vals.lookup z else mv z
    by_cases hz : z = y
    · subst hz
      rw [if_neg (notCell k), if_pos rfl, if_pos rfl]
    · rw [if_neg hz, if_neg hz]
theorem lawGo {body : List Stmt} (B : Below callerA base [] base) (K : (KK w).In base) (T : TopV mean mg mb base) (hk : sc.kind = .function) (hcl : cellsFrom (L + 1) sc.names [] = cl)
    (h : (∀ hid vals, (∀ x v, vals.lookup x = some v → ∃ ca o, cl.lookup x = some ca ∧ (ca, o) ∈ hid ∧ o.data = .cell (some v)) → (lawCx mean mg mb cn sc L a ccd base hid vals).OkM w sc 10) →
      wpAny (model PR w) (lawCx mean mg mb cn sc L a ccd base [] []).A (execs body (lawCx mean mg mb cn sc L a ccd base [] []).env) Q E s) : wpAny (model PR w) (callerA.deeper (envOfC cn sc L a ccd)) (execs body (envOfC cn sc L a ccd)) Q E s :=
  h fun hid vals hc => lawOk B K T hk hcl hc
theorem lookup_cons {x y : Str} {u v : Value} {r : List (Str × Value)} (h : List.lookup x ((y, u) :: r) = some v) : (x = y ∧ v = u) ∨ r.lookup x = some v := by
  rw [List.lookup_cons] at h
  split at h
  · rename_i hx
    exact .inl ⟨eq_of_beq hx, (Option.some.inj h).symm⟩
  · exact .inr h
theorem rangeAt {k i : Nat} {v : AV} (h : ((List.range k).map fun (i : Nat) => AV.int (i : Int))[i]? = some v) : i < k ∧ v = .int i := by
  rw [List.getElem?_map] at h
  by_cases hi : i < k
  · rw [List.getElem?_range hi] at h; exact ⟨hi, (Option.some.inj h).symm⟩
  · rw [List.getElem?_eq_none (by rw [List.length_range]; omega)] at h; cases h
theorem lawStep {c : Cx} (ok : c.OkM w sc d) {st : Stmt} {rest : List Stmt} (J : Vars → ALed → Prop) (F : Frm w c m n s) (h : Ws ⟨w, sc, d, m, n⟩ [[st]] fun f m1 n1 => f = .next ∧ J m1 n1)
    (k : ∀ m1 n1 h1 tk1, J m1 n1 → Frm w c m1 n1 { s with heap := h1, toks := tk1 } → wpAny (model PR w) c.A (execs rest c.env) Q E { s with heap := h1, toks := tk1 }) : wpAny (model PR w) c.A (execs (st :: rest) c.env) Q E s := by
  have inv : ∀ {Q : Flow → Shared → Prop}, wpAny (model PR w) c.A (execs [st] c.env) Q E s → wpAny (model PR w) c.A (exec st c.env) Q E s := fun h Γ p hΓ => by
    have h' := h Γ p hΓ
    rw [execs_cons, Sem.wp_bind'] at h'
    exact Sem.wp_mono _ Γ _ (fun f p' s' h'' => by cases f <;> exact h'') (fun _ _ _ x => x) _ _ h'
  refine wpAny_execs_cons (inv (h c ok s _ E F fun f m1 n1 h1 tk1 hc F1 => ?_))
  cases f with
  | next => exact k m1 n1 h1 tk1 hc.2 F1
  | _ => exact nomatch hc.1
theorem lawRun {c : Cx} (ok : c.OkM w sc d) {body : List Stmt} {P : AV → ALed → Prop} (F : Frm w c m n s) (h : Ws ⟨w, sc, d, m, n⟩ [body] (RetP P)) (q : ∀ f h1 tk1, (∃ v n1 m1, (∃ a : AV, a.has v ∧ P a n1) ∧ (f = .ret v ∨ f = .next ∧ v = .none) ∧ Frm w c m1 n1 { s with heap := h1, toks := tk1 }) → Q f { s with heap := h1, toks := tk1 }) :
    wpAny (model PR w) c.A (execs body c.env) Q E s := h c ok s Q E F fun f m1 n1 h1 tk1 hc F1 => q f h1 tk1 (by
  cases f with
  | ret v => exact ⟨v, n1, m1, hc, .inl rfl, F1⟩
  | next => exact ⟨.none, n1, m1, ⟨.none, rfl, hc⟩, .inr ⟨rfl, rfl⟩, F1⟩
  | _ => exact hc.elim)
/-- a cell is filled -/
theorem lawCell {c : Cx} (hcc : c = lawCx mean mg mb cn sc L a ccd base (H1 ++ (ca, o) :: H2) vals) (ok : c.OkM w sc d) {x : Str} {xp pos : Pos} {e : Expr} {rest : List Stmt} {v0 : Option Value} (J : AV → ALed → Prop) (F : Frm w c m n s) (hn : noComp e = true)
    (h : EvK ⟨w, sc, d, m, n⟩ e J) (hd : o.data = .cell v0) (hcl : cellsFrom (L + 1) sc.names [] = cl) (hx : cl.lookup x = some ca) (hk : kindIs sc x .cell = true) (hm : keyOut x m = true)
    (k : ∀ b v n1 o' h1 tk1, b.has v → J b n1 → o'.data = .cell (some v) → Frm w (lawCx mean mg mb cn sc L a ccd base (H1 ++ (ca, o') :: H2) ((x, v) :: vals)) ((x, b) :: m) n1 { s with heap := h1, toks := tk1 } → wpAny (model PR w) c.A (execs rest c.env) Q E { s with heap := h1, toks := tk1 }) :
    wpAny (model PR w) c.A (execs (.Assign [.Name x xp] e pos :: rest) c.env) Q E s := by
  subst hcc
  refine wpAny_execs_cons (wpAny_Assign_Name (h.run ok.ok F fun v n1 h1 tk1 b hb hJ F1 => ?_) (noSwap hn _ _ _))
  obtain ⟨mv, l, F', V, N, R, D⟩ := F1
  have hm2 : (ca, o) ∈ l ++ (H1 ++ (ca, o) :: H2) := List.mem_append_right _ (List.mem_append_right _ (.head _))
  refine wpAny_storeName_cell ok.ok.fkind (kindIs_of hk).1 (by rw [← hcl] at hx; exact hx) ⟨o, (N _ hm2).1, hd⟩ fun h2 hc hs => ?_
  obtain ⟨o', ho', hd'⟩ := hc
  rw [← List.append_assoc] at N D
  obtain ⟨F2, N2, D2⟩ := chg F' N D (fun b x hb e => hs.extBut b x hb e) ho'
  rw [List.append_assoc] at N2 D2
  refine k b v n1 o' h2 tk1 hb hJ hd' ⟨mv, l, F2, fun p hp => ?_, N2, R, D2⟩
  rcases List.mem_cons.mp hp with rfl | hp
  · exact ⟨v, by show (if kindIs sc x .cell = true then List.lookup x ((x, v) :: vals) else mv x) = some v; rw [if_pos hk]; simp, hb⟩
  · obtain ⟨u, hu, hp'⟩ := V p hp
    have hne : (p.1 == x) = false := by simpa using keyOut_of hm p hp
    have hu' : (if kindIs sc p.1 .cell = true then vals.lookup p.1 else mv p.1) = some u := hu
    exact ⟨u, by show (if kindIs sc p.1 .cell = true then List.lookup p.1 ((x, v) :: vals) else mv p.1) = some u; rw [List.lookup_cons, hne]; exact hu', hp'⟩
end
section
variable {prog : Program} {w : World} {A : Around} {E : Value → Shared → Prop} {s : Shared} {h₀ : Heap} {L : Addr} {m : Str → Option Value} {news : Led}
theorem cutTo4 {b n : Nat} (hb : b ≤ n) : Builtin.Slice.sliceAdjust none (some (b : Int)) 1 (n : Int) = (0, (b : Int)) ∧ Builtin.Slice.slicePlaces 0 (b : Int) 1 = b := by
  constructor
  · unfold Builtin.Slice.sliceAdjust
    simp only [show ¬ ((1 : Int) < 0) by omega, show ¬ ((b : Int) < 0) by omega, if_false]
    congr 1
    omega
  · unfold Builtin.Slice.slicePlaces
    simp only [show (1 : Int) > 0 by omega, if_true, Int.ediv_one]
    split <;> omega
theorem sliceTo_ {sl : Addr} {b n : Nat} {u : Tok} {Q : Int × Int × Nat → Shared → Prop} (hs : s.heap.IsSliceOf sl .none (.int b u) .none) (hb : b ≤ n) (h : Q (0, 1, b) s) :
    wpAny (model prog w) A (Builtin.Slice.sliceApplied (.ref sl) (pure (n : Int))) Q E s := by
  obtain ⟨o, ho, _, hd⟩ := hs
  unfold Builtin.Slice.sliceApplied Builtin.Slice.sliceFields
  refine wpAny_bind (wpAny_bind (wpAny_field ho hd (x := .none) rfl (wpAny_bind (wpAny_field ho hd (x := .int b u) rfl (wpAny_bind (wpAny_field ho hd (x := .none) rfl (wpAny_pure ?_)))))))
  refine wpAny_bind (slicePart_none ?_)
  show wpAny _ _ (if ((1 : Int) == 0) = true then _ else _) _ _ s
  rw [if_neg (by decide)]
  refine wpAny_bind (slicePart_none (wpAny_bind (slicePart_int (wpAny_bind (wpAny_pure ?_)))))
  show wpAny _ _ (match Builtin.Slice.sliceAdjust none (some (b : Int)) 1 (n : Int) with | (lo, hi) => pure (lo, (1 : Int), Builtin.Slice.slicePlaces lo hi 1)) _ _ s
  rw [(cutTo4 hb).1]
  show wpAny _ _ (pure ((0 : Int), (1 : Int), Builtin.Slice.slicePlaces 0 (b : Int) 1)) _ _ s
  rw [(cutTo4 hb).2]
  exact wpAny_pure h
theorem getTo_ {t sl : Addr} {items : Array Value} {b : Nat} {u : Tok} {Q : Value → Shared → Prop} (ht : IsTup s.heap t items) (hs : s.heap.IsSliceOf sl .none (.int b u) .none) (hb : b < items.size) (hz : items.size ≤ sizeLine)
    (h : Q (.ref s.heap.objs.size) { s with heap := s.heap.push { cls := .type "tuple", data := .seq (items.toList.take b).toArray } }) : wpAny (model prog w) A (getItem (.ref t) (.ref sl)) Q E s := by
  have hok : sizeOk (.seq (items.toList.take b).toArray) := by
    show (items.toList.take b).toArray.size ≤ sizeLine
    rw [List.size_toArray, List.length_take, Array.length_toList]
    omega
  obtain ⟨o, ho, hc, hd⟩ := id hs
  have hT : s.TypeIs (.ref sl) "slice" := ⟨o, ho, hc⟩
  unfold getItem
  try with_reducible refine wpAny_holding ?_
  first | refine wpAny_bind (wpAny_pure ?_) | skip
  refine wpAny_bind (wpAny_sequenceKey ht.typeIs (by decide) ?_)
  refine wpAny_bind (wpAny_callSpecial?_slot (name := Str.ofString "__getitem__") ht.typeIs slot_tuple_getitem
    (wpAny_call_entry slot_tuple_getitem ht.typeIs entry_tuple_getitem ?_ (args_tuple_getitem _ _)))
  show wpAny _ _ (Builtin.Tuple.tupleItemsOf (.ref t) >>= _) _ _ s
  refine wpAny_bind (tupleItemsOf_ ht ?_)
  refine wpAny_bind (wpAny_typeOf hT ?_)
  rw [if_pos (by decide)]
  refine wpAny_bind (sliceTo_ hs (Nat.le_of_lt hb) ?_)
  show wpAny _ _ (if ((0 : Int) == 0 && (1 : Int) == 1 && b == items.size) = true then _ else _) _ _ s
  rw [if_neg (by simp; omega)]
  have e : ((List.range b).filterMap fun (k : Nat) => items[((0 : Int) + (k : Int) * 1).toNat]?).toArray = (items.toList.take b).toArray := by
    have := pick_run items 0 b
    rw [List.filterMap_map] at this
    rw [List.drop_zero] at this
    rw [← this]
    congr 2
    funext k
    show items[((0 : Int) + (k : Int) * 1).toNat]? = items[0 + k]?
    congr 1
    omega
  rw [e]
  first
    | exact wpAny_bind (m := Builtin.Tuple.tupleExact _) (wpAny_newObj_type (wpAny_pure ⟨_, rfl, wpAny_pure h⟩) hok)
    | exact wpAny_bind (m := Builtin.Tuple.tupleExact _) (wpAny_newObj_type (wpAny_bind (wpAny_pure (wpAny_pure ⟨_, rfl, wpAny_pure h⟩))) hok)
    | exact wpAny_bind (wpAny_bind (m := Builtin.Tuple.tupleExact _) (wpAny_newObj_type (wpAny_pure (wpAny_pure ⟨_, rfl, wpAny_pure h⟩)) hok))
    | exact wpAny_bind (wpAny_bind (m := Builtin.Tuple.tupleExact _) (wpAny_newObj_type (wpAny_pure ⟨_, rfl, wpAny_pure h⟩) hok))
end
theorem intsOf_map : ∀ is : List Int, intsOf (is.map AV.int) = some is
  | [] => rfl
  | i :: is => by show (match intsOf (is.map AV.int) with | some is => some (i :: is) | none => none) = _; rw [intsOf_map is]
noncomputable abbrev rangeO (a b : Int) (t u v : Tok) : Obj := { cls := .type "range", dict := Option.none, data := .fields #[.int a t, .int b u, .int 1 v], slots := #[] }
section
variable {w : World} {sc : Scope} {d : Nat} {m : Vars} {n : ALed} {P : AV → ALed → Prop}
theorem CallK.range {b : Int} (hb : 0 ≤ b ∧ b ≤ 1000000) (hP : ∀ R t u v, P (.ref R) ((R, .raw (rangeO 0 b t u v)) :: n)) : CallK w d n (.type "range") [.int b] P :=
  (range_new (.one _) (by decide) ⟨Int.le_refl 0, hb⟩).mono fun a n' ⟨r, t, u, v, e1, e2⟩ => by rw [e1, e2]; exact hP r t u v
theorem SrcAt.range {tg : Expr} {R : Addr} {b : Int} {t u v : Tok} {k : Nat} {n1 n0 : ALed} (ht : Take (R, .raw (rangeO 0 b t u v)) n1 n0) (hb : b = k) (hk : k ≤ 1000000) (hg : plainG tg = true) : SrcAt w tg (.ref R) ((List.range k).map fun (i : Nat) => .int (i : Int)) [(R, .raw (rangeO 0 b t u v))] [] n1 n0 := fun l Rl => by
  obtain ⟨own, l0, hp, h1, h2⟩ := Rl.take ht
  refine ⟨own, l0, hp, h1, h2, fun x hv A s Q E hh hk' q => ?_⟩
  obtain rfl : x = .ref R := hv
  obtain rfl := h1.one
  have hsz : Builtin.Range.rangeSize 0 b 1 = ((k : Nat) : Int) := size_one (by omega)
  refine wpAny_pyIter_range (hk' _ (.head _)) (small_of (by decide) (by decide) (by omega) (by omega) (by decide) (by decide) k hsz hk) ?_
  refine q _ (fun i h => IsRangeIter h s.heap.objs.size (0 + (i : Nat) * 1) ((k : Int) - (i : Nat)) 1) ?_ rfl (by show IsRangeIter _ _ _ _ _; rw [hsz]; simpa using Heap.get?_push_size _ rfl) (fun i h st => ⟨_, st⟩) fun i a v s' Q' E' _ _ _ q' => letGo_plain hg q'
  have W : Walks PR w A s.heap.objs.size [s.heap.objs.size] [s.heap.objs.size] k _ _ := (Walks.range hh _ 0 1 k).bound
  have W' := Walks.sub' W (P' := fun i v => ∃ a, ((List.range k).map fun (i : Nat) => AV.int (i : Int))[i]? = some a ∧ a.has v) fun i v hi ⟨_, t, e⟩ => ⟨.int i, by simp [hi], t, by rw [e, Int.mul_one, Int.zero_add]⟩
  have e : ((List.range k).map fun (i : Nat) => AV.int (i : Int)).length = k := by simp
  rw [e]
  exact { W' with sub := fun b hb => List.mem_cons.mpr (.inl (List.mem_singleton.mp hb)), frame := fun i h h' st ee => W'.frame i h h' st fun b hb => ee b (List.mem_cons.mpr (.inl (List.mem_singleton.mp hb))) }
theorem Frm.newT {c : Cx} {s : Shared} {mv : Str → Option Value} {l : Led} {D : Addr} {us : List Value} {as : List AV} {h' : Heap} (V : VarsAt m (c.lv mv)) (R : Real w.params n l) (Dn : ((l ++ c.hid).map (·.1)).Nodup) (hu : Has as us)
    (F2 : Fr c.h₀ c.L h' mv) (N2 : News c.h₀ c.L h' ((D, tupObj us) :: (l ++ c.hid))) (hlt : ∀ p ∈ l ++ c.hid, p.1 < D) : Frm w c m ((D, .tup as) :: n) { s with heap := h' } :=
  ⟨mv, (D, _) :: l, F2, V, N2, .tup hu R, by
    rw [List.cons_append, List.map_cons, List.nodup_cons]
    refine ⟨fun h => ?_, Dn⟩
    obtain ⟨p, hp, e⟩ := List.mem_map.mp h
    exact absurd e (Nat.ne_of_lt (hlt p hp))⟩
theorem Has.drop {as : List AV} {us : List Value} (h : Has as us) : ∀ i, Has (as.drop i) (us.drop i) := by
  induction h with
  | nil => intro i; rw [List.drop_nil, List.drop_nil]; exact .nil
  | cons h1 h2 ih =>
    intro i
    cases i with
    | zero => exact .cons h1 h2
    | succ i => exact ih i
theorem Op2.addT {a b : Addr} {vs ws : List AV} (ha : (a, .tup vs) ∈ n) (hb : (b, .tup ws) ∈ n) (hz : Nat.ble (vs.length + ws.length) 1000 = true) (h0 : Nat.ble 1 vs.length = true) (h1 : Nat.ble 1 ws.length = true) {xs : List AV} (hx : vs ++ ws = xs) (h : ∀ D, P (.ref D) ((D, .tup xs) :: n)) : Op2 w n (binaryOp .Add) (.ref a) (.ref b) P := fun c sc ok m va vb e1 e2 s Q E F q => by
  subst hx
  cases e1; cases e2
  obtain ⟨mv, l, F', V, N, R, Dn⟩ := F
  obtain ⟨us, hu, g1⟩ := R.tupAt ha
  obtain ⟨us2, hu2, g2⟩ := R.tupAt hb
  have hl := hu.length
  have hl2 := hu2.length
  have hz := Nat.le_of_ble_eq_true hz
  have h0 := Nat.le_of_ble_eq_true h0
  have h1 := Nat.le_of_ble_eq_true h1
  have n0 : us ≠ [] := fun e => by rw [e] at hl; rw [← hl] at h0; exact absurd h0 (by decide)
  have n1 : us2 ≠ [] := fun e => by rw [e] at hl2; rw [← hl2] at h1; exact absurd h1 (by decide)
  exact kde_addT F' N (News.isTup N (List.mem_append_left _ g1)) (News.isTup N (List.mem_append_left _ g2)) n0 n1 (by show us.length + us2.length ≤ 16384; omega) rfl fun D h' F2 N2 hlt => q (.ref D) _ _ h' s.toks ⟨rfl, .ref D, rfl, h D⟩ (Frm.newT V R Dn (hu.append hu2) F2 N2 hlt)
/-- the first items of a tuple -/
theorem EvK.tupTo {v p pos q T vs} {i : Nat} {kt : Nat} (hv : Ev ⟨w, sc, d, m, n⟩ v (.ref T)) (hT : (T, .tup vs) ∈ n) (hi : Nat.blt i vs.length = true) (hz : Nat.ble vs.length 1000 = true) (hp : ∀ x r, letTemporaryGo v (.ref x) r = Pure.pure ())
    (h : (0 : Nat) = 0 ∧ ∀ D, P (.ref D) ((D, .tup (vs.take i)) :: n)) : EvK ⟨w, sc, d, m, n⟩ (.Subscript v (.Slice none (some (.Constant (.int i) kt q)) none p) pos) P := fun c ok s Q E F qq => by
  have hz := Nat.le_of_ble_eq_true hz
  have hi : i < vs.length := Nat.le_of_ble_eq_true hi
  refine Subscript_ (hv.runV ok F fun h1' tk1 F1 => by
    refine wpAny_Slice (evalPart_none_step (evalPart_some_step ((Ev.int (S := ⟨w, sc, d, m, n⟩)).runI ok F1 fun t h2 tk2 F2 => evalPart_none_step ?_)))
    obtain ⟨mv, ld, F', V, N, R, Dn⟩ := F2
    obtain ⟨us, hu, g1⟩ := R.tupAt hT
    have hl := hu.length
    have N1 := News.isTup N (List.mem_append_left _ g1)
    have ht' : IsTup (h2.push { cls := .type "slice", data := .fields #[.none, .int i t, .none] }) T us.toArray := N1.keeps fun _ _ e => Heap.get?_push_of_some _ e
    refine subscriptTail_ops (s := { s with heap := h2.push { cls := .type "slice", data := .fields #[.none, .int i t, .none] }, toks := tk2 }) ht'.typeIs slot_tuple_getitem.lookup
      (getTo_ (b := i) ht' (Heap.IsSliceOf.new ..) (by rw [List.size_toArray]; omega) (by rw [sizeLine_eq, List.size_toArray]; omega) ?_) rfl (hp _)
    have N2 := News.push (F'.push { cls := .type "slice", data := .fields #[.none, .int i t, .none] }) (N.grown fun _ _ e => Heap.get?_push_of_some _ e) { cls := .type "tuple", data := .seq (us.take i).toArray }
    exact qq (.ref _) _ _ _ tk2 ⟨rfl, .ref _, rfl, h.2 _⟩ (Frm.newT (s := s) V R Dn (hu.take i) ((F'.push _).push _) N2 fun p hp => Nat.lt_trans (Heap.lt_size (N p hp).1) (by rw [Heap.size_push]; exact Nat.lt_succ_self _)))
/-- the last items of a tuple -/
theorem EvK.tupFrom {v p pos q T vs} {i : Nat} {kt : Nat} (hv : Ev ⟨w, sc, d, m, n⟩ v (.ref T)) (hT : (T, .tup vs) ∈ n) (hi : Nat.ble i vs.length = true) (h0 : Nat.ble 1 i = true) (hz : Nat.ble vs.length 1000 = true) (hp : ∀ x r, letTemporaryGo v (.ref x) r = Pure.pure ())
    (h : (0 : Nat) = 0 ∧ ∀ D, P (.ref D) ((D, .tup (vs.drop i)) :: n)) : EvK ⟨w, sc, d, m, n⟩ (.Subscript v (.Slice (some (.Constant (.int i) kt q)) none none p) pos) P := fun c ok s Q E F qq => by
  have hz := Nat.le_of_ble_eq_true hz
  refine Subscript_ (hv.runV ok F fun h1' tk1 F1 => by
    refine wpAny_Slice (evalPart_some_step ((Ev.int (S := ⟨w, sc, d, m, n⟩)).runI ok F1 fun t h2 tk2 F2 => evalPart_none_step (evalPart_none_step ?_)))
    obtain ⟨mv, ld, F', V, N, R, Dn⟩ := F2
    obtain ⟨us, hu, g1⟩ := R.tupAt hT
    have hl := hu.length
    exact slice_tuple_from (s := ⟨h2, s.gens, s.drawn, tk2, s.os⟩) (a := i) F' N (News.isTup N (List.mem_append_left _ g1)) (Nat.le_of_ble_eq_true h0) (by rw [List.size_toArray, hl]; exact Nat.le_of_ble_eq_true hi)
      (fun h' F2 N2 => qq (.ref _) _ _ h' tk2 ⟨rfl, .ref _, rfl, h.2 _⟩ (Frm.newT (s := s) V R Dn (hu.drop i) F2 N2 fun p hp => Nat.lt_succ_of_lt (Heap.lt_size (N p hp).1))) rfl (hp _) (by rw [sizeLine_eq, List.size_toArray]; omega))
end
theorem Seg.over {B : Hdr} {W : By} {P : List (Hdr × By)} {mtu : Int} (hs : Seg B W 0 W.length false P) (H : Base B W) (hm : 40 ≤ mtu) (ht : 1 ≤ B.ttl) (first : Bool) : Seg (if first = true then B else lessH B) W 0 W.length false (overF P mtu first) ∧ Base (if first = true then B else lessH B) W := by
  unfold overF
  cases first with
  | true =>
    simp only [if_true, List.map_id']
    exact ⟨hs.cutAll H hm, H⟩
  | false =>
    simp only [Bool.false_eq_true, if_false]
    exact ⟨hs.less.cutAll (H.less ht) hm, H.less ht⟩
/-- the head behind i links -/
noncomputable def hdrI (src ident tos : Int) (o : By) (i : Nat) : Hdr := ⟨src, 20, 17, ident, 64 - ((i - 1 : Nat) : Int), tos, false, false, 0, o⟩
theorem hdrI_succ {src ident tos : Int} {o : By} {i : Nat} : (if decide ((i : Int) = 0) = true then hdrI src ident tos o i else lessH (hdrI src ident tos o i)) = hdrI src ident tos o (i + 1) := by
  by_cases h0 : i = 0
  · subst h0; rfl
  · rw [if_neg (by simp; omega)]
    unfold lessH hdrI
    dsimp only
    rw [show 64 - ((i - 1 : Nat) : Int) - 1 = 64 - ((i + 1 - 1 : Nat) : Int) by omega]
theorem hdrI_row {src ident tos : Int} {o : By} {i : Nat} (h1 : 1 ≤ i) : rowL (wholeH (hdrI src ident tos o i)) = [.int src, .int 20, .int 17, .int ident, .int (64 - (i : Int) + 1), .int tos, .bool false, .bool false, .int 0, .bytes o] := by
  unfold wholeH hdrI rowL
  dsimp only
  rw [show 64 - ((i - 1 : Nat) : Int) = 64 - (i : Int) + 1 by omega]
theorem toldNone {hW : Hdr} {W : By} {tl : ALed} {tvs : List AV} {n : Nat} {js : List Nat} (htv : Paired (ToldAt hW W tl) tvs ((List.range js.length).map (toldB n js))) (hor : OrderOk n true js) {i : Nat} {v : AV} (hv : tvs[i]? = some v) : v = .none := by
  obtain ⟨b, hb, hq⟩ := pairedAt htv hv
  obtain ⟨k, hk, hkj⟩ := hor.2.2 rfl
  rw [List.getElem?_map] at hb
  by_cases hi : i < js.length
  · rw [List.getElem?_range hi] at hb
    have hb' : toldB n js i = b := Option.some.inj hb
    rw [told_lacks hor.1 hk hkj hi] at hb'
    exact hq.1 hb'.symm
  · rw [List.getElem?_eq_none (by rw [List.length_range]; omega)] at hb
    cases hb
/-- ints out of some -/
theorem pickInt {vs : List AV} {lo hi : Int} {i : Nat} {r : AV} (h : vs[i]? = some r) (k : ∀ x ∈ vs, ∃ K, x = .int K ∧ lo ≤ K ∧ K ≤ hi) : ∃ K, r = .int K ∧ lo ≤ K ∧ K ≤ hi := k r (List.mem_of_getElem? h)
@[elab_as_elim] theorem rangeAtE {k i : Nat} {v : AV} {C : AV → Prop} (h : ((List.range k).map fun (i : Nat) => AV.int (i : Int))[i]? = some v) (q : i < k → C (.int i)) : C v := by rw [(rangeAt h).2]; exact q (rangeAt h).1
@[elab_as_elim] theorem toldNoneE {hW : Hdr} {W : By} {tl : ALed} {tvs : List AV} {n : Nat} {js : List Nat} {i : Nat} {v : AV} {C : AV → Prop} (htv : Paired (ToldAt hW W tl) tvs ((List.range js.length).map (toldB n js))) (hor : OrderOk n true js) (hv : tvs[i]? = some v) (q : C .none) : C v := by rw [toldNone htv hor hv]; exact q
theorem one_int {w : World} {rest : ALed} {S TL : Addr} {a b lo hi : Int} {vs : List AV} {C : AV → ALed → Prop} (hb0 : 0 ≤ b) (hb1 : b < 2147483647) (hT : (TL, .lst vs) ∈ rest) (h1 : 0 < vs.length) (h2 : vs.length ≤ 100) (hk : ∀ x ∈ vs, ∃ K, x = .int K ∧ lo ≤ K ∧ K ≤ hi)
    (hC : ∀ K a' b', lo ≤ K → K ≤ hi → 0 ≤ b' → b' < 2147483647 → C (.int K) ((S, srcO a' b') :: rest)) : CallK w 2 ((S, srcO a b) :: rest) (.ref 525) [.ref S, .ref TL] C :=
  one_fn hb0 hb1 hT h1 h2 fun i r a' b' hr m0 m1 => by
    obtain ⟨K, rfl, k0, k1⟩ := pickInt hr hk
    exact hC K a' b' k0 k1 m0 m1
theorem ints_nil {lo hi : Int} : ∀ x ∈ ([] : List AV), ∃ K, x = .int K ∧ lo ≤ K ∧ K ≤ hi := fun _ h => nomatch h
theorem ints_cons {lo hi K : Int} {r : List AV} (h : lo ≤ K ∧ K ≤ hi) (k : ∀ x ∈ r, ∃ K, x = .int K ∧ lo ≤ K ∧ K ≤ hi) : ∀ x ∈ AV.int K :: r, ∃ K, x = .int K ∧ lo ≤ K ∧ K ≤ hi := fun x hx => by
  rcases List.mem_cons.mp hx with rfl | hx
  · exact ⟨K, rfl, h⟩
  · exact k x hx

noncomputable def Stop (P : Prop) : Prop := P
section
variable {prog : Program} {w : World} {A : Around} {E : Value → Shared → Prop} {s : Shared} {h₀ : Heap} {L : Addr}
noncomputable def MidEnd (h₀ : Heap) (L : Addr) (J : Led → Prop) (s₁ : Shared) (f : Flow) (s₂ : Shared) : Prop :=
  f = .next ∧ ∃ h' tk m' nx, s₂ = { s₁ with heap := h', toks := tk } ∧ Fr h₀ L h' m' ∧ News h₀ L h' nx ∧ J nx
theorem cutAt {st : Stmt} {rest : List Stmt} {env : Env} {Q : Flow → Shared → Prop} (J : Led → Prop) (first : wpAny (model prog w) A (exec st env) (MidEnd h₀ L J s) E s)
    (go : ∀ h' tk m' nx, Fr h₀ L h' m' → News h₀ L h' nx → J nx → wpAny (model prog w) A (execs rest env) Q E { s with heap := h', toks := tk }) : wpAny (model prog w) A (execs (st :: rest) env) Q E s := by
  refine wpAny_execs_cons (wpAny_mono first (fun f s' hm => ?_) fun _ _ e => e)
  obtain ⟨rfl, h', tk, m', nx, rfl, F, N, j⟩ := hm
  exact go h' tk m' nx F N j
end
/-- the law's source behind its first two statements -/
inductive PoolJ (L : Addr) : Led → Prop
  | mk (S : Addr) (o1 o2 : Obj) (v2 : Option Value) (sa sb : Int) (ta tb : Tok) (n : Nat) : o1.data = .cell (some (.ref S)) → o2.data = .cell v2 → @LT.lt Nat _ (L + 1 + 1) S → 0 ≤ sb → sb < 2147483647 → PoolJ L [(S, listOf #[.int sa ta, .int sb tb] n), (L + 1 + 1, o2), (L + 1, o1)]
inductive LawJ1 (S : Addr) : Vars → ALed → Prop
  | mk (Lr DA DR : Addr) (a b : Int) (bs : List Bool) : OptBs bs → 0 ≤ b → b < 2147483647 →
      LawJ1 S [(Str.ofString "kept", .bytes (laterB (writeB (bs.map optR)))), (Str.ofString "options", .bytes (writeB (bs.map optR))), (Str.ofString "rows", .ref Lr), (Str.ofString "source", .ref S)] ((S, srcO a b) :: (Lr, .lst (refsO DA DR bs)) :: (DR, .tup [.int 7, .bytes [4, 0, 0, 0, 0]]) :: (DA, .tup [.int 148, .bytes [0, 9]]) :: [])
inductive LawJ2 (S : Addr) (stat : ALed) : AV → ALed → Prop
  | mk (f a b : Int) : 0 ≤ f → f < 256 → 0 ≤ b → b < 2147483647 → LawJ2 S stat (.int f) ((S, srcO a b) :: stat)
inductive IntsJ (N : ALed) (i : Nat) : List AV → ALed → Prop
  | mk (is : List Int) : (∀ k ∈ is, 0 ≤ k ∧ k < 256) → is.length = i → IntsJ N i (is.map AV.int) N
theorem IntsJ.next {N : ALed} {is : List Int} {k : Int} (hb : ∀ k ∈ is, 0 ≤ k ∧ k < 256) (h : 0 ≤ k ∧ k < 256) : IntsJ N (is.length + 1) (is.map AV.int ++ [.int k]) N := by
  have e : is.map AV.int ++ [.int k] = (is ++ [k]).map AV.int := by rw [List.map_append]; rfl
  rw [e]
  exact .mk _ (fun j hj => (List.mem_append.mp hj).elim (hb j) fun h' => by rw [List.mem_singleton.mp h']; exact h) (by simp)
inductive MtuJ (S : Addr) (stat : ALed) (i : Nat) : List AV → ALed → Prop
  | mk (ms : List Int) (a b : Int) : 0 ≤ b → b < 2147483647 → (∀ k ∈ ms, 40 ≤ k ∧ k ≤ 100) → ms.length = i → MtuJ S stat i (ms.map AV.int) ((S, srcO a b) :: stat)
theorem MtuJ.next {S : Addr} {stat : ALed} {ms : List Int} {k a b : Int} (hb : ∀ k ∈ ms, 40 ≤ k ∧ k ≤ 100) (h : 40 ≤ k ∧ k ≤ 100) (b0 : 0 ≤ b) (b1 : b < 2147483647) : MtuJ S stat (ms.length + 1) (ms.map AV.int ++ [.int k]) ((S, srcO a b) :: stat) := by
  have e : ms.map AV.int ++ [.int k] = (ms ++ [k]).map AV.int := by rw [List.map_append]; rfl
  rw [e]
  exact .mk _ _ _ b0 b1 (fun j hj => (List.mem_append.mp hj).elim (hb j) fun h' => by rw [List.mem_singleton.mp h']; exact h) (by simp)
inductive TurnJ (src ident tos : Int) (o W : By) (S M : Addr) (NT : Addr) (tail : ALed) (i : Nat) : Vars → ALed → Prop
  | mk (PL : Addr) (P : List (Hdr × By)) : Seg (hdrI src ident tos o i) W 0 W.length false P → Base (hdrI src ident tos o i) W →
      TurnJ src ident tos o W S M NT tail i [(Str.ofString "packets", AV.ref PL), (Str.ofString "numbers", AV.ref NT), (Str.ofString "mtus", AV.ref M), (Str.ofString "payload", AV.bytes W), (Str.ofString "kept", AV.bytes (laterB o)), (Str.ofString "options", AV.bytes o), (Str.ofString "source", AV.ref S)] ((PL, AO.lst (pks P)) :: tail)
inductive NoneJ (N : ALed) (i : Nat) : List AV → ALed → Prop
  | mk : NoneJ N i [] N
theorem law_walk : PySem.Challenge.rw_nu0136_01.Holds := by
  w_on
  refine holds_law (l := PySem.Challenge.rw_nu0136_01) said41 fun said => ?_
  refine holds_open (q := Mine.hd.view_39) (loose := [Str.ofString "ones_sum", Str.ofString "checksum", Str.ofString "IpHeader"]) (Xt := fun s => xlAt Mine.hd.view_39 [] s && recOk (RowW.records (OpenRow.toRowW PySem.Challenge.rw_nu0136_01.row)) s) (XP := XL Mine.hd.view_39 []) (Yf := Hook.obs hd.hook) (Ya := Hook.val hd.hook) (YP := Hook.says hd.hook) (N := 7720) ?hl (Hook.of hd.hook) (Hook.keeps hd.hook) (fun s e => xl_of s (Bool.and_eq_true_iff.mp e).1) XL.keeps (by rfl) (by rfl) (by rfl) (fun s e => recFacts_of (Bool.and_eq_true_iff.mp e).2) (by rfl) (by first | assumption | decide +kernel) (by decide +kernel) ⟨rfl, rfl, rfl, rfl, rfl, by decide +kernel⟩ ?hw ?hc
  case hl => exact LeftO.of_pieces (boot_open (by kernel_rfl) rfl (fun _ => by kernel_rfl)) siz41 run41 (by decide +kernel) look41
  case hw => w_witness2
  intro wW s0 sB mg9 mb9 G9 Y9 fa9 o9 pm9 cd9 doc9 dV9 kV9 ho9 hd9 hcd9 hD9 hmg9 hg9 args9 vals9 as9 hpre9 hlay9 hrd9 hwl9 hlo9
  have KX9 := kIn_of Y9
  have X9 := (Ground.X G9).1
  have V9 := (Ground.X G9).2
  refine Ground.open G9 ?_
  intro T9 B9 D9 TE9 TW9
  refine guard_noD D9 (by decide +kernel) ?_
  clear D9
  obtain ⟨_, _, M9⟩ := bmod_of_top T9
  have TA9 := at_of_top T9
  (try (obtain ⟨_, _, he9, B0⟩ := based_of_top T9 rfl hmg9 ho9 hd9; have he' : cd9 = _ := he9; subst he'; clear he9))
  clear hmg9
  wrow_args hpre9 hlay9 hrd9 hwl9 hlo9
  refine enter_call ?_
  w_top on
  refine codeAny_mono ?_ (fun _ _ g => GoodW.toG g)
  have K0 := below_caller (Top.heap T9)
  w_call any ho9 hd9 hcd9 hD9 T9 FB
  clear hd9 TA9
  k_drop
  k_fold
  rename_i w11 w10 w9 w8 ns hs9 hlay9 hL9 hr9 hl29 w6 w5 wS wV w2 hL ra w1 r0 hI hr hc1 hc2 hB tkB oF oS leftB rightB NB XB
  refine cutAt (h₀ := sB.heap) (L := sB.heap.objs.size) (PoolJ sB.heap.objs.size) ?_ ?_
  · k_steps
    all_goals
      rename Fr _ _ _ _ => F2
      rename News _ _ _ _ => N2
      exact ⟨rfl, _, _, _, _, rfl, F2, N2, .mk _ _ _ _ _ _ _ _ _ (by assumption) leftB (by (first | omega | (rename _ ∧ _ => l9; exact l9.1))) (by first | omega | exact Int.fmod_nonneg_of_pos _ (by decide)) (by first | omega | exact Int.fmod_lt_of_pos _ (by decide))⟩
  rintro h3 tk3 m3 nx F3 N3 ⟨S, o1, o2, v2, sa, sb, ta, tb, n, d1, d2, hlt, b0, b1⟩
  clear FB NB XB
  refine lawGo (cl := [(Str.ofString "first", sB.heap.objs.size + 1 + 1), (Str.ofString "source", sB.heap.objs.size + 1)]) K0 KX9 T9 ?kd ?cl fun ok => ?_
  case kd => exact rfl
  case cl => kernel_rfl!
  refine lawStep (ok [(sB.heap.objs.size + 1 + 1, o2), (sB.heap.objs.size + 1, o1)] [(Str.ofString "source", .ref S)] ?cells)
    (m := [(Str.ofString "source", .ref S)]) (n := [(S, srcO sa sb)]) (LawJ1 S) ?frm ?ws ?go
  case cells =>
    intro x v h
    rcases lookup_cons h with ⟨rfl, rfl⟩ | h
    · exact ⟨_, o1, by kernel_rfl!, .tail _ (.head _), d1⟩
    · cases h
  case frm =>
    refine ⟨m3, [(S, _)], F3, fun p hp => ?_, N3, .lst (.cons ⟨_, rfl⟩ (.cons ⟨_, rfl⟩ .nil)) .nil, ?_⟩
    · rw [List.mem_singleton.mp hp]
      exact ⟨.ref S, by kernel_rfl!, rfl⟩
    · refine List.nodup_cons.mpr ⟨fun h => ?_, List.nodup_cons.mpr ⟨fun h => ?_, List.nodup_cons.mpr ⟨fun h => (nomatch h), List.nodup_nil⟩⟩⟩
      · rcases List.mem_cons.mp h with h | h
        · exact absurd h (Nat.ne_of_gt hlt)
        · exact absurd (List.mem_singleton.mp h) (Nat.ne_of_gt (Nat.lt_of_succ_lt hlt))
      · exact absurd (List.mem_singleton.mp h) (Nat.ne_of_gt (Nat.lt_succ_self _))
  case ws =>
    refine Ws.assignT ?_ (fun _ _ => rfl) fun _ => rfl
    tm_at "evc"
    refine CallK.le (options_fn b0 b1 fun l Lr DA DR a' b' bs ho m0 m1 => ?_) (Eq.refl true)
    tm_at "asg"
    refine Ws.weak (fun _ h => h) (List.sublist_cons_self _ _) ?_
    repeat tm_at "ws"
    exact ⟨rfl, .mk Lr DA DR a' b' bs ho m0 m1⟩
  case go =>
    refine fun _ _ h4 tk4 h9 => LawJ1.casesOn h9 fun Lr DA DR sa sb bs ho b0 b1 F4 => ?_
    refine lawCell (cl := [(Str.ofString "first", sB.heap.objs.size + 1 + 1), (Str.ofString "source", sB.heap.objs.size + 1)]) (H1 := []) (H2 := [(sB.heap.objs.size + 1, o1)]) (ca := sB.heap.objs.size + 1 + 1) (o := o2) rfl (ok _ [(Str.ofString "source", .ref S)] ?cells) (LawJ2 S ((Lr, .lst (refsO DA DR bs)) :: (DR, .tup [.int 7, .bytes [4, 0, 0, 0, 0]]) :: (DA, .tup [.int 148, .bytes [0, 9]]) :: [])) F4 ?nc ?ev d2 ?cl2 ?hx ?hk ?hm ?go
    case cells =>
      intro x v h
      rcases lookup_cons h with ⟨rfl, rfl⟩ | h
      · exact ⟨_, o1, by kernel_rfl!, .tail _ (.head _), d1⟩
      · cases h
    case nc => exact rfl
    case cl2 => kernel_rfl!
    case hx => kernel_rfl!
    case hk => kernel_rfl!
    case hm => kernel_rfl!
    case ev =>
      tm_at "evc"
      exact CallK.le (take_fn b0 b1 (by decide) (by decide) fun v a' b' l0 l1 m0 m1 => .mk v a' b' l0 l1 m0 m1) (Eq.refl true)
    case go =>
      clear F3 N3 F4 b0 b1
      refine fun _ v9 _ o3 h5 tk5 hv9 h9 => LawJ2.casesOn h9 fun f sa sb f0 f1 b0 b1 d3 F5 => ?_
      refine lawRun (P := fun r _ => r = .bool true) (ok _ [(Str.ofString "first", v9), (Str.ofString "source", .ref S)] ?cells) F5 ?ws ?fin
      case cells =>
        intro x v h
        rcases lookup_cons h with ⟨rfl, rfl⟩ | h
        · exact ⟨_, o3, by kernel_rfl!, .head _, d3⟩
        rcases lookup_cons h with ⟨rfl, rfl⟩ | h
        · exact ⟨_, o1, by kernel_rfl!, .tail _ (.head _), d1⟩
        · cases h
      case fin =>
        rintro fl h6 tk6 ⟨v, n1, m1, ⟨a, ha, rfl⟩, hf, F6⟩
        obtain rfl : v = .bool true := ha
        rcases hf with rfl | ⟨rfl, hf⟩
        · obtain ⟨mv, l, F7, -⟩ := F6
          dsimp only
          k_steps
        · cases hf
      case ws =>
        clear F5 hv9 d3 d1 d2
        generalize hst : (Lr, AO.lst (refsO DA DR bs)) :: (DR, .tup [.int 7, .bytes [4, 0, 0, 0, 0]]) :: (DA, .tup [.int 148, .bytes [0, 9]]) :: [] = stat
        refine Ws.assign ?_ (by tm_at "pick") (by tm_at "kr") (by tm_at "kr") rfl
        refine' EvK.call ?ca ?cb ?cc ?cd ?_
        case cd => exact rfl
        case ca => tm_at "ev"
        case cb => tm_at "kr"
        case cc => exact rfl
        refine EvKs.cons ?_ rfl
        refine EvK.comp [(Str.ofString "first", .int f)] ?it (Cap.one (x := Str.ofString "first") (.head _) (by kernel_rfl!) (by rfl) (by rfl) (by rfl) (fun env ca h => by simp [closureFor, cellOf, h]) (by kernel_rfl!)) (by intro p hp; rw [List.mem_singleton.mp hp]; exact ⟨.head _, by kernel_rfl!⟩) (fun _ _ => rfl)
        refine' EvK.call ?ca ?cb ?cc ?cd ?_
        case cd => exact rfl
        case ca => tm_at "ev"
        case cb => tm_at "kr"
        case cc => exact rfl
        refine EvKs.cons ?_ rfl
        tm_at "evc"
        refine CallK.front (p := (S, srcO sa sb)) (by tm_at "take") (CallK.le (one_int (lo := 0) (hi := 40) b0 b1 (.head _) (by exact Nat.succ_pos _) (by exact Nat.le_of_ble_eq_true (Eq.refl true)) (by tm_at "inr") fun K sa sb k0 k1 b0 b1 => ?_) (Eq.refl true))
        refine EvKs.nil (CallK.range ⟨k0, by omega⟩ fun R t u v => ?_)
        rename_i TL
        refine ⟨_, _, [], _, IntsJ ((S, srcO sa sb) :: (TL, .lst [.int 0, .int 8, .int 23, .int 32, .int 40]) :: stat), SrcAt.range (k := K.toNat) .head (by omega) (by omega) rfl, fun _ _ _ _ _ _ _ h => (nomatch h), by rw [List.length_map, List.length_range]; omega, .mk [] (fun _ h => (nomatch h)) rfl, ?_, ?_⟩
        · refine fun i v zs n1 hv h9 => IntsJ.casesOn h9 fun is hb hl9 => ?_
          subst hl9
          refine rangeAtE hv fun hi => ?_
          refine ⟨_, TgtK.name (by kernel_rfl!), true, Tests.nil, fun _ => ?_, fun e => by cases e⟩
          tm_at "evk"
          exact .next hb ⟨by omega, by omega⟩
        · refine fun D zs n1 h9 => IntsJ.casesOn h9 fun is hb hl => ?_
          rw [List.length_map, List.length_range] at hl
          refine ⟨(D, .lst (is.map AV.int)) :: (S, srcO sa sb) :: stat, fun _ _ _ F => F.ledger (by tm_at "sl"), EvKs.nil ?_⟩
          refine CallK.to (CallK.bytesL (.head _) (intsOf_map is) hb (by omega)) ?_
          refine Ws.weak (fun _ h => h) (List.sublist_cons_self _ _) ?_
          have hW : (octs is).length ≤ 40 := by rw [octs, List.length_map]; omega
          generalize octs is = W at hW ⊢
          clear hb hl k0 k1 is
          refine Ws.assignC [(Str.ofString "source", .ref S)] ?it2 (Cap.one (x := Str.ofString "source") (by tm_at "in") (by kernel_rfl!) (by rfl) (by rfl) (by rfl) (fun env ca h => by simp [closureFor, cellOf, h]) (by kernel_rfl!)) (by intro p hp; rw [List.mem_singleton.mp hp]; exact ⟨by tm_at "in", by kernel_rfl!⟩) (fun _ _ => rfl) (by tm_at "pick") (by tm_at "kr") (by tm_at "kr") (by intro env9 he9; cases env9; cases he9; kernel_rfl!)
          refine' EvK.call ?ca2 ?cb2 ?cc2 ?cd2 ?_
          case cd2 => exact rfl
          case ca2 => tm_at "ev"
          case cb2 => tm_at "kr"
          case cc2 => exact rfl
          refine EvKs.cons (EvK.bin (EvK.ofE (by tm_at "ev") ?_)) rfl
          tm_at "evc"
          refine CallK.le (take_fn b0 b1 (by decide) (by decide) fun v sa sb l0 l1 b0 b1 => ?_) (Eq.refl true)
          refine Op2.of Op.add (EvKs.nil (CallK.range ⟨by omega, by omega⟩ fun R t u v2 => ?_))
          refine ⟨_, _, [], _, MtuJ S stat, SrcAt.range (k := (1 + v).toNat) .head (by omega) (by omega) rfl, fun _ _ _ _ _ _ _ h => (nomatch h), by rw [List.length_map, List.length_range]; omega, .mk [] sa sb b0 b1 (fun _ h => (nomatch h)) rfl, ?_, ?_⟩
          · clear b0 b1 sa sb
            refine fun i v zs n1 hv h9 => MtuJ.casesOn h9 fun ms sa sb b0 b1 hb hl9 => ?_
            subst hl9
            refine ⟨_, TgtK.name (by kernel_rfl!), true, Tests.nil, fun _ => EvK.drop (x := ()) ?_ rfl, fun e => by cases e⟩
            tm_at "evc"
            refine CallK.front (p := (S, srcO sa sb)) (by tm_at "take") (CallK.le (one_int (lo := 40) (hi := 100) b0 b1 (.head _) (by exact Nat.succ_pos _) (by exact Nat.le_of_ble_eq_true (Eq.refl true)) (by tm_at "inr") fun K sa sb k0 k1 b0 b1 => ?_) (Eq.refl true))
            exact ⟨(S, srcO sa sb) :: stat, .next hb ⟨k0, k1⟩ b0 b1, by tm_at "sl"⟩
          · clear b0 b1 sa sb
            refine fun M zs n1 h9 => MtuJ.casesOn h9 fun ms sa sb b0 b1 hb hl => ?_
            rw [List.length_map, List.length_range] at hl
            refine ⟨(S, srcO sa sb) :: (M, .lst (ms.map AV.int)) :: stat, fun _ _ _ F => (F.ledger (n' := (M, .lst (ms.map AV.int)) :: (S, srcO sa sb) :: stat) (by tm_at "sl")).front (.tail .head), ?_⟩
            have hm1 : 1 ≤ ms.length := by omega
            have hm3 : ms.length ≤ 3 := by omega
            clear hl l0 l1
            refine Ws.assign (EvK.tuple (EvKs.cons ?_ rfl)) (by tm_at "pick") (by tm_at "kr") (by tm_at "kr") rfl
            tm_at "evc"
            refine CallK.le (take_fn b0 b1 (by decide) (by decide) fun src sa sb c0 c1 b0 b1 => ?_) (Eq.refl true)
            refine EvKs.cons (EvK.ofE (by tm_at "ev") (EvKs.cons (EvK.ofE (by tm_at "ev") (EvKs.cons ?_ rfl)) rfl)) rfl
            tm_at "evc"
            refine CallK.le (take_fn b0 b1 (by decide) (by decide) fun ident sa sb c2 c3 b0 b1 => ?_) (Eq.refl true)
            refine EvKs.cons (EvK.ofE (by tm_at "ev") (EvKs.cons ?_ rfl)) rfl
            tm_at "evc"
            refine CallK.front (p := (S, srcO sa sb)) (by tm_at "take") (CallK.le (one_int (lo := 0) (hi := 16) b0 b1 (.head _) (by exact Nat.succ_pos _) (by exact Nat.le_of_ble_eq_true (Eq.refl true)) (by tm_at "inr") fun tos sa sb c4 c5 b0 b1 => ?_) (Eq.refl true))
            refine EvKs.cons (EvK.ofE (by tm_at "ev") (EvKs.nil ⟨rfl, fun NT => ?_⟩)) rfl
            refine Ws.weak (n' := (NT, .tup [.int src, .int 20, .int 17, .int ident, .int 64, .int tos, .bool false]) :: (S, srcO sa sb) :: (M, .lst (ms.map AV.int)) :: stat) (fun _ h => h) (by tm_at "sl") ?_
            subst hst
            have o1' := ho.bound.1
            have o2' := ho.bound.2.1
            have hrk : ∀ r ∈ bs.map optR, 2 ≤ r.1 ∧ r.1 ≤ 255 ∧ r.2.length ≤ 38 := fun r hr => ⟨(o1' r hr).1, (o1' r hr).2.1, Nat.le_trans (o1' r hr).2.2 (by decide)⟩
            have hop := optPaired (n := [(DR, .tup [.int 7, .bytes [4, 0, 0, 0, 0]]), (DA, .tup [.int 148, .bytes [0, 9]])]) (DA := DA) (DR := DR) (.tail _ (.head _)) (.head _) bs
            have hro := ho.isOpts
            have hro4 := hro.four
            have c1 : src < 4294967296 := by simpa using c1
            have hfit : Fits (hdrI src ident tos (writeB (bs.map optR)) 0) := ⟨c0, by show src < _; omega, by show (0 : Int) ≤ 20; decide, by show (20 : Int) < 4294967296; decide, by show (0 : Int) ≤ 17; decide, by show (17 : Int) < 256; decide, c2, c3, by show (0 : Int) ≤ 64; decide, by show (64 : Int) < 256; decide, c4, by show tos < 256; omega, rfl, by show (0 : Int) ≤ 0; decide, by show (0 : Int) < 65528; decide, by show (0 : Int) % 8 = 0; decide, by show (writeB (bs.map optR)).length ≤ 40; omega, hro4.2⟩
            have hfit' : Fits ⟨src, 20, 17, ident, 64, tos, false, false, 0, writeB (bs.map optR)⟩ := hfit
            have hB : Base (hdrI src ident tos (writeB (bs.map optR)) 0) W := ⟨hfit, hro, hW⟩
            have hS : Seg (hdrI src ident tos (writeB (bs.map optR)) 0) W 0 W.length false [(hdrI src ident tos (writeB (bs.map optR)) 0, W)] := .one ⟨rfl, by simp, by omega, by omega, by omega, by omega, (fun h => nomatch h), by omega⟩
            tm_at "ws"
            refine Ws.iteF (by tm_at "tst") (by simp) ?_
            tm_at "ws"
            tm_at "ws"
            rename_i HX PL
            refine Ws.weak (n' := (PL, .lst (pks [(hdrI src ident tos (writeB (bs.map optR)) 0, W)])) :: (NT, .tup [.int src, .int 20, .int 17, .int ident, .int 64, .int tos, .bool false]) :: (S, srcO sa sb) :: (M, .lst (ms.map AV.int)) :: []) (fun _ h => h) (.cons_cons _ (.cons _ (.cons_cons _ (.cons_cons _ (.cons_cons _ (List.nil_sublist _)))))) ?_
            clear hop hfit' hfit hrk o1' o2' hro4 c0 c1 c2 c3 c4 c5 f0 f1
            have hml : (ms.map AV.int).length = ms.length := List.length_map _
            refine' Ws.forR (k := ms.length) (TurnJ src ident tos (writeB (bs.map optR)) W S M NT ((NT, .tup [.int src, .int 20, .int 17, .int ident, .int 64, .int tos, .bool false]) :: (S, srcO sa sb) :: (M, .lst (ms.map AV.int)) :: []))
              ?f1 ?s1 ?r1 ?st1 ?ab1 (size_one ?sz1) ?k1 rfl rfl ⟨_, _, .mk PL _ hS hB, ?h1, List.Sublist.refl _⟩ ?turn ?done
            case f1 => tm_at "ev"
            case s1 => tm_at "evs"
            case r1 => constructor
            case st1 => decide
            case ab1 => omega
            case sz1 => omega
            case k1 => omega
            case h1 => tm_at "sub"
            case turn =>
              clear hS hB
              refine fun i _ _ ow hi h9 => TurnJ.casesOn h9 fun PL P hsg hbs => ?_
              refine eq_to (C := fun v => AsgK _ _ (.int v) _) (show 0 + (i : Int) * 1 = (i : Int) by omega) ?_
              have hmi := List.getElem?_eq_getElem hi
              have hm40 := (hb _ (List.getElem_mem hi)).1
              have hm100 := (hb _ (List.getElem_mem hi)).2
              generalize ms[i] = mt at hmi hm40 hm100
              have hgi : getI (ms.map AV.int) (i : Int) = some (.int mt) := by show (ms.map AV.int)[i]? = _; rw [List.getElem?_map, hmi]; rfl
              have ht : 2 ≤ (hdrI src ident tos (writeB (bs.map optR)) i).ttl := by show (2 : Int) ≤ 64 - _; omega
              tm_at "asg"
              refine Ws.assign ?_ (by tm_at "pick") (by tm_at "kr") (by tm_at "kr") rfl
              tm_at "evc"
              refine CallK.le (over_fn (.head) hsg hbs ht hm40 (by omega) fun l => ?_) (Eq.refl true)
              repeat tm_at "ws"
              have g := hsg.over hbs hm40 (by omega) (decide ((i : Int) = 0))
              rw [hdrI_succ] at g
              exact ⟨_, _, .mk l _ g.1 g.2, by tm_at "sub", .cons_cons _ (.cons _ (List.Sublist.refl _))⟩
            case done =>
              clear hS hB
              refine fun _ _ h9 => TurnJ.casesOn h9 fun PL P hsg hbs => ?_
              refine Ws.iteF (Tst.not (Tst.val (a := .bool true) (Ev.call (by tm_at "ev") (by tm_at "kr") rfl rfl (by tm_at "evs") (CallK.le (side_fn (o := writeB (bs.map optR)) .head hsg hbs rfl) (Eq.refl true))) rfl rfl)) rfl ?_
              refine Ws.pop (Ws.assign (EvK.tuple (EvKs.cons (EvK.bin (EvK.bin (EvK.bin ?_))) rfl)) (by tm_at "pick") (by tm_at "kr") (by tm_at "kr") rfl)
              refine EvK.tupTo (i := 4) (by tm_at "ev") (.tail _ (.head _)) (Eq.refl true) (Eq.refl true) (by tm_at "swp") ⟨rfl, fun D4 => ?_⟩
              tm_at "evk"
              refine Op2.addT (.tail _ (.head _)) (.head _) (Eq.refl true) (Eq.refl true) (Eq.refl true) rfl fun D3 => ?_
              refine EvK.tupFrom (i := 5) (by tm_at "ev") (.tail _ (.tail _ (.tail _ (.tail _ (.head _))))) (Eq.refl true) (Eq.refl true) (Eq.refl true) (by tm_at "swp") ⟨rfl, fun D6 => ?_⟩
              refine Op2.addT (.tail _ (.head _)) (.head _) (Eq.refl true) (Eq.refl true) (Eq.refl true) rfl fun D5 => ?_
              tm_at "evk"
              refine Op2.addT (xs := rowL (wholeH (hdrI src ident tos (writeB (bs.map optR)) ms.length))) (.tail _ (.head _)) (.head _) (Eq.refl true) (Eq.refl true) (Eq.refl true) (by rw [hdrI_row hm1, ← hml]; rfl) fun DO => ?_
              refine EvKs.cons (EvK.ofE (by tm_at "ev") (EvKs.nil ⟨rfl, fun DU => ?_⟩)) rfl
              refine Ws.weak (n' := (DU, .tup [.ref DO, .ref PL]) :: (DO, .tup (rowL (wholeH (hdrI src ident tos (writeB (bs.map optR)) ms.length)))) :: (PL, .lst (pks P)) :: (S, srcO sa sb) :: []) (fun _ h => h) (.cons_cons _ (.cons_cons _ (.cons _ (.cons _ (.cons _ (.cons _ (.cons _ (.cons _ (.cons_cons _ (.cons _ (.cons_cons _ (List.nil_sublist _)))))))))))) ?_
              refine Ws.assign (EvK.cmp ?_ rfl) (by tm_at "pick") (by tm_at "kr") (by tm_at "kr") rfl
              tm_at "evc"
              refine CallK.front (p := (S, srcO sa sb)) (by tm_at "take") (CallK.le (take_fn b0 b1 (by decide) (by decide) fun v sa sb l0 l1 b0 b1 => ?_) (Eq.refl true))
              tm_at "evk"
              refine Op2.of (by tm_at "op") ?_
              generalize decide (v = 0) = lk
              refine Ws.assignT ?_ (fun _ _ => rfl) fun _ => rfl
              tm_at "evc"
              refine CallK.le (joined_fn b0 b1 (.tail _ (.tail _ (.head _))) hsg hbs fun LO OL TL js tv r hsf htv hor => ?_) (Eq.refl true)
              tm_at "asg"
              refine Ws.ite (v := lk) (Tst.val (a := .bool lk) (by tm_at "ev") rfl rfl) (fun h => ?_) fun h => ?_
              · subst h
                have htl := pairedLen htv
                rw [List.length_map, List.length_range] at htl
                have hp5 := hsg.five hbs.len
                have hj2 := hor.2.1
                refine Ws.retP (EvK.cmp ?_ rfl)
                refine EvK.comp (sc' := _) [] (EvK.ofE (by tm_at "ev") ⟨tv, [(TL, .lst tv)], [], _, NoneJ ((LO, .lst [.ref OL, .ref TL]) :: (OL, .lst (bsJ P js)) :: r), SrcAt.lst (.tail (.tail .head)) (.inl rfl), fun _ _ _ _ _ _ _ h => (nomatch h), by omega, .mk, ?_, ?_⟩) (Cap.none (by rfl) fun _ => rfl) (List.forall_mem_nil _) (fun _ _ => rfl)
                · refine fun i v zs n1 hv h9 => NoneJ.casesOn h9 ?_
                  refine toldNoneE htv hor hv ?_
                  refine ⟨_, TgtK.name (by kernel_rfl!), false, Tests.one ?_, fun e => (nomatch e), fun _ => .mk⟩
                  exact Tst.cmp (by tm_at "ev") (by tm_at "ev") (Op.isnt rfl) rfl
                · refine fun D zs n1 h9 => NoneJ.casesOn h9 ?_
                  refine ⟨[(D, .lst [])], fun _ _ _ F => F.ledger (.cons_cons _ (List.nil_sublist _)), ?_⟩
                  tm_at "evk"
                  exact Op2.of (Op.eqNil (.tail _ (.head _)) (.head _)) rfl
              · refine Ws.pop ?_
                refine Ws.retP ?_
                tm_at "evc"
                exact CallK.to (CallK.le (told_right_fn hsg hbs (.tail _ (.head _)) (.tail _ (.tail _ (.head _))) (pairedImp (fun _ _ h => h.mono fun q hq => .tail _ (.tail _ (.tail _ hq))) htv) (DU := DU) (DR := DO) (LPk := PL) (.tail _ (.tail _ (.tail _ (hsf.subset (.head _))))) (.tail _ (.tail _ (.tail _ (hsf.subset (.tail _ (.head _)))))) (.tail _ (.tail _ (.tail _ (hsf.subset (.tail _ (.tail _ (.head _))))))) hor.1 hor.2.1) (Eq.refl true)) rfl

end Mine
theorem PySem.Challenge.cw_nu0136_01_holds : PySem.Challenge.rw_nu0136_01.Holds :=
  Mine.law_walk
