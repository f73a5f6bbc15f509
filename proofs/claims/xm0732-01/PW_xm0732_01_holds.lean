import PyProof.Rows.All
import Wide.All
import OpenK.AllK
import Wide.FinOn
import PySem.Challenge.RW_xm0732_01
open PySem PySem.W PyProof.Rows
set_option Elab.async false
set_option maxRecDepth 100000
set_option maxHeartbeats 8000000
namespace Mine
section SHh
open PySem.Calls
set_option linter.unusedVariables false
abbrev pw : Program := PySem.Challenge.pw_xm0732_01
noncomputable def nth : List Stmt → Nat → Stmt
  | [], _ => .Pass ⟨0, 0, 0, 0⟩
  | a :: _, 0 => a
  | _ :: l, n + 1 => nth l n
noncomputable def st (i : Nat) : Stmt := nth pw.main.body i
noncomputable def fnA : Stmt → Arguments
  | .FunctionDef _ a _ _ _ _ _ _ _ _ => a
  | _ => ⟨[], [], none, [], [], none, []⟩
noncomputable def fnB : Stmt → List Stmt
  | .FunctionDef _ _ b _ _ _ _ _ _ _ => b
  | _ => []
noncomputable def fnS : Stmt → Scope
  | .FunctionDef _ _ _ _ _ _ s _ _ _ => s
  | .ClassDef _ _ _ _ _ _ s _ _ _ _ => s
  | _ => pw.main.scope
noncomputable def clM : Stmt → Nat → Stmt
  | .ClassDef _ _ _ b _ _ _ _ _ _ _, j => nth b j
  | s, _ => s
noncomputable def clS (s : Stmt) : Scope := fnS s
noncomputable def hd.view_39 : Program := { pw with main := { pw.main with body := st 0 :: st 1 :: st 2 :: st 3 :: st 4 :: st 5 :: st 6 :: st 7 :: st 8 :: st 9 :: st 11 :: st 13 :: st 14 :: st 15 :: st 16 :: st 17 :: st 18 :: st 19 :: st 20 :: st 21 :: st 22 :: st 23 :: st 25 :: st 26 :: st 27 :: st 30 :: st 32 :: st 33 :: st 34 :: st 35 :: st 36 :: st 37 :: st 38 :: st 39 :: st 40 :: st 41 :: st 42 :: st 43 :: st 44 :: st 45 :: [] } }
noncomputable def hd.env_41 : Env := { scope := pw.main.scope, locals := mainNs, globals := mainNs, cells := [], code := Value.ref 13, frame := some 14 }
noncomputable def hd.o_43 (P : Params) : Obj := (Obj.mk (Value.type "tuple") none (Data.seq (List.toArray []) 0) (List.toArray []))
noncomputable def hd.o_44 (P : Params) : Obj := (Obj.mk Value.none none (Data.fields (List.toArray [])) (List.toArray []))
noncomputable def hd.o_45 (P : Params) : Obj := (Obj.mk (Value.type "code") none (Data.fields (List.toArray [(Value.str (Str.ofString "<module>") 182), (Value.str (Str.ofString "<module>") 183), (Value.str (Str.ofString "/claim/cut.py") 184), (Value.int 1 0), (Value.int 0 0), (Value.int 0 0), (Value.int 0 0), (Value.int 0 0), (Value.ref 11), (Value.bool Bool.false), (Value.int 181 0), (Value.ref 12), Value.none, Value.none, Value.none, Value.none, (Value.int 185 0), (Value.int 1 0), (Value.str (Str.ofString "/claim/cut.py") 186)])) (List.toArray []))
noncomputable def hd.o_46 (P : Params) : Obj := (Obj.mk (Value.type "frame") none Data.plain (List.toArray [(Option.some (Value.ref 13)), (Option.some (Value.ref 3)), (Option.some (Value.ref 3)), none, (Option.some (Value.str (Str.ofString "__main__") 164)), none, (Option.some (Value.ref 0))]))
noncomputable def hd.o_49 (P : Params) : Obj := (Obj.mk Value.none none (Data.dict (List.toArray [(DictEntry.mk (PyData.keyHash P (Str.ofString "type.__subclasses__.Exception.0")) (Value.str (Str.ofString "type.__subclasses__.Exception.0") 221) (Value.int 38 0)), (DictEntry.mk (PyData.keyHash P (Str.ofString "type.__subclasses__.Exception.n")) (Value.str (Str.ofString "type.__subclasses__.Exception.n") 222) (Value.int 1 0))]) 2) (List.toArray []))
noncomputable def hd.o_52 (P : Params) : Obj := (Obj.mk (Value.type "tuple") none (Data.seq (List.toArray []) 0) (List.toArray []))
noncomputable def hd.o_53 (P : Params) : Obj := (Obj.mk Value.none none (Data.fields (List.toArray [])) (List.toArray []))
noncomputable def hd.o_54 (P : Params) : Obj := (Obj.mk (Value.type "tuple") none (Data.seq (List.toArray [(Value.str (Str.ofString "k") 190)]) 0) (List.toArray []))
noncomputable def hd.o_55 (P : Params) : Obj := (Obj.mk (Value.type "tuple") none (Data.seq (List.toArray []) 0) (List.toArray []))
noncomputable def hd.o_56 (P : Params) : Obj := (Obj.mk Value.none none (Data.func (FuncData.mk (Str.ofString "_wall") (Str.ofString "_wall") (fnA (st 0)) (FuncBody.stmts (fnB (st 0))) (fnS (st 0)) 0 [] Value.none Value.none Value.none Value.none none Value.none Value.none 0)) (List.toArray []))
noncomputable def hd.o_57 (P : Params) : Obj := (Obj.mk (Value.type "code") none (Data.fields (List.toArray [(Value.str (Str.ofString "_wall") 187), (Value.str (Str.ofString "_wall") 188), (Value.str (Str.ofString "/claim/cut.py") 189), (Value.int 1 0), (Value.int 1 0), (Value.int 0 0), (Value.int 0 0), (Value.int 3 0), (Value.ref 15), (Value.bool Bool.true), (Value.int 181 0), (Value.ref 16), Value.none, (Value.ref 17), (Value.ref 18), (Value.ref 19), (Value.int 191 0), (Value.int 1 0), (Value.str (Str.ofString "/claim/cut.py") 192)])) (List.toArray []))
noncomputable def hd.o_58 (P : Params) : Obj := (Obj.mk (Value.type "function") none (Data.func (FuncData.mk (Str.ofString "_wall") (Str.ofString "_wall") (fnA (st 0)) (FuncBody.stmts (fnB (st 0))) (fnS (st 0)) 3 [] Value.none Value.none Value.none (Value.str (Str.ofString "__main__") 164) none (Value.ref 20) Value.none 0)) (List.toArray []))
noncomputable def hd.o_59 (P : Params) : Obj := (Obj.mk (Value.type "tuple") none (Data.seq (List.toArray [(Value.type "Exception")]) 0) (List.toArray []))
noncomputable def hd.o_60 (P : Params) : Obj := (Obj.mk (Value.type "builtin_function_or_method") none (Data.fields (List.toArray [(Value.builtin "type.__prepare__"), (Value.type "type")])) (List.toArray []))
noncomputable def hd.o_61 (P : Params) : Obj := (Obj.mk (Value.type "dict") none (Data.dict (List.toArray [(DictEntry.mk (PyData.keyHash P (Str.ofString "__module__")) (Value.str (Str.ofString "__module__") 203) (Value.str (Str.ofString "outlinemill.errors") 194)), (DictEntry.mk (PyData.keyHash P (Str.ofString "__qualname__")) (Value.str (Str.ofString "__qualname__") 205) (Value.str (Str.ofString "MillError") 204)), (DictEntry.mk (PyData.keyHash P (Str.ofString "__firstlineno__")) (Value.str (Str.ofString "__firstlineno__") 207) (Value.int 5 206)), (DictEntry.mk (PyData.keyHash P (Str.ofString "__init__")) (Value.str (Str.ofString "__init__") 215) (Value.ref 35)), (DictEntry.mk (PyData.keyHash P (Str.ofString "__static_attributes__")) (Value.str (Str.ofString "__static_attributes__") 217) (Value.ref 36))]) 5) (List.toArray []))
noncomputable def hd.o_62 (P : Params) : Obj := (Obj.mk (Value.type "tuple") none (Data.seq (List.toArray []) 0) (List.toArray []))
noncomputable def hd.o_63 (P : Params) : Obj := (Obj.mk Value.none none (Data.fields (List.toArray [(Value.int 7 0), (Value.int 4 0), (Value.ref 34)])) (List.toArray []))
noncomputable def hd.o_64 (P : Params) : Obj := (Obj.mk (Value.type "code") none (Data.fields (List.toArray [(Value.str (Str.ofString "MillError") 198), (Value.str (Str.ofString "MillError") 199), (Value.str (Str.ofString "/claim/cut.py") 200), (Value.int 5 0), (Value.int 0 0), (Value.int 0 0), (Value.int 0 0), (Value.int 0 0), (Value.ref 25), (Value.bool Bool.false), (Value.int 181 0), (Value.ref 26), Value.none, Value.none, Value.none, Value.none, (Value.int 201 0), (Value.int 5 0), (Value.str (Str.ofString "/claim/cut.py") 202)])) (List.toArray []))
noncomputable def hd.o_65 (P : Params) : Obj := (Obj.mk (Value.type "frame") none Data.plain (List.toArray [(Option.some (Value.ref 27)), (Option.some (Value.ref 3)), (Option.some (Value.ref 24)), none, (Option.some (Value.str (Str.ofString "outlinemill.errors") 194)), none, (Option.some (Value.ref 0))]))
noncomputable def hd.o_66 (P : Params) : Obj := (Obj.mk (Value.type "tuple") none (Data.seq (List.toArray []) 0) (List.toArray []))
noncomputable def hd.o_67 (P : Params) : Obj := (Obj.mk Value.none none (Data.fields (List.toArray [])) (List.toArray []))
noncomputable def hd.o_68 (P : Params) : Obj := (Obj.mk (Value.type "tuple") none (Data.seq (List.toArray [(Value.str (Str.ofString "self") 211), (Value.str (Str.ofString "message") 212)]) 0) (List.toArray []))
noncomputable def hd.o_69 (P : Params) : Obj := (Obj.mk (Value.type "tuple") none (Data.seq (List.toArray []) 0) (List.toArray []))
noncomputable def hd.o_70 (P : Params) : Obj := (Obj.mk Value.none none (Data.func (FuncData.mk (Str.ofString "__init__") (Str.ofString "MillError.__init__") (fnA (clM (st 2) 0)) (FuncBody.stmts (fnB (clM (st 2) 0))) (fnS (clM (st 2) 0)) 0 [] Value.none Value.none Value.none Value.none none Value.none Value.none 0)) (List.toArray []))
noncomputable def hd.o_71 (P : Params) : Obj := (Obj.mk (Value.type "code") none (Data.fields (List.toArray [(Value.str (Str.ofString "__init__") 208), (Value.str (Str.ofString "MillError.__init__") 209), (Value.str (Str.ofString "/claim/cut.py") 210), (Value.int 7 0), (Value.int 2 0), (Value.int 0 0), (Value.int 0 0), (Value.int 3 0), (Value.ref 29), (Value.bool Bool.true), (Value.int 181 0), (Value.ref 30), Value.none, (Value.ref 31), (Value.ref 32), (Value.ref 33), (Value.int 213 0), (Value.int 7 0), (Value.str (Str.ofString "/claim/cut.py") 214)])) (List.toArray []))
noncomputable def hd.o_72 (P : Params) : Obj := (Obj.mk (Value.type "function") none (Data.func (FuncData.mk (Str.ofString "__init__") (Str.ofString "MillError.__init__") (fnA (clM (st 2) 0)) (FuncBody.stmts (fnB (clM (st 2) 0))) (fnS (clM (st 2) 0)) 3 [] Value.none Value.none Value.none (Value.str (Str.ofString "outlinemill.errors") 194) none (Value.ref 34) Value.none 0)) (List.toArray []))
noncomputable def hd.o_73 (P : Params) : Obj := (Obj.mk (Value.type "tuple") none (Data.seq (List.toArray [(Value.str (Str.ofString "message") 216)]) 0) (List.toArray []))
noncomputable def hd.o_74 (P : Params) : Obj := (Obj.mk (Value.type "dict") none (Data.dict (List.toArray [(DictEntry.mk (PyData.keyHash P (Str.ofString "__module__")) (Value.str (Str.ofString "__module__") 203) (Value.str (Str.ofString "outlinemill.errors") 194)), (DictEntry.mk (PyData.keyHash P (Str.ofString "__firstlineno__")) (Value.str (Str.ofString "__firstlineno__") 207) (Value.int 5 206)), (DictEntry.mk (PyData.keyHash P (Str.ofString "__init__")) (Value.str (Str.ofString "__init__") 215) (Value.ref 35)), (DictEntry.mk (PyData.keyHash P (Str.ofString "__static_attributes__")) (Value.str (Str.ofString "__static_attributes__") 217) (Value.ref 36)), (DictEntry.mk (PyData.keyHash P (Str.ofString "__weakref__")) (Value.str (Str.ofString "__weakref__") 219) (Value.ref 39)), (DictEntry.mk (PyData.keyHash P (Str.ofString "__doc__")) (Value.str (Str.ofString "__doc__") 220) Value.none)]) 3) (List.toArray []))
noncomputable def hd.o_76 (P : Params) : Obj := (Obj.mk (Value.type "getset_descriptor") none (Data.fields (List.toArray [(Value.str (Str.ofString "__weakref__") 218), (Value.ref 38), (Value.builtin "ExceptionGroup.__weakref__"), Value.none])) (List.toArray []))
noncomputable def hd.o_77 (P : Params) : Obj := (Obj.mk (Value.type "super") none (Data.fields (List.toArray [(Value.ref 38), (Value.ref 38), (Value.ref 38)])) (List.toArray []))
noncomputable def hd.o_78 (P : Params) : Obj := (Obj.mk (Value.type "builtin_function_or_method") none (Data.fields (List.toArray [(Value.builtin "object.__init_subclass__"), (Value.ref 38)])) (List.toArray []))
noncomputable def hd.o_79 (P : Params) : Obj := (Obj.mk (Value.type "dict") none (Data.dict (List.toArray [(DictEntry.mk (PyData.keyHash P (Str.ofString "__name__")) (Value.str (Str.ofString "__name__") 165) (Value.str (Str.ofString "outlinemill.errors") 194)), (DictEntry.mk (PyData.keyHash P (Str.ofString "__doc__")) (Value.str (Str.ofString "__doc__") 166) Value.none), (DictEntry.mk (PyData.keyHash P (Str.ofString "__package__")) (Value.str (Str.ofString "__package__") 167) Value.none), (DictEntry.mk (PyData.keyHash P (Str.ofString "__loader__")) (Value.str (Str.ofString "__loader__") 168) (Value.builtin "__main__.__loader__#opaque")), (DictEntry.mk (PyData.keyHash P (Str.ofString "__spec__")) (Value.str (Str.ofString "__spec__") 169) Value.none), (DictEntry.mk (PyData.keyHash P (Str.ofString "__annotations__")) (Value.str (Str.ofString "__annotations__") 170) (Value.ref 6)), (DictEntry.mk (PyData.keyHash P (Str.ofString "__builtins__")) (Value.str (Str.ofString "__builtins__") 171) (Value.ref 4)), (DictEntry.mk (PyData.keyHash P (Str.ofString "__file__")) (Value.str (Str.ofString "__file__") 173) (Value.str (Str.ofString "/claim/cut.py") 172)), (DictEntry.mk (PyData.keyHash P (Str.ofString "__cached__")) (Value.str (Str.ofString "__cached__") 174) Value.none), (DictEntry.mk (PyData.keyHash P (Str.ofString "_wall")) (Value.str (Str.ofString "_wall") 193) (Value.ref 21)), (DictEntry.mk (PyData.keyHash P (Str.ofString "MillError")) (Value.str (Str.ofString "MillError") 224) (Value.ref 38)), (DictEntry.mk (PyData.keyHash P (Str.ofString "NumberFault")) (Value.str (Str.ofString "NumberFault") 240) (Value.ref 51))]) 12) (List.toArray []))
noncomputable def hd.o_80 (P : Params) : Obj := (Obj.mk Value.none none (Data.fields (List.toArray [(Value.int 1 0), (Value.int 0 0), (Value.ref 20), (Value.int 5 0), (Value.int 0 0), (Value.ref 27), (Value.int 9 0), (Value.int 0 0), (Value.ref 47)])) (List.toArray []))
noncomputable def hd.o_81 (P : Params) : Obj := (Obj.mk (Value.type "type") none (Data.cls (ClassData.mk (Str.ofString "MillError") [(Value.type "Exception")] [(Value.ref 38), (Value.type "Exception"), (Value.type "BaseException"), (Value.type "object")] 37 (Str.ofString "MillError") Bool.true [] [(Value.ref 51)] Bool.false none Bool.false)) (List.toArray [(Option.some (Value.ref 22)), none, (Option.some (Value.str (Str.ofString "MillError") 196)), (Option.some (Value.str (Str.ofString "MillError") 204)), (Option.some (Value.builtin "Exception.__new__")), (Option.some (Value.bool Bool.true))]))
noncomputable def hd.o_82 (P : Params) : Obj := (Obj.mk (Value.type "tuple") none (Data.seq (List.toArray [(Value.ref 38)]) 0) (List.toArray []))
noncomputable def hd.o_83 (P : Params) : Obj := (Obj.mk (Value.type "builtin_function_or_method") none (Data.fields (List.toArray [(Value.builtin "type.__prepare__"), (Value.type "type")])) (List.toArray []))
noncomputable def hd.o_84 (P : Params) : Obj := (Obj.mk (Value.type "dict") none (Data.dict (List.toArray [(DictEntry.mk (PyData.keyHash P (Str.ofString "__module__")) (Value.str (Str.ofString "__module__") 232) (Value.str (Str.ofString "outlinemill.errors") 194)), (DictEntry.mk (PyData.keyHash P (Str.ofString "__qualname__")) (Value.str (Str.ofString "__qualname__") 234) (Value.str (Str.ofString "NumberFault") 233)), (DictEntry.mk (PyData.keyHash P (Str.ofString "__firstlineno__")) (Value.str (Str.ofString "__firstlineno__") 236) (Value.int 9 235)), (DictEntry.mk (PyData.keyHash P (Str.ofString "__static_attributes__")) (Value.str (Str.ofString "__static_attributes__") 237) (Value.ref 49))]) 4) (List.toArray []))
noncomputable def hd.o_85 (P : Params) : Obj := (Obj.mk (Value.type "tuple") none (Data.seq (List.toArray []) 0) (List.toArray []))
noncomputable def hd.o_86 (P : Params) : Obj := (Obj.mk Value.none none (Data.fields (List.toArray [])) (List.toArray []))
noncomputable def hd.o_87 (P : Params) : Obj := (Obj.mk (Value.type "code") none (Data.fields (List.toArray [(Value.str (Str.ofString "NumberFault") 227), (Value.str (Str.ofString "NumberFault") 228), (Value.str (Str.ofString "/claim/cut.py") 229), (Value.int 9 0), (Value.int 0 0), (Value.int 0 0), (Value.int 0 0), (Value.int 0 0), (Value.ref 45), (Value.bool Bool.false), (Value.int 181 0), (Value.ref 46), Value.none, Value.none, Value.none, Value.none, (Value.int 230 0), (Value.int 9 0), (Value.str (Str.ofString "/claim/cut.py") 231)])) (List.toArray []))
noncomputable def hd.o_88 (P : Params) : Obj := (Obj.mk (Value.type "frame") none Data.plain (List.toArray [(Option.some (Value.ref 47)), (Option.some (Value.ref 3)), (Option.some (Value.ref 44)), none, (Option.some (Value.str (Str.ofString "outlinemill.errors") 194)), none, (Option.some (Value.ref 0))]))
noncomputable def hd.o_89 (P : Params) : Obj := (Obj.mk (Value.type "tuple") none (Data.seq (List.toArray []) 0) (List.toArray []))
noncomputable def hd.o_90 (P : Params) : Obj := (Obj.mk (Value.type "dict") none (Data.dict (List.toArray [(DictEntry.mk (PyData.keyHash P (Str.ofString "__module__")) (Value.str (Str.ofString "__module__") 232) (Value.str (Str.ofString "outlinemill.errors") 194)), (DictEntry.mk (PyData.keyHash P (Str.ofString "__firstlineno__")) (Value.str (Str.ofString "__firstlineno__") 236) (Value.int 9 235)), (DictEntry.mk (PyData.keyHash P (Str.ofString "__static_attributes__")) (Value.str (Str.ofString "__static_attributes__") 237) (Value.ref 49)), (DictEntry.mk (PyData.keyHash P (Str.ofString "__doc__")) (Value.str (Str.ofString "__doc__") 238) Value.none)]) 2) (List.toArray []))
noncomputable def hd.o_91 (P : Params) : Obj := (Obj.mk (Value.type "type") none (Data.cls (ClassData.mk (Str.ofString "NumberFault") [(Value.ref 38)] [(Value.ref 51), (Value.ref 38), (Value.type "Exception"), (Value.type "BaseException"), (Value.type "object")] 50 (Str.ofString "NumberFault") Bool.true [] [] Bool.false none Bool.false)) (List.toArray [(Option.some (Value.ref 42)), none, (Option.some (Value.str (Str.ofString "NumberFault") 225)), (Option.some (Value.str (Str.ofString "NumberFault") 233)), (Option.some (Value.builtin "Exception.__new__")), (Option.some (Value.bool Bool.true))]))
noncomputable def hd.o_92 (P : Params) : Obj := (Obj.mk (Value.type "super") none (Data.fields (List.toArray [(Value.ref 51), (Value.ref 51), (Value.ref 51)])) (List.toArray []))
noncomputable def hd.o_93 (P : Params) : Obj := (Obj.mk (Value.type "builtin_function_or_method") none (Data.fields (List.toArray [(Value.builtin "object.__init_subclass__"), (Value.ref 51)])) (List.toArray []))
noncomputable def hd.o_94 (P : Params) : Obj := (Obj.mk (Value.type "dict") none (Data.dict (List.toArray [(DictEntry.mk (PyData.keyHash P (Str.ofString "__name__")) (Value.str (Str.ofString "__name__") 165) (Value.str (Str.ofString "outlinemill.exact") 257)), (DictEntry.mk (PyData.keyHash P (Str.ofString "__doc__")) (Value.str (Str.ofString "__doc__") 166) Value.none), (DictEntry.mk (PyData.keyHash P (Str.ofString "__package__")) (Value.str (Str.ofString "__package__") 167) Value.none), (DictEntry.mk (PyData.keyHash P (Str.ofString "__loader__")) (Value.str (Str.ofString "__loader__") 168) (Value.builtin "__main__.__loader__#opaque")), (DictEntry.mk (PyData.keyHash P (Str.ofString "__spec__")) (Value.str (Str.ofString "__spec__") 169) Value.none), (DictEntry.mk (PyData.keyHash P (Str.ofString "__annotations__")) (Value.str (Str.ofString "__annotations__") 170) (Value.ref 6)), (DictEntry.mk (PyData.keyHash P (Str.ofString "__builtins__")) (Value.str (Str.ofString "__builtins__") 171) (Value.ref 4)), (DictEntry.mk (PyData.keyHash P (Str.ofString "__file__")) (Value.str (Str.ofString "__file__") 173) (Value.str (Str.ofString "/claim/cut.py") 172)), (DictEntry.mk (PyData.keyHash P (Str.ofString "__cached__")) (Value.str (Str.ofString "__cached__") 174) Value.none), (DictEntry.mk (PyData.keyHash P (Str.ofString "_wall")) (Value.str (Str.ofString "_wall") 193) (Value.ref 21)), (DictEntry.mk (PyData.keyHash P (Str.ofString "MillError")) (Value.str (Str.ofString "MillError") 224) (Value.ref 38)), (DictEntry.mk (PyData.keyHash P (Str.ofString "NumberFault")) (Value.str (Str.ofString "NumberFault") 240) (Value.ref 51)), (DictEntry.mk (PyData.keyHash P (Str.ofString "SheetFault")) (Value.str (Str.ofString "SheetFault") 256) (Value.ref 63)), (DictEntry.mk (PyData.keyHash P (Str.ofString "ZERO")) (Value.str (Str.ofString "ZERO") 261) (Value.ref 66)), (DictEntry.mk (PyData.keyHash P (Str.ofString "DIGITS")) (Value.str (Str.ofString "DIGITS") 263) (Value.str (Str.ofString "0123456789") 262)), (DictEntry.mk (PyData.keyHash P (Str.ofString "MOST_EXPONENT")) (Value.str (Str.ofString "MOST_EXPONENT") 265) (Value.int 300 264)), (DictEntry.mk (PyData.keyHash P (Str.ofString "MOST_FIGURES")) (Value.str (Str.ofString "MOST_FIGURES") 267) (Value.int 60 266)), (DictEntry.mk (PyData.keyHash P (Str.ofString "MOST_VALUE")) (Value.str (Str.ofString "MOST_VALUE") 271) (Value.int 1000000000000000000000000000000000000000000000000000000000000 270)), (DictEntry.mk (PyData.keyHash P (Str.ofString "common_divisor")) (Value.str (Str.ofString "common_divisor") 281) (Value.ref 73)), (DictEntry.mk (PyData.keyHash P (Str.ofString "fraction")) (Value.str (Str.ofString "fraction") 291) (Value.ref 81)), (DictEntry.mk (PyData.keyHash P (Str.ofString "times")) (Value.str (Str.ofString "times") 299) (Value.ref 88))]) 21) (List.toArray []))
noncomputable def hd.o_95 (P : Params) : Obj := (Obj.mk Value.none none (Data.fields (List.toArray [(Value.int 1 0), (Value.int 0 0), (Value.ref 20), (Value.int 5 0), (Value.int 0 0), (Value.ref 27), (Value.int 9 0), (Value.int 0 0), (Value.ref 47), (Value.int 11 0), (Value.int 0 0), (Value.ref 59), (Value.int 19 0), (Value.int 0 0), (Value.ref 72), (Value.int 24 0), (Value.int 0 0), (Value.ref 80), (Value.int 31 0), (Value.int 0 0), (Value.ref 87)])) (List.toArray []))
noncomputable def hd.o_96 (P : Params) : Obj := (Obj.mk (Value.type "type") none (Data.cls (ClassData.mk (Str.ofString "MillError") [(Value.type "Exception")] [(Value.ref 38), (Value.type "Exception"), (Value.type "BaseException"), (Value.type "object")] 37 (Str.ofString "MillError") Bool.true [] [(Value.ref 51), (Value.ref 63)] Bool.false none Bool.false)) (List.toArray [(Option.some (Value.ref 22)), none, (Option.some (Value.str (Str.ofString "MillError") 196)), (Option.some (Value.str (Str.ofString "MillError") 204)), (Option.some (Value.builtin "Exception.__new__")), (Option.some (Value.bool Bool.true))]))
noncomputable def hd.o_97 (P : Params) : Obj := (Obj.mk (Value.type "tuple") none (Data.seq (List.toArray [(Value.ref 38)]) 0) (List.toArray []))
noncomputable def hd.o_98 (P : Params) : Obj := (Obj.mk (Value.type "builtin_function_or_method") none (Data.fields (List.toArray [(Value.builtin "type.__prepare__"), (Value.type "type")])) (List.toArray []))
noncomputable def hd.o_99 (P : Params) : Obj := (Obj.mk (Value.type "dict") none (Data.dict (List.toArray [(DictEntry.mk (PyData.keyHash P (Str.ofString "__module__")) (Value.str (Str.ofString "__module__") 248) (Value.str (Str.ofString "outlinemill.errors") 194)), (DictEntry.mk (PyData.keyHash P (Str.ofString "__qualname__")) (Value.str (Str.ofString "__qualname__") 250) (Value.str (Str.ofString "SheetFault") 249)), (DictEntry.mk (PyData.keyHash P (Str.ofString "__firstlineno__")) (Value.str (Str.ofString "__firstlineno__") 252) (Value.int 11 251)), (DictEntry.mk (PyData.keyHash P (Str.ofString "__static_attributes__")) (Value.str (Str.ofString "__static_attributes__") 253) (Value.ref 61))]) 4) (List.toArray []))
noncomputable def hd.o_100 (P : Params) : Obj := (Obj.mk (Value.type "tuple") none (Data.seq (List.toArray []) 0) (List.toArray []))
noncomputable def hd.o_101 (P : Params) : Obj := (Obj.mk Value.none none (Data.fields (List.toArray [])) (List.toArray []))
noncomputable def hd.o_102 (P : Params) : Obj := (Obj.mk (Value.type "code") none (Data.fields (List.toArray [(Value.str (Str.ofString "SheetFault") 243), (Value.str (Str.ofString "SheetFault") 244), (Value.str (Str.ofString "/claim/cut.py") 245), (Value.int 11 0), (Value.int 0 0), (Value.int 0 0), (Value.int 0 0), (Value.int 0 0), (Value.ref 57), (Value.bool Bool.false), (Value.int 181 0), (Value.ref 58), Value.none, Value.none, Value.none, Value.none, (Value.int 246 0), (Value.int 11 0), (Value.str (Str.ofString "/claim/cut.py") 247)])) (List.toArray []))
noncomputable def hd.o_103 (P : Params) : Obj := (Obj.mk (Value.type "frame") none Data.plain (List.toArray [(Option.some (Value.ref 59)), (Option.some (Value.ref 3)), (Option.some (Value.ref 56)), none, (Option.some (Value.str (Str.ofString "outlinemill.errors") 194)), none, (Option.some (Value.ref 0))]))
noncomputable def hd.o_104 (P : Params) : Obj := (Obj.mk (Value.type "tuple") none (Data.seq (List.toArray []) 0) (List.toArray []))
noncomputable def hd.o_105 (P : Params) : Obj := (Obj.mk (Value.type "dict") none (Data.dict (List.toArray [(DictEntry.mk (PyData.keyHash P (Str.ofString "__module__")) (Value.str (Str.ofString "__module__") 248) (Value.str (Str.ofString "outlinemill.errors") 194)), (DictEntry.mk (PyData.keyHash P (Str.ofString "__firstlineno__")) (Value.str (Str.ofString "__firstlineno__") 252) (Value.int 11 251)), (DictEntry.mk (PyData.keyHash P (Str.ofString "__static_attributes__")) (Value.str (Str.ofString "__static_attributes__") 253) (Value.ref 61)), (DictEntry.mk (PyData.keyHash P (Str.ofString "__doc__")) (Value.str (Str.ofString "__doc__") 254) Value.none)]) 2) (List.toArray []))
noncomputable def hd.o_106 (P : Params) : Obj := (Obj.mk (Value.type "type") none (Data.cls (ClassData.mk (Str.ofString "SheetFault") [(Value.ref 38)] [(Value.ref 63), (Value.ref 38), (Value.type "Exception"), (Value.type "BaseException"), (Value.type "object")] 62 (Str.ofString "SheetFault") Bool.true [] [] Bool.false none Bool.false)) (List.toArray [(Option.some (Value.ref 54)), none, (Option.some (Value.str (Str.ofString "SheetFault") 241)), (Option.some (Value.str (Str.ofString "SheetFault") 249)), (Option.some (Value.builtin "Exception.__new__")), (Option.some (Value.bool Bool.true))]))
noncomputable def hd.o_107 (P : Params) : Obj := (Obj.mk (Value.type "super") none (Data.fields (List.toArray [(Value.ref 63), (Value.ref 63), (Value.ref 63)])) (List.toArray []))
noncomputable def hd.o_108 (P : Params) : Obj := (Obj.mk (Value.type "builtin_function_or_method") none (Data.fields (List.toArray [(Value.builtin "object.__init_subclass__"), (Value.ref 63)])) (List.toArray []))
noncomputable def hd.o_109 (P : Params) : Obj := (Obj.mk (Value.type "tuple") none (Data.seq (List.toArray [(Value.int 0 259), (Value.int 1 260)]) 0) (List.toArray []))
noncomputable def hd.o_110 (P : Params) : Obj := (Obj.mk (Value.type "tuple") none (Data.seq (List.toArray []) 0) (List.toArray []))
noncomputable def hd.o_111 (P : Params) : Obj := (Obj.mk Value.none none (Data.fields (List.toArray [])) (List.toArray []))
noncomputable def hd.o_112 (P : Params) : Obj := (Obj.mk (Value.type "tuple") none (Data.seq (List.toArray [(Value.str (Str.ofString "one") 275), (Value.str (Str.ofString "other") 276), (Value.str (Str.ofString "first") 277), (Value.str (Str.ofString "second") 278)]) 0) (List.toArray []))
noncomputable def hd.o_113 (P : Params) : Obj := (Obj.mk (Value.type "tuple") none (Data.seq (List.toArray []) 0) (List.toArray []))
noncomputable def hd.o_114 (P : Params) : Obj := (Obj.mk Value.none none (Data.func (FuncData.mk (Str.ofString "common_divisor") (Str.ofString "common_divisor") (fnA (st 11)) (FuncBody.stmts (fnB (st 11))) (fnS (st 11)) 0 [] Value.none Value.none Value.none Value.none none Value.none Value.none 0)) (List.toArray []))
noncomputable def hd.o_115 (P : Params) : Obj := (Obj.mk (Value.type "code") none (Data.fields (List.toArray [(Value.str (Str.ofString "common_divisor") 272), (Value.str (Str.ofString "common_divisor") 273), (Value.str (Str.ofString "/claim/cut.py") 274), (Value.int 19 0), (Value.int 2 0), (Value.int 0 0), (Value.int 0 0), (Value.int 3 0), (Value.ref 67), (Value.bool Bool.true), (Value.int 181 0), (Value.ref 68), Value.none, (Value.ref 69), (Value.ref 70), (Value.ref 71), (Value.int 279 0), (Value.int 19 0), (Value.str (Str.ofString "/claim/cut.py") 280)])) (List.toArray []))
noncomputable def hd.o_116 (P : Params) : Obj := (Obj.mk (Value.type "function") none (Data.func (FuncData.mk (Str.ofString "common_divisor") (Str.ofString "common_divisor") (fnA (st 11)) (FuncBody.stmts (fnB (st 11))) (fnS (st 11)) 3 [] Value.none Value.none Value.none (Value.str (Str.ofString "outlinemill.exact") 257) none (Value.ref 72) Value.none 0)) (List.toArray []))
noncomputable def hd.o_117 (P : Params) : Obj := (Obj.mk (Value.type "tuple") none (Data.seq (List.toArray [(Value.int 1 282)]) 0) (List.toArray []))
noncomputable def hd.o_118 (P : Params) : Obj := (Obj.mk (Value.type "tuple") none (Data.seq (List.toArray []) 0) (List.toArray []))
noncomputable def hd.o_119 (P : Params) : Obj := (Obj.mk Value.none none (Data.fields (List.toArray [])) (List.toArray []))
noncomputable def hd.o_120 (P : Params) : Obj := (Obj.mk (Value.type "tuple") none (Data.seq (List.toArray [(Value.str (Str.ofString "top") 286), (Value.str (Str.ofString "bottom") 287), (Value.str (Str.ofString "common") 288)]) 0) (List.toArray []))
noncomputable def hd.o_121 (P : Params) : Obj := (Obj.mk (Value.type "tuple") none (Data.seq (List.toArray []) 0) (List.toArray []))
noncomputable def hd.o_122 (P : Params) : Obj := (Obj.mk Value.none none (Data.func (FuncData.mk (Str.ofString "fraction") (Str.ofString "fraction") (fnA (st 12)) (FuncBody.stmts (fnB (st 12))) (fnS (st 12)) 0 [] Value.none Value.none Value.none Value.none none Value.none Value.none 0)) (List.toArray []))
noncomputable def hd.o_123 (P : Params) : Obj := (Obj.mk (Value.type "code") none (Data.fields (List.toArray [(Value.str (Str.ofString "fraction") 283), (Value.str (Str.ofString "fraction") 284), (Value.str (Str.ofString "/claim/cut.py") 285), (Value.int 24 0), (Value.int 2 0), (Value.int 0 0), (Value.int 0 0), (Value.int 3 0), (Value.ref 75), (Value.bool Bool.true), (Value.int 181 0), (Value.ref 76), Value.none, (Value.ref 77), (Value.ref 78), (Value.ref 79), (Value.int 289 0), (Value.int 24 0), (Value.str (Str.ofString "/claim/cut.py") 290)])) (List.toArray []))
noncomputable def hd.o_124 (P : Params) : Obj := (Obj.mk (Value.type "function") none (Data.func (FuncData.mk (Str.ofString "fraction") (Str.ofString "fraction") (fnA (st 12)) (FuncBody.stmts (fnB (st 12))) (fnS (st 12)) 3 [] (Value.ref 74) Value.none Value.none (Value.str (Str.ofString "outlinemill.exact") 257) none (Value.ref 80) Value.none 0)) (List.toArray []))
noncomputable def hd.o_125 (P : Params) : Obj := (Obj.mk (Value.type "tuple") none (Data.seq (List.toArray []) 0) (List.toArray []))
noncomputable def hd.o_126 (P : Params) : Obj := (Obj.mk Value.none none (Data.fields (List.toArray [])) (List.toArray []))
noncomputable def hd.o_127 (P : Params) : Obj := (Obj.mk (Value.type "tuple") none (Data.seq (List.toArray [(Value.str (Str.ofString "a") 295), (Value.str (Str.ofString "b") 296)]) 0) (List.toArray []))
noncomputable def hd.o_128 (P : Params) : Obj := (Obj.mk (Value.type "tuple") none (Data.seq (List.toArray []) 0) (List.toArray []))
noncomputable def hd.o_129 (P : Params) : Obj := (Obj.mk Value.none none (Data.func (FuncData.mk (Str.ofString "times") (Str.ofString "times") (fnA (st 13)) (FuncBody.stmts (fnB (st 13))) (fnS (st 13)) 0 [] Value.none Value.none Value.none Value.none none Value.none Value.none 0)) (List.toArray []))
noncomputable def hd.o_130 (P : Params) : Obj := (Obj.mk (Value.type "code") none (Data.fields (List.toArray [(Value.str (Str.ofString "times") 292), (Value.str (Str.ofString "times") 293), (Value.str (Str.ofString "/claim/cut.py") 294), (Value.int 31 0), (Value.int 2 0), (Value.int 0 0), (Value.int 0 0), (Value.int 3 0), (Value.ref 82), (Value.bool Bool.true), (Value.int 181 0), (Value.ref 83), Value.none, (Value.ref 84), (Value.ref 85), (Value.ref 86), (Value.int 297 0), (Value.int 31 0), (Value.str (Str.ofString "/claim/cut.py") 298)])) (List.toArray []))
noncomputable def hd.o_131 (P : Params) : Obj := (Obj.mk (Value.type "function") none (Data.func (FuncData.mk (Str.ofString "times") (Str.ofString "times") (fnA (st 13)) (FuncBody.stmts (fnB (st 13))) (fnS (st 13)) 3 [] Value.none Value.none Value.none (Value.str (Str.ofString "outlinemill.exact") 257) none (Value.ref 87) Value.none 0)) (List.toArray []))
noncomputable def hd.o_134 (P : Params) : Obj := (Obj.mk (Value.type "tuple") none (Data.seq (List.toArray []) 0) (List.toArray []))
noncomputable def hd.o_135 (P : Params) : Obj := (Obj.mk Value.none none (Data.fields (List.toArray [])) (List.toArray []))
noncomputable def hd.o_136 (P : Params) : Obj := (Obj.mk (Value.type "tuple") none (Data.seq (List.toArray [(Value.str (Str.ofString "a") 303), (Value.str (Str.ofString "b") 304)]) 0) (List.toArray []))
noncomputable def hd.o_137 (P : Params) : Obj := (Obj.mk (Value.type "tuple") none (Data.seq (List.toArray []) 0) (List.toArray []))
noncomputable def hd.o_138 (P : Params) : Obj := (Obj.mk Value.none none (Data.func (FuncData.mk (Str.ofString "divided") (Str.ofString "divided") (fnA (st 14)) (FuncBody.stmts (fnB (st 14))) (fnS (st 14)) 0 [] Value.none Value.none Value.none Value.none none Value.none Value.none 0)) (List.toArray []))
noncomputable def hd.o_139 (P : Params) : Obj := (Obj.mk (Value.type "code") none (Data.fields (List.toArray [(Value.str (Str.ofString "divided") 300), (Value.str (Str.ofString "divided") 301), (Value.str (Str.ofString "/claim/cut.py") 302), (Value.int 33 0), (Value.int 2 0), (Value.int 0 0), (Value.int 0 0), (Value.int 3 0), (Value.ref 89), (Value.bool Bool.true), (Value.int 181 0), (Value.ref 90), Value.none, (Value.ref 91), (Value.ref 92), (Value.ref 93), (Value.int 305 0), (Value.int 33 0), (Value.str (Str.ofString "/claim/cut.py") 306)])) (List.toArray []))
noncomputable def hd.o_140 (P : Params) : Obj := (Obj.mk (Value.type "function") none (Data.func (FuncData.mk (Str.ofString "divided") (Str.ofString "divided") (fnA (st 14)) (FuncBody.stmts (fnB (st 14))) (fnS (st 14)) 3 [] Value.none Value.none Value.none (Value.str (Str.ofString "outlinemill.exact") 257) none (Value.ref 94) Value.none 0)) (List.toArray []))
noncomputable def hd.o_141 (P : Params) : Obj := (Obj.mk (Value.type "tuple") none (Data.seq (List.toArray []) 0) (List.toArray []))
noncomputable def hd.o_142 (P : Params) : Obj := (Obj.mk Value.none none (Data.fields (List.toArray [])) (List.toArray []))
noncomputable def hd.o_143 (P : Params) : Obj := (Obj.mk (Value.type "tuple") none (Data.seq (List.toArray [(Value.str (Str.ofString "a") 311)]) 0) (List.toArray []))
noncomputable def hd.o_144 (P : Params) : Obj := (Obj.mk (Value.type "tuple") none (Data.seq (List.toArray []) 0) (List.toArray []))
noncomputable def hd.o_145 (P : Params) : Obj := (Obj.mk Value.none none (Data.func (FuncData.mk (Str.ofString "sign_of") (Str.ofString "sign_of") (fnA (st 15)) (FuncBody.stmts (fnB (st 15))) (fnS (st 15)) 0 [] Value.none Value.none Value.none Value.none none Value.none Value.none 0)) (List.toArray []))
noncomputable def hd.o_146 (P : Params) : Obj := (Obj.mk (Value.type "code") none (Data.fields (List.toArray [(Value.str (Str.ofString "sign_of") 308), (Value.str (Str.ofString "sign_of") 309), (Value.str (Str.ofString "/claim/cut.py") 310), (Value.int 37 0), (Value.int 1 0), (Value.int 0 0), (Value.int 0 0), (Value.int 3 0), (Value.ref 96), (Value.bool Bool.true), (Value.int 181 0), (Value.ref 97), Value.none, (Value.ref 98), (Value.ref 99), (Value.ref 100), (Value.int 312 0), (Value.int 37 0), (Value.str (Str.ofString "/claim/cut.py") 313)])) (List.toArray []))
noncomputable def hd.o_147 (P : Params) : Obj := (Obj.mk (Value.type "function") none (Data.func (FuncData.mk (Str.ofString "sign_of") (Str.ofString "sign_of") (fnA (st 15)) (FuncBody.stmts (fnB (st 15))) (fnS (st 15)) 3 [] Value.none Value.none Value.none (Value.str (Str.ofString "outlinemill.exact") 257) none (Value.ref 101) Value.none 0)) (List.toArray []))
noncomputable def hd.o_148 (P : Params) : Obj := (Obj.mk (Value.type "tuple") none (Data.seq (List.toArray []) 0) (List.toArray []))
noncomputable def hd.o_149 (P : Params) : Obj := (Obj.mk Value.none none (Data.fields (List.toArray [])) (List.toArray []))
noncomputable def hd.o_150 (P : Params) : Obj := (Obj.mk (Value.type "tuple") none (Data.seq (List.toArray [(Value.str (Str.ofString "a") 318), (Value.str (Str.ofString "b") 319)]) 0) (List.toArray []))
noncomputable def hd.o_151 (P : Params) : Obj := (Obj.mk (Value.type "tuple") none (Data.seq (List.toArray []) 0) (List.toArray []))
noncomputable def hd.o_152 (P : Params) : Obj := (Obj.mk Value.none none (Data.func (FuncData.mk (Str.ofString "compare") (Str.ofString "compare") (fnA (st 16)) (FuncBody.stmts (fnB (st 16))) (fnS (st 16)) 0 [] Value.none Value.none Value.none Value.none none Value.none Value.none 0)) (List.toArray []))
noncomputable def hd.o_153 (P : Params) : Obj := (Obj.mk (Value.type "code") none (Data.fields (List.toArray [(Value.str (Str.ofString "compare") 315), (Value.str (Str.ofString "compare") 316), (Value.str (Str.ofString "/claim/cut.py") 317), (Value.int 43 0), (Value.int 2 0), (Value.int 0 0), (Value.int 0 0), (Value.int 3 0), (Value.ref 103), (Value.bool Bool.true), (Value.int 181 0), (Value.ref 104), Value.none, (Value.ref 105), (Value.ref 106), (Value.ref 107), (Value.int 320 0), (Value.int 43 0), (Value.str (Str.ofString "/claim/cut.py") 321)])) (List.toArray []))
noncomputable def hd.o_154 (P : Params) : Obj := (Obj.mk (Value.type "function") none (Data.func (FuncData.mk (Str.ofString "compare") (Str.ofString "compare") (fnA (st 16)) (FuncBody.stmts (fnB (st 16))) (fnS (st 16)) 3 [] Value.none Value.none Value.none (Value.str (Str.ofString "outlinemill.exact") 257) none (Value.ref 108) Value.none 0)) (List.toArray []))
noncomputable def hd.o_155 (P : Params) : Obj := (Obj.mk (Value.type "tuple") none (Data.seq (List.toArray []) 0) (List.toArray []))
noncomputable def hd.o_156 (P : Params) : Obj := (Obj.mk Value.none none (Data.fields (List.toArray [])) (List.toArray []))
noncomputable def hd.o_157 (P : Params) : Obj := (Obj.mk (Value.type "tuple") none (Data.seq (List.toArray [(Value.str (Str.ofString "a") 326)]) 0) (List.toArray []))
noncomputable def hd.o_158 (P : Params) : Obj := (Obj.mk (Value.type "tuple") none (Data.seq (List.toArray []) 0) (List.toArray []))
noncomputable def hd.o_159 (P : Params) : Obj := (Obj.mk Value.none none (Data.func (FuncData.mk (Str.ofString "rounded") (Str.ofString "rounded") (fnA (st 17)) (FuncBody.stmts (fnB (st 17))) (fnS (st 15)) 0 [] Value.none Value.none Value.none Value.none none Value.none Value.none 0)) (List.toArray []))
noncomputable def hd.o_160 (P : Params) : Obj := (Obj.mk (Value.type "code") none (Data.fields (List.toArray [(Value.str (Str.ofString "rounded") 323), (Value.str (Str.ofString "rounded") 324), (Value.str (Str.ofString "/claim/cut.py") 325), (Value.int 45 0), (Value.int 1 0), (Value.int 0 0), (Value.int 0 0), (Value.int 3 0), (Value.ref 110), (Value.bool Bool.true), (Value.int 181 0), (Value.ref 111), Value.none, (Value.ref 112), (Value.ref 113), (Value.ref 114), (Value.int 327 0), (Value.int 45 0), (Value.str (Str.ofString "/claim/cut.py") 328)])) (List.toArray []))
noncomputable def hd.o_161 (P : Params) : Obj := (Obj.mk (Value.type "function") none (Data.func (FuncData.mk (Str.ofString "rounded") (Str.ofString "rounded") (fnA (st 17)) (FuncBody.stmts (fnB (st 17))) (fnS (st 15)) 3 [] Value.none Value.none Value.none (Value.str (Str.ofString "outlinemill.exact") 257) none (Value.ref 115) Value.none 0)) (List.toArray []))
noncomputable def hd.o_162 (P : Params) : Obj := (Obj.mk (Value.type "dict") none (Data.dict (List.toArray [(DictEntry.mk (PyData.keyHash P (Str.ofString "__name__")) (Value.str (Str.ofString "__name__") 165) (Value.str (Str.ofString "outlinemill.exact") 257)), (DictEntry.mk (PyData.keyHash P (Str.ofString "__doc__")) (Value.str (Str.ofString "__doc__") 166) Value.none), (DictEntry.mk (PyData.keyHash P (Str.ofString "__package__")) (Value.str (Str.ofString "__package__") 167) Value.none), (DictEntry.mk (PyData.keyHash P (Str.ofString "__loader__")) (Value.str (Str.ofString "__loader__") 168) (Value.builtin "__main__.__loader__#opaque")), (DictEntry.mk (PyData.keyHash P (Str.ofString "__spec__")) (Value.str (Str.ofString "__spec__") 169) Value.none), (DictEntry.mk (PyData.keyHash P (Str.ofString "__annotations__")) (Value.str (Str.ofString "__annotations__") 170) (Value.ref 6)), (DictEntry.mk (PyData.keyHash P (Str.ofString "__builtins__")) (Value.str (Str.ofString "__builtins__") 171) (Value.ref 4)), (DictEntry.mk (PyData.keyHash P (Str.ofString "__file__")) (Value.str (Str.ofString "__file__") 173) (Value.str (Str.ofString "/claim/cut.py") 172)), (DictEntry.mk (PyData.keyHash P (Str.ofString "__cached__")) (Value.str (Str.ofString "__cached__") 174) Value.none), (DictEntry.mk (PyData.keyHash P (Str.ofString "_wall")) (Value.str (Str.ofString "_wall") 193) (Value.ref 21)), (DictEntry.mk (PyData.keyHash P (Str.ofString "MillError")) (Value.str (Str.ofString "MillError") 224) (Value.ref 38)), (DictEntry.mk (PyData.keyHash P (Str.ofString "NumberFault")) (Value.str (Str.ofString "NumberFault") 240) (Value.ref 51)), (DictEntry.mk (PyData.keyHash P (Str.ofString "SheetFault")) (Value.str (Str.ofString "SheetFault") 256) (Value.ref 63)), (DictEntry.mk (PyData.keyHash P (Str.ofString "ZERO")) (Value.str (Str.ofString "ZERO") 261) (Value.ref 66)), (DictEntry.mk (PyData.keyHash P (Str.ofString "DIGITS")) (Value.str (Str.ofString "DIGITS") 263) (Value.str (Str.ofString "0123456789") 262)), (DictEntry.mk (PyData.keyHash P (Str.ofString "MOST_EXPONENT")) (Value.str (Str.ofString "MOST_EXPONENT") 265) (Value.int 300 264)), (DictEntry.mk (PyData.keyHash P (Str.ofString "MOST_FIGURES")) (Value.str (Str.ofString "MOST_FIGURES") 267) (Value.int 60 266)), (DictEntry.mk (PyData.keyHash P (Str.ofString "MOST_VALUE")) (Value.str (Str.ofString "MOST_VALUE") 271) (Value.int 1000000000000000000000000000000000000000000000000000000000000 270)), (DictEntry.mk (PyData.keyHash P (Str.ofString "common_divisor")) (Value.str (Str.ofString "common_divisor") 281) (Value.ref 73)), (DictEntry.mk (PyData.keyHash P (Str.ofString "fraction")) (Value.str (Str.ofString "fraction") 291) (Value.ref 81)), (DictEntry.mk (PyData.keyHash P (Str.ofString "times")) (Value.str (Str.ofString "times") 299) (Value.ref 88)), (DictEntry.mk (PyData.keyHash P (Str.ofString "divided")) (Value.str (Str.ofString "divided") 307) (Value.ref 95)), (DictEntry.mk (PyData.keyHash P (Str.ofString "sign_of")) (Value.str (Str.ofString "sign_of") 314) (Value.ref 102)), (DictEntry.mk (PyData.keyHash P (Str.ofString "compare")) (Value.str (Str.ofString "compare") 322) (Value.ref 109)), (DictEntry.mk (PyData.keyHash P (Str.ofString "rounded")) (Value.str (Str.ofString "rounded") 329) (Value.ref 116)), (DictEntry.mk (PyData.keyHash P (Str.ofString "NumberText")) (Value.str (Str.ofString "NumberText") 383) (Value.ref 154)), (DictEntry.mk (PyData.keyHash P (Str.ofString "whole_of")) (Value.str (Str.ofString "whole_of") 392) (Value.ref 165)), (DictEntry.mk (PyData.keyHash P (Str.ofString "read_exponent")) (Value.str (Str.ofString "read_exponent") 401) (Value.ref 172))]) 28) (List.toArray []))
noncomputable def hd.o_163 (P : Params) : Obj := (Obj.mk Value.none none (Data.fields (List.toArray ((Value.int 1 0) :: (Value.int 0 0) :: (Value.ref 20) :: (Value.int 5 0) :: (Value.int 0 0) :: (Value.ref 27) :: (Value.int 9 0) :: (Value.int 0 0) :: (Value.ref 47) :: (Value.int 11 0) :: (Value.int 0 0) :: (Value.ref 59) :: (Value.int 19 0) :: (Value.int 0 0) :: (Value.ref 72) :: (Value.int 24 0) :: (Value.int 0 0) :: (Value.ref 80) :: (Value.int 31 0) :: (Value.int 0 0) :: (Value.ref 87) :: (Value.int 33 0) :: (Value.int 0 0) :: (Value.ref 94) :: (Value.int 37 0) :: (Value.int 0 0) :: (Value.ref 101) :: (Value.int 43 0) :: (Value.int 0 0) :: (Value.ref 108) :: (Value.int 45 0) :: (Value.int 0 0) :: (Value.ref 115) :: (Value.int 47 0) :: (Value.int 0 0) :: (Value.ref 122) :: (Value.int 67 0) :: (Value.int 0 0) :: (Value.ref 164) :: (Value.int 72 0) :: (Value.int 0 0) :: (Value.ref 171) :: []))) (List.toArray []))
noncomputable def hd.o_164 (P : Params) : Obj := (Obj.mk (Value.type "tuple") none (Data.seq (List.toArray []) 0) (List.toArray []))
noncomputable def hd.o_165 (P : Params) : Obj := (Obj.mk (Value.type "builtin_function_or_method") none (Data.fields (List.toArray [(Value.builtin "type.__prepare__"), (Value.type "type")])) (List.toArray []))
noncomputable def hd.o_166 (P : Params) : Obj := (Obj.mk (Value.type "dict") none (Data.dict (List.toArray [(DictEntry.mk (PyData.keyHash P (Str.ofString "__module__")) (Value.str (Str.ofString "__module__") 337) (Value.str (Str.ofString "outlinemill.exact") 257)), (DictEntry.mk (PyData.keyHash P (Str.ofString "__qualname__")) (Value.str (Str.ofString "__qualname__") 339) (Value.str (Str.ofString "NumberText") 338)), (DictEntry.mk (PyData.keyHash P (Str.ofString "__firstlineno__")) (Value.str (Str.ofString "__firstlineno__") 341) (Value.int 47 340)), (DictEntry.mk (PyData.keyHash P (Str.ofString "__init__")) (Value.str (Str.ofString "__init__") 349) (Value.ref 130)), (DictEntry.mk (PyData.keyHash P (Str.ofString "is_one_of")) (Value.str (Str.ofString "is_one_of") 357) (Value.ref 137)), (DictEntry.mk (PyData.keyHash P (Str.ofString "skip")) (Value.str (Str.ofString "skip") 365) (Value.ref 144)), (DictEntry.mk (PyData.keyHash P (Str.ofString "digits")) (Value.str (Str.ofString "digits") 373) (Value.ref 151)), (DictEntry.mk (PyData.keyHash P (Str.ofString "__static_attributes__")) (Value.str (Str.ofString "__static_attributes__") 376) (Value.ref 152))]) 8) (List.toArray []))
noncomputable def hd.o_167 (P : Params) : Obj := (Obj.mk (Value.type "tuple") none (Data.seq (List.toArray []) 0) (List.toArray []))
noncomputable def hd.o_168 (P : Params) : Obj := (Obj.mk Value.none none (Data.fields (List.toArray [(Value.int 49 0), (Value.int 4 0), (Value.ref 129), (Value.int 53 0), (Value.int 4 0), (Value.ref 136), (Value.int 56 0), (Value.int 4 0), (Value.ref 143), (Value.int 62 0), (Value.int 4 0), (Value.ref 150)])) (List.toArray []))
noncomputable def hd.o_169 (P : Params) : Obj := (Obj.mk (Value.type "code") none (Data.fields (List.toArray [(Value.str (Str.ofString "NumberText") 332), (Value.str (Str.ofString "NumberText") 333), (Value.str (Str.ofString "/claim/cut.py") 334), (Value.int 47 0), (Value.int 0 0), (Value.int 0 0), (Value.int 0 0), (Value.int 0 0), (Value.ref 120), (Value.bool Bool.false), (Value.int 181 0), (Value.ref 121), Value.none, Value.none, Value.none, Value.none, (Value.int 335 0), (Value.int 47 0), (Value.str (Str.ofString "/claim/cut.py") 336)])) (List.toArray []))
noncomputable def hd.o_170 (P : Params) : Obj := (Obj.mk (Value.type "frame") none Data.plain (List.toArray [(Option.some (Value.ref 122)), (Option.some (Value.ref 3)), (Option.some (Value.ref 119)), none, (Option.some (Value.str (Str.ofString "outlinemill.exact") 257)), none, (Option.some (Value.ref 0))]))
noncomputable def hd.o_171 (P : Params) : Obj := (Obj.mk (Value.type "tuple") none (Data.seq (List.toArray []) 0) (List.toArray []))
noncomputable def hd.o_172 (P : Params) : Obj := (Obj.mk Value.none none (Data.fields (List.toArray [])) (List.toArray []))
noncomputable def hd.o_173 (P : Params) : Obj := (Obj.mk (Value.type "tuple") none (Data.seq (List.toArray [(Value.str (Str.ofString "self") 345), (Value.str (Str.ofString "text") 346)]) 0) (List.toArray []))
noncomputable def hd.o_174 (P : Params) : Obj := (Obj.mk (Value.type "tuple") none (Data.seq (List.toArray []) 0) (List.toArray []))
noncomputable def hd.o_175 (P : Params) : Obj := (Obj.mk Value.none none (Data.func (FuncData.mk (Str.ofString "__init__") (Str.ofString "NumberText.__init__") (fnA (clM (st 18) 0)) (FuncBody.stmts (fnB (clM (st 18) 0))) (fnS (clM (st 18) 0)) 0 [] Value.none Value.none Value.none Value.none none Value.none Value.none 0)) (List.toArray []))
noncomputable def hd.o_176 (P : Params) : Obj := (Obj.mk (Value.type "code") none (Data.fields (List.toArray [(Value.str (Str.ofString "__init__") 342), (Value.str (Str.ofString "NumberText.__init__") 343), (Value.str (Str.ofString "/claim/cut.py") 344), (Value.int 49 0), (Value.int 2 0), (Value.int 0 0), (Value.int 0 0), (Value.int 3 0), (Value.ref 124), (Value.bool Bool.true), (Value.int 181 0), (Value.ref 125), Value.none, (Value.ref 126), (Value.ref 127), (Value.ref 128), (Value.int 347 0), (Value.int 49 0), (Value.str (Str.ofString "/claim/cut.py") 348)])) (List.toArray []))
noncomputable def hd.o_177 (P : Params) : Obj := (Obj.mk (Value.type "function") none (Data.func (FuncData.mk (Str.ofString "__init__") (Str.ofString "NumberText.__init__") (fnA (clM (st 18) 0)) (FuncBody.stmts (fnB (clM (st 18) 0))) (fnS (clM (st 18) 0)) 3 [] Value.none Value.none Value.none (Value.str (Str.ofString "outlinemill.exact") 257) none (Value.ref 129) Value.none 0)) (List.toArray []))
noncomputable def hd.o_178 (P : Params) : Obj := (Obj.mk (Value.type "tuple") none (Data.seq (List.toArray []) 0) (List.toArray []))
noncomputable def hd.o_179 (P : Params) : Obj := (Obj.mk Value.none none (Data.fields (List.toArray [])) (List.toArray []))
noncomputable def hd.o_180 (P : Params) : Obj := (Obj.mk (Value.type "tuple") none (Data.seq (List.toArray [(Value.str (Str.ofString "self") 353), (Value.str (Str.ofString "signs") 354)]) 0) (List.toArray []))
noncomputable def hd.o_181 (P : Params) : Obj := (Obj.mk (Value.type "tuple") none (Data.seq (List.toArray []) 0) (List.toArray []))
noncomputable def hd.o_182 (P : Params) : Obj := (Obj.mk Value.none none (Data.func (FuncData.mk (Str.ofString "is_one_of") (Str.ofString "NumberText.is_one_of") (fnA (clM (st 18) 1)) (FuncBody.stmts (fnB (clM (st 18) 1))) (fnS (clM (st 18) 1)) 0 [] Value.none Value.none Value.none Value.none none Value.none Value.none 0)) (List.toArray []))
noncomputable def hd.o_183 (P : Params) : Obj := (Obj.mk (Value.type "code") none (Data.fields (List.toArray [(Value.str (Str.ofString "is_one_of") 350), (Value.str (Str.ofString "NumberText.is_one_of") 351), (Value.str (Str.ofString "/claim/cut.py") 352), (Value.int 53 0), (Value.int 2 0), (Value.int 0 0), (Value.int 0 0), (Value.int 3 0), (Value.ref 131), (Value.bool Bool.true), (Value.int 181 0), (Value.ref 132), Value.none, (Value.ref 133), (Value.ref 134), (Value.ref 135), (Value.int 355 0), (Value.int 53 0), (Value.str (Str.ofString "/claim/cut.py") 356)])) (List.toArray []))
noncomputable def hd.o_184 (P : Params) : Obj := (Obj.mk (Value.type "function") none (Data.func (FuncData.mk (Str.ofString "is_one_of") (Str.ofString "NumberText.is_one_of") (fnA (clM (st 18) 1)) (FuncBody.stmts (fnB (clM (st 18) 1))) (fnS (clM (st 18) 1)) 3 [] Value.none Value.none Value.none (Value.str (Str.ofString "outlinemill.exact") 257) none (Value.ref 136) Value.none 0)) (List.toArray []))
noncomputable def hd.o_185 (P : Params) : Obj := (Obj.mk (Value.type "tuple") none (Data.seq (List.toArray []) 0) (List.toArray []))
noncomputable def hd.o_186 (P : Params) : Obj := (Obj.mk Value.none none (Data.fields (List.toArray [])) (List.toArray []))
noncomputable def hd.o_187 (P : Params) : Obj := (Obj.mk (Value.type "tuple") none (Data.seq (List.toArray [(Value.str (Str.ofString "self") 361), (Value.str (Str.ofString "signs") 362)]) 0) (List.toArray []))
noncomputable def hd.o_188 (P : Params) : Obj := (Obj.mk (Value.type "tuple") none (Data.seq (List.toArray []) 0) (List.toArray []))
noncomputable def hd.o_189 (P : Params) : Obj := (Obj.mk Value.none none (Data.func (FuncData.mk (Str.ofString "skip") (Str.ofString "NumberText.skip") (fnA (clM (st 18) 2)) (FuncBody.stmts (fnB (clM (st 18) 2))) (fnS (clM (st 18) 2)) 0 [] Value.none Value.none Value.none Value.none none Value.none Value.none 0)) (List.toArray []))
noncomputable def hd.o_190 (P : Params) : Obj := (Obj.mk (Value.type "code") none (Data.fields (List.toArray [(Value.str (Str.ofString "skip") 358), (Value.str (Str.ofString "NumberText.skip") 359), (Value.str (Str.ofString "/claim/cut.py") 360), (Value.int 56 0), (Value.int 2 0), (Value.int 0 0), (Value.int 0 0), (Value.int 3 0), (Value.ref 138), (Value.bool Bool.true), (Value.int 181 0), (Value.ref 139), Value.none, (Value.ref 140), (Value.ref 141), (Value.ref 142), (Value.int 363 0), (Value.int 56 0), (Value.str (Str.ofString "/claim/cut.py") 364)])) (List.toArray []))
noncomputable def hd.o_191 (P : Params) : Obj := (Obj.mk (Value.type "function") none (Data.func (FuncData.mk (Str.ofString "skip") (Str.ofString "NumberText.skip") (fnA (clM (st 18) 2)) (FuncBody.stmts (fnB (clM (st 18) 2))) (fnS (clM (st 18) 2)) 3 [] Value.none Value.none Value.none (Value.str (Str.ofString "outlinemill.exact") 257) none (Value.ref 143) Value.none 0)) (List.toArray []))
noncomputable def hd.o_192 (P : Params) : Obj := (Obj.mk (Value.type "tuple") none (Data.seq (List.toArray []) 0) (List.toArray []))
noncomputable def hd.o_193 (P : Params) : Obj := (Obj.mk Value.none none (Data.fields (List.toArray [])) (List.toArray []))
noncomputable def hd.o_194 (P : Params) : Obj := (Obj.mk (Value.type "tuple") none (Data.seq (List.toArray [(Value.str (Str.ofString "self") 369), (Value.str (Str.ofString "begin") 370)]) 0) (List.toArray []))
noncomputable def hd.o_195 (P : Params) : Obj := (Obj.mk (Value.type "tuple") none (Data.seq (List.toArray []) 0) (List.toArray []))
noncomputable def hd.o_196 (P : Params) : Obj := (Obj.mk Value.none none (Data.func (FuncData.mk (Str.ofString "digits") (Str.ofString "NumberText.digits") (fnA (clM (st 18) 3)) (FuncBody.stmts (fnB (clM (st 18) 3))) (fnS (clM (st 18) 3)) 0 [] Value.none Value.none Value.none Value.none none Value.none Value.none 0)) (List.toArray []))
noncomputable def hd.o_197 (P : Params) : Obj := (Obj.mk (Value.type "code") none (Data.fields (List.toArray [(Value.str (Str.ofString "digits") 366), (Value.str (Str.ofString "NumberText.digits") 367), (Value.str (Str.ofString "/claim/cut.py") 368), (Value.int 62 0), (Value.int 1 0), (Value.int 0 0), (Value.int 0 0), (Value.int 3 0), (Value.ref 145), (Value.bool Bool.true), (Value.int 181 0), (Value.ref 146), Value.none, (Value.ref 147), (Value.ref 148), (Value.ref 149), (Value.int 371 0), (Value.int 62 0), (Value.str (Str.ofString "/claim/cut.py") 372)])) (List.toArray []))
noncomputable def hd.o_198 (P : Params) : Obj := (Obj.mk (Value.type "function") none (Data.func (FuncData.mk (Str.ofString "digits") (Str.ofString "NumberText.digits") (fnA (clM (st 18) 3)) (FuncBody.stmts (fnB (clM (st 18) 3))) (fnS (clM (st 18) 3)) 3 [] Value.none Value.none Value.none (Value.str (Str.ofString "outlinemill.exact") 257) none (Value.ref 150) Value.none 0)) (List.toArray []))
noncomputable def hd.o_199 (P : Params) : Obj := (Obj.mk (Value.type "tuple") none (Data.seq (List.toArray [(Value.str (Str.ofString "at") 374), (Value.str (Str.ofString "text") 375)]) 0) (List.toArray []))
noncomputable def hd.o_200 (P : Params) : Obj := (Obj.mk (Value.type "dict") none (Data.dict (List.toArray [(DictEntry.mk (PyData.keyHash P (Str.ofString "__module__")) (Value.str (Str.ofString "__module__") 337) (Value.str (Str.ofString "outlinemill.exact") 257)), (DictEntry.mk (PyData.keyHash P (Str.ofString "__firstlineno__")) (Value.str (Str.ofString "__firstlineno__") 341) (Value.int 47 340)), (DictEntry.mk (PyData.keyHash P (Str.ofString "__init__")) (Value.str (Str.ofString "__init__") 349) (Value.ref 130)), (DictEntry.mk (PyData.keyHash P (Str.ofString "is_one_of")) (Value.str (Str.ofString "is_one_of") 357) (Value.ref 137)), (DictEntry.mk (PyData.keyHash P (Str.ofString "skip")) (Value.str (Str.ofString "skip") 365) (Value.ref 144)), (DictEntry.mk (PyData.keyHash P (Str.ofString "digits")) (Value.str (Str.ofString "digits") 373) (Value.ref 151)), (DictEntry.mk (PyData.keyHash P (Str.ofString "__static_attributes__")) (Value.str (Str.ofString "__static_attributes__") 376) (Value.ref 152)), (DictEntry.mk (PyData.keyHash P (Str.ofString "__dict__")) (Value.str (Str.ofString "__dict__") 378) (Value.ref 155)), (DictEntry.mk (PyData.keyHash P (Str.ofString "__weakref__")) (Value.str (Str.ofString "__weakref__") 380) (Value.ref 156)), (DictEntry.mk (PyData.keyHash P (Str.ofString "__doc__")) (Value.str (Str.ofString "__doc__") 381) Value.none)]) 4) (List.toArray []))
noncomputable def hd.o_201 (P : Params) : Obj := (Obj.mk (Value.type "type") none (Data.cls (ClassData.mk (Str.ofString "NumberText") [(Value.type "object")] [(Value.ref 154), (Value.type "object")] 153 (Str.ofString "NumberText") Bool.true [] [] Bool.false none Bool.false)) (List.toArray [none, none, (Option.some (Value.str (Str.ofString "NumberText") 330)), (Option.some (Value.str (Str.ofString "NumberText") 338)), (Option.some (Value.builtin "object.__new__")), (Option.some (Value.bool Bool.true))]))
noncomputable def hd.o_202 (P : Params) : Obj := (Obj.mk (Value.type "getset_descriptor") none (Data.fields (List.toArray [(Value.str (Str.ofString "__dict__") 377), (Value.ref 154), (Value.builtin "function.__dict__"), (Value.builtin "function.__dict__#set")])) (List.toArray []))
noncomputable def hd.o_203 (P : Params) : Obj := (Obj.mk (Value.type "getset_descriptor") none (Data.fields (List.toArray [(Value.str (Str.ofString "__weakref__") 379), (Value.ref 154), (Value.builtin "ExceptionGroup.__weakref__"), Value.none])) (List.toArray []))
noncomputable def hd.o_204 (P : Params) : Obj := (Obj.mk (Value.type "super") none (Data.fields (List.toArray [(Value.ref 154), (Value.ref 154), (Value.ref 154)])) (List.toArray []))
noncomputable def hd.o_205 (P : Params) : Obj := (Obj.mk (Value.type "builtin_function_or_method") none (Data.fields (List.toArray [(Value.builtin "object.__init_subclass__"), (Value.ref 154)])) (List.toArray []))
noncomputable def hd.o_206 (P : Params) : Obj := (Obj.mk (Value.type "tuple") none (Data.seq (List.toArray []) 0) (List.toArray []))
noncomputable def hd.o_207 (P : Params) : Obj := (Obj.mk Value.none none (Data.fields (List.toArray [])) (List.toArray []))
noncomputable def hd.o_208 (P : Params) : Obj := (Obj.mk (Value.type "tuple") none (Data.seq (List.toArray [(Value.str (Str.ofString "digits") 387), (Value.str (Str.ofString "number") 388), (Value.str (Str.ofString "digit") 389)]) 0) (List.toArray []))
noncomputable def hd.o_209 (P : Params) : Obj := (Obj.mk (Value.type "tuple") none (Data.seq (List.toArray []) 0) (List.toArray []))
noncomputable def hd.o_210 (P : Params) : Obj := (Obj.mk Value.none none (Data.func (FuncData.mk (Str.ofString "whole_of") (Str.ofString "whole_of") (fnA (st 19)) (FuncBody.stmts (fnB (st 19))) (fnS (st 19)) 0 [] Value.none Value.none Value.none Value.none none Value.none Value.none 0)) (List.toArray []))
noncomputable def hd.o_211 (P : Params) : Obj := (Obj.mk (Value.type "code") none (Data.fields (List.toArray [(Value.str (Str.ofString "whole_of") 384), (Value.str (Str.ofString "whole_of") 385), (Value.str (Str.ofString "/claim/cut.py") 386), (Value.int 67 0), (Value.int 1 0), (Value.int 0 0), (Value.int 0 0), (Value.int 3 0), (Value.ref 159), (Value.bool Bool.true), (Value.int 181 0), (Value.ref 160), Value.none, (Value.ref 161), (Value.ref 162), (Value.ref 163), (Value.int 390 0), (Value.int 67 0), (Value.str (Str.ofString "/claim/cut.py") 391)])) (List.toArray []))
noncomputable def hd.o_212 (P : Params) : Obj := (Obj.mk (Value.type "function") none (Data.func (FuncData.mk (Str.ofString "whole_of") (Str.ofString "whole_of") (fnA (st 19)) (FuncBody.stmts (fnB (st 19))) (fnS (st 19)) 3 [] Value.none Value.none Value.none (Value.str (Str.ofString "outlinemill.exact") 257) none (Value.ref 164) Value.none 0)) (List.toArray []))
noncomputable def hd.o_213 (P : Params) : Obj := (Obj.mk (Value.type "tuple") none (Data.seq (List.toArray []) 0) (List.toArray []))
noncomputable def hd.o_214 (P : Params) : Obj := (Obj.mk Value.none none (Data.fields (List.toArray [])) (List.toArray []))
noncomputable def hd.o_215 (P : Params) : Obj := (Obj.mk (Value.type "tuple") none (Data.seq (List.toArray [(Value.str (Str.ofString "reader") 396), (Value.str (Str.ofString "sign") 397), (Value.str (Str.ofString "digits") 398)]) 0) (List.toArray []))
noncomputable def hd.o_216 (P : Params) : Obj := (Obj.mk (Value.type "tuple") none (Data.seq (List.toArray []) 0) (List.toArray []))
noncomputable def hd.o_217 (P : Params) : Obj := (Obj.mk Value.none none (Data.func (FuncData.mk (Str.ofString "read_exponent") (Str.ofString "read_exponent") (fnA (st 20)) (FuncBody.stmts (fnB (st 20))) (fnS (st 20)) 0 [] Value.none Value.none Value.none Value.none none Value.none Value.none 0)) (List.toArray []))
noncomputable def hd.o_218 (P : Params) : Obj := (Obj.mk (Value.type "code") none (Data.fields (List.toArray [(Value.str (Str.ofString "read_exponent") 393), (Value.str (Str.ofString "read_exponent") 394), (Value.str (Str.ofString "/claim/cut.py") 395), (Value.int 72 0), (Value.int 1 0), (Value.int 0 0), (Value.int 0 0), (Value.int 3 0), (Value.ref 166), (Value.bool Bool.true), (Value.int 181 0), (Value.ref 167), Value.none, (Value.ref 168), (Value.ref 169), (Value.ref 170), (Value.int 399 0), (Value.int 72 0), (Value.str (Str.ofString "/claim/cut.py") 400)])) (List.toArray []))
noncomputable def hd.o_219 (P : Params) : Obj := (Obj.mk (Value.type "function") none (Data.func (FuncData.mk (Str.ofString "read_exponent") (Str.ofString "read_exponent") (fnA (st 20)) (FuncBody.stmts (fnB (st 20))) (fnS (st 20)) 3 [] Value.none Value.none Value.none (Value.str (Str.ofString "outlinemill.exact") 257) none (Value.ref 171) Value.none 0)) (List.toArray []))
noncomputable def hd.o_220 (P : Params) : Obj := (Obj.mk (Value.type "dict") none (Data.dict (List.toArray ((DictEntry.mk (PyData.keyHash P (Str.ofString "__name__")) (Value.str (Str.ofString "__name__") 165) (Value.str (Str.ofString "outlinemill.styles") 416)) :: (DictEntry.mk (PyData.keyHash P (Str.ofString "__doc__")) (Value.str (Str.ofString "__doc__") 166) Value.none) :: (DictEntry.mk (PyData.keyHash P (Str.ofString "__package__")) (Value.str (Str.ofString "__package__") 167) Value.none) :: (DictEntry.mk (PyData.keyHash P (Str.ofString "__loader__")) (Value.str (Str.ofString "__loader__") 168) (Value.builtin "__main__.__loader__#opaque")) :: (DictEntry.mk (PyData.keyHash P (Str.ofString "__spec__")) (Value.str (Str.ofString "__spec__") 169) Value.none) :: (DictEntry.mk (PyData.keyHash P (Str.ofString "__annotations__")) (Value.str (Str.ofString "__annotations__") 170) (Value.ref 6)) :: (DictEntry.mk (PyData.keyHash P (Str.ofString "__builtins__")) (Value.str (Str.ofString "__builtins__") 171) (Value.ref 4)) :: (DictEntry.mk (PyData.keyHash P (Str.ofString "__file__")) (Value.str (Str.ofString "__file__") 173) (Value.str (Str.ofString "/claim/cut.py") 172)) :: (DictEntry.mk (PyData.keyHash P (Str.ofString "__cached__")) (Value.str (Str.ofString "__cached__") 174) Value.none) :: (DictEntry.mk (PyData.keyHash P (Str.ofString "_wall")) (Value.str (Str.ofString "_wall") 193) (Value.ref 21)) :: (DictEntry.mk (PyData.keyHash P (Str.ofString "MillError")) (Value.str (Str.ofString "MillError") 224) (Value.ref 38)) :: (DictEntry.mk (PyData.keyHash P (Str.ofString "NumberFault")) (Value.str (Str.ofString "NumberFault") 240) (Value.ref 51)) :: (DictEntry.mk (PyData.keyHash P (Str.ofString "SheetFault")) (Value.str (Str.ofString "SheetFault") 256) (Value.ref 63)) :: (DictEntry.mk (PyData.keyHash P (Str.ofString "ZERO")) (Value.str (Str.ofString "ZERO") 261) (Value.ref 66)) :: (DictEntry.mk (PyData.keyHash P (Str.ofString "DIGITS")) (Value.str (Str.ofString "DIGITS") 263) (Value.str (Str.ofString "0123456789") 262)) :: (DictEntry.mk (PyData.keyHash P (Str.ofString "MOST_EXPONENT")) (Value.str (Str.ofString "MOST_EXPONENT") 265) (Value.int 300 264)) :: (DictEntry.mk (PyData.keyHash P (Str.ofString "MOST_FIGURES")) (Value.str (Str.ofString "MOST_FIGURES") 267) (Value.int 60 266)) :: (DictEntry.mk (PyData.keyHash P (Str.ofString "MOST_VALUE")) (Value.str (Str.ofString "MOST_VALUE") 271) (Value.int 1000000000000000000000000000000000000000000000000000000000000 270)) :: (DictEntry.mk (PyData.keyHash P (Str.ofString "common_divisor")) (Value.str (Str.ofString "common_divisor") 281) (Value.ref 73)) :: (DictEntry.mk (PyData.keyHash P (Str.ofString "fraction")) (Value.str (Str.ofString "fraction") 291) (Value.ref 81)) :: (DictEntry.mk (PyData.keyHash P (Str.ofString "times")) (Value.str (Str.ofString "times") 299) (Value.ref 88)) :: (DictEntry.mk (PyData.keyHash P (Str.ofString "divided")) (Value.str (Str.ofString "divided") 307) (Value.ref 95)) :: (DictEntry.mk (PyData.keyHash P (Str.ofString "sign_of")) (Value.str (Str.ofString "sign_of") 314) (Value.ref 102)) :: (DictEntry.mk (PyData.keyHash P (Str.ofString "compare")) (Value.str (Str.ofString "compare") 322) (Value.ref 109)) :: (DictEntry.mk (PyData.keyHash P (Str.ofString "rounded")) (Value.str (Str.ofString "rounded") 329) (Value.ref 116)) :: (DictEntry.mk (PyData.keyHash P (Str.ofString "NumberText")) (Value.str (Str.ofString "NumberText") 383) (Value.ref 154)) :: (DictEntry.mk (PyData.keyHash P (Str.ofString "whole_of")) (Value.str (Str.ofString "whole_of") 392) (Value.ref 165)) :: (DictEntry.mk (PyData.keyHash P (Str.ofString "read_exponent")) (Value.str (Str.ofString "read_exponent") 401) (Value.ref 172)) :: (DictEntry.mk (PyData.keyHash P (Str.ofString "read_decimal")) (Value.str (Str.ofString "read_decimal") 415) (Value.ref 179)) :: (DictEntry.mk (PyData.keyHash P (Str.ofString "HUNDRED")) (Value.str (Str.ofString "HUNDRED") 420) (Value.ref 180)) :: (DictEntry.mk (PyData.keyHash P (Str.ofString "MOST_SIZE")) (Value.str (Str.ofString "MOST_SIZE") 424) (Value.int 100000000000000000000000000000000000000000000000000 423)) :: (DictEntry.mk (PyData.keyHash P (Str.ofString "handed_down")) (Value.str (Str.ofString "handed_down") 430) (Value.ref 187)) :: (DictEntry.mk (PyData.keyHash P (Str.ofString "not_handed_down")) (Value.str (Str.ofString "not_handed_down") 436) (Value.ref 194)) :: (DictEntry.mk (PyData.keyHash P (Str.ofString "unit_of")) (Value.str (Str.ofString "unit_of") 444) (Value.ref 201)) :: (DictEntry.mk (PyData.keyHash P (Str.ofString "length")) (Value.str (Str.ofString "length") 459) (Value.ref 210)) :: (DictEntry.mk (PyData.keyHash P (Str.ofString "length_styles")) (Value.str (Str.ofString "length_styles") 460) (Value.ref 210)) :: (DictEntry.mk (PyData.keyHash P (Str.ofString "bounded")) (Value.str (Str.ofString "bounded") 467) (Value.ref 217)) :: [])) 37) (List.toArray []))
noncomputable def hd.o_221 (P : Params) : Obj := (Obj.mk Value.none none (Data.fields (List.toArray ((Value.int 1 0) :: (Value.int 0 0) :: (Value.ref 20) :: (Value.int 5 0) :: (Value.int 0 0) :: (Value.ref 27) :: (Value.int 9 0) :: (Value.int 0 0) :: (Value.ref 47) :: (Value.int 11 0) :: (Value.int 0 0) :: (Value.ref 59) :: (Value.int 19 0) :: (Value.int 0 0) :: (Value.ref 72) :: (Value.int 24 0) :: (Value.int 0 0) :: (Value.ref 80) :: (Value.int 31 0) :: (Value.int 0 0) :: (Value.ref 87) :: (Value.int 33 0) :: (Value.int 0 0) :: (Value.ref 94) :: (Value.int 37 0) :: (Value.int 0 0) :: (Value.ref 101) :: (Value.int 43 0) :: (Value.int 0 0) :: (Value.ref 108) :: (Value.int 45 0) :: (Value.int 0 0) :: (Value.ref 115) :: (Value.int 47 0) :: (Value.int 0 0) :: (Value.ref 122) :: (Value.int 67 0) :: (Value.int 0 0) :: (Value.ref 164) :: (Value.int 72 0) :: (Value.int 0 0) :: (Value.ref 171) :: (Value.int 79 0) :: (Value.int 0 0) :: (Value.ref 178) :: (Value.int 98 0) :: (Value.int 0 0) :: (Value.ref 186) :: (Value.int 100 0) :: (Value.int 0 0) :: (Value.ref 193) :: (Value.int 102 0) :: (Value.int 0 0) :: (Value.ref 200) :: (Value.int 108 0) :: (Value.int 0 0) :: (Value.ref 209) :: (Value.int 121 0) :: (Value.int 0 0) :: (Value.ref 216) :: []))) (List.toArray []))
noncomputable def hd.o_222 (P : Params) : Obj := (Obj.mk (Value.type "tuple") none (Data.seq (List.toArray []) 0) (List.toArray []))
noncomputable def hd.o_223 (P : Params) : Obj := (Obj.mk Value.none none (Data.fields (List.toArray [])) (List.toArray []))
noncomputable def hd.o_224 (P : Params) : Obj := (Obj.mk (Value.type "tuple") none (Data.seq (List.toArray [(Value.str (Str.ofString "text") 405), (Value.str (Str.ofString "reader") 406), (Value.str (Str.ofString "sign") 407), (Value.str (Str.ofString "whole") 408), (Value.str (Str.ofString "parts") 409), (Value.str (Str.ofString "exponent") 410), (Value.str (Str.ofString "top") 411), (Value.str (Str.ofString "bottom") 412)]) 0) (List.toArray []))
noncomputable def hd.o_225 (P : Params) : Obj := (Obj.mk (Value.type "tuple") none (Data.seq (List.toArray []) 0) (List.toArray []))
noncomputable def hd.o_226 (P : Params) : Obj := (Obj.mk Value.none none (Data.func (FuncData.mk (Str.ofString "read_decimal") (Str.ofString "read_decimal") (fnA (st 21)) (FuncBody.stmts (fnB (st 21))) (fnS (st 21)) 0 [] Value.none Value.none Value.none Value.none none Value.none Value.none 0)) (List.toArray []))
noncomputable def hd.o_227 (P : Params) : Obj := (Obj.mk (Value.type "code") none (Data.fields (List.toArray [(Value.str (Str.ofString "read_decimal") 402), (Value.str (Str.ofString "read_decimal") 403), (Value.str (Str.ofString "/claim/cut.py") 404), (Value.int 79 0), (Value.int 1 0), (Value.int 0 0), (Value.int 0 0), (Value.int 3 0), (Value.ref 173), (Value.bool Bool.true), (Value.int 181 0), (Value.ref 174), Value.none, (Value.ref 175), (Value.ref 176), (Value.ref 177), (Value.int 413 0), (Value.int 79 0), (Value.str (Str.ofString "/claim/cut.py") 414)])) (List.toArray []))
noncomputable def hd.o_228 (P : Params) : Obj := (Obj.mk (Value.type "function") none (Data.func (FuncData.mk (Str.ofString "read_decimal") (Str.ofString "read_decimal") (fnA (st 21)) (FuncBody.stmts (fnB (st 21))) (fnS (st 21)) 3 [] Value.none Value.none Value.none (Value.str (Str.ofString "outlinemill.exact") 257) none (Value.ref 178) Value.none 0)) (List.toArray []))
noncomputable def hd.o_229 (P : Params) : Obj := (Obj.mk (Value.type "tuple") none (Data.seq (List.toArray [(Value.int 100 418), (Value.int 1 419)]) 0) (List.toArray []))
noncomputable def hd.o_230 (P : Params) : Obj := (Obj.mk (Value.type "tuple") none (Data.seq (List.toArray []) 0) (List.toArray []))
noncomputable def hd.o_231 (P : Params) : Obj := (Obj.mk Value.none none (Data.fields (List.toArray [])) (List.toArray []))
noncomputable def hd.o_232 (P : Params) : Obj := (Obj.mk (Value.type "tuple") none (Data.seq (List.toArray []) 0) (List.toArray []))
noncomputable def hd.o_233 (P : Params) : Obj := (Obj.mk (Value.type "tuple") none (Data.seq (List.toArray []) 0) (List.toArray []))
noncomputable def hd.o_234 (P : Params) : Obj := (Obj.mk Value.none none (Data.func (FuncData.mk (Str.ofString "handed_down") (Str.ofString "handed_down") (fnA (st 25)) (FuncBody.stmts (fnB (st 25))) (fnS (st 25)) 0 [] Value.none Value.none Value.none Value.none none Value.none Value.none 0)) (List.toArray []))
noncomputable def hd.o_235 (P : Params) : Obj := (Obj.mk (Value.type "code") none (Data.fields (List.toArray [(Value.str (Str.ofString "handed_down") 425), (Value.str (Str.ofString "handed_down") 426), (Value.str (Str.ofString "/claim/cut.py") 427), (Value.int 98 0), (Value.int 0 0), (Value.int 0 0), (Value.int 0 0), (Value.int 3 0), (Value.ref 181), (Value.bool Bool.true), (Value.int 181 0), (Value.ref 182), Value.none, (Value.ref 183), (Value.ref 184), (Value.ref 185), (Value.int 428 0), (Value.int 98 0), (Value.str (Str.ofString "/claim/cut.py") 429)])) (List.toArray []))
noncomputable def hd.o_236 (P : Params) : Obj := (Obj.mk (Value.type "function") none (Data.func (FuncData.mk (Str.ofString "handed_down") (Str.ofString "handed_down") (fnA (st 25)) (FuncBody.stmts (fnB (st 25))) (fnS (st 25)) 3 [] Value.none Value.none Value.none (Value.str (Str.ofString "outlinemill.styles") 416) none (Value.ref 186) Value.none 0)) (List.toArray []))
noncomputable def hd.o_237 (P : Params) : Obj := (Obj.mk (Value.type "tuple") none (Data.seq (List.toArray []) 0) (List.toArray []))
noncomputable def hd.o_238 (P : Params) : Obj := (Obj.mk Value.none none (Data.fields (List.toArray [])) (List.toArray []))
noncomputable def hd.o_239 (P : Params) : Obj := (Obj.mk (Value.type "tuple") none (Data.seq (List.toArray []) 0) (List.toArray []))
noncomputable def hd.o_240 (P : Params) : Obj := (Obj.mk (Value.type "tuple") none (Data.seq (List.toArray []) 0) (List.toArray []))
noncomputable def hd.o_241 (P : Params) : Obj := (Obj.mk Value.none none (Data.func (FuncData.mk (Str.ofString "not_handed_down") (Str.ofString "not_handed_down") (fnA (st 25)) (FuncBody.stmts (fnB (st 26))) (fnS (st 25)) 0 [] Value.none Value.none Value.none Value.none none Value.none Value.none 0)) (List.toArray []))
noncomputable def hd.o_242 (P : Params) : Obj := (Obj.mk (Value.type "code") none (Data.fields (List.toArray [(Value.str (Str.ofString "not_handed_down") 431), (Value.str (Str.ofString "not_handed_down") 432), (Value.str (Str.ofString "/claim/cut.py") 433), (Value.int 100 0), (Value.int 0 0), (Value.int 0 0), (Value.int 0 0), (Value.int 3 0), (Value.ref 188), (Value.bool Bool.true), (Value.int 181 0), (Value.ref 189), Value.none, (Value.ref 190), (Value.ref 191), (Value.ref 192), (Value.int 434 0), (Value.int 100 0), (Value.str (Str.ofString "/claim/cut.py") 435)])) (List.toArray []))
noncomputable def hd.o_243 (P : Params) : Obj := (Obj.mk (Value.type "function") none (Data.func (FuncData.mk (Str.ofString "not_handed_down") (Str.ofString "not_handed_down") (fnA (st 25)) (FuncBody.stmts (fnB (st 26))) (fnS (st 25)) 3 [] Value.none Value.none Value.none (Value.str (Str.ofString "outlinemill.styles") 416) none (Value.ref 193) Value.none 0)) (List.toArray []))
noncomputable def hd.o_244 (P : Params) : Obj := (Obj.mk (Value.type "tuple") none (Data.seq (List.toArray []) 0) (List.toArray []))
noncomputable def hd.o_245 (P : Params) : Obj := (Obj.mk Value.none none (Data.fields (List.toArray [])) (List.toArray []))
noncomputable def hd.o_246 (P : Params) : Obj := (Obj.mk (Value.type "tuple") none (Data.seq (List.toArray [(Value.str (Str.ofString "text") 440), (Value.str (Str.ofString "unit") 441)]) 0) (List.toArray []))
noncomputable def hd.o_247 (P : Params) : Obj := (Obj.mk (Value.type "tuple") none (Data.seq (List.toArray []) 0) (List.toArray []))
noncomputable def hd.o_248 (P : Params) : Obj := (Obj.mk Value.none none (Data.func (FuncData.mk (Str.ofString "unit_of") (Str.ofString "unit_of") (fnA (st 27)) (FuncBody.stmts (fnB (st 27))) (fnS (st 27)) 0 [] Value.none Value.none Value.none Value.none none Value.none Value.none 0)) (List.toArray []))
noncomputable def hd.o_249 (P : Params) : Obj := (Obj.mk (Value.type "code") none (Data.fields (List.toArray [(Value.str (Str.ofString "unit_of") 437), (Value.str (Str.ofString "unit_of") 438), (Value.str (Str.ofString "/claim/cut.py") 439), (Value.int 102 0), (Value.int 1 0), (Value.int 0 0), (Value.int 0 0), (Value.int 3 0), (Value.ref 195), (Value.bool Bool.true), (Value.int 181 0), (Value.ref 196), Value.none, (Value.ref 197), (Value.ref 198), (Value.ref 199), (Value.int 442 0), (Value.int 102 0), (Value.str (Str.ofString "/claim/cut.py") 443)])) (List.toArray []))
noncomputable def hd.o_250 (P : Params) : Obj := (Obj.mk (Value.type "function") none (Data.func (FuncData.mk (Str.ofString "unit_of") (Str.ofString "unit_of") (fnA (st 27)) (FuncBody.stmts (fnB (st 27))) (fnS (st 27)) 3 [] Value.none Value.none Value.none (Value.str (Str.ofString "outlinemill.styles") 416) none (Value.ref 200) Value.none 0)) (List.toArray []))
noncomputable def hd.o_251 (P : Params) : Obj := (Obj.mk (Value.type "tuple") none (Data.seq (List.toArray [(Value.int 16 445), (Value.int 1 446)]) 0) (List.toArray []))
noncomputable def hd.o_252 (P : Params) : Obj := (Obj.mk (Value.type "tuple") none (Data.seq (List.toArray [(Value.ref 202)]) 0) (List.toArray []))
noncomputable def hd.o_253 (P : Params) : Obj := (Obj.mk (Value.type "tuple") none (Data.seq (List.toArray []) 0) (List.toArray []))
noncomputable def hd.o_254 (P : Params) : Obj := (Obj.mk Value.none none (Data.fields (List.toArray [])) (List.toArray []))
noncomputable def hd.o_255 (P : Params) : Obj := (Obj.mk (Value.type "tuple") none (Data.seq (List.toArray [(Value.str (Str.ofString "text") 450), (Value.str (Str.ofString "whole") 451), (Value.str (Str.ofString "font_size") 452), (Value.str (Str.ofString "number") 453), (Value.str (Str.ofString "unit") 454), (Value.str (Str.ofString "told") 455), (Value.str (Str.ofString "sizes") 456)]) 0) (List.toArray []))
noncomputable def hd.o_256 (P : Params) : Obj := (Obj.mk (Value.type "tuple") none (Data.seq (List.toArray []) 0) (List.toArray []))
noncomputable def hd.o_257 (P : Params) : Obj := (Obj.mk Value.none none (Data.func (FuncData.mk (Str.ofString "length") (Str.ofString "length") (fnA (st 28)) (FuncBody.stmts (fnB (st 28))) (fnS (st 28)) 0 [] Value.none Value.none Value.none Value.none none Value.none Value.none 0)) (List.toArray []))
noncomputable def hd.o_258 (P : Params) : Obj := (Obj.mk (Value.type "code") none (Data.fields (List.toArray [(Value.str (Str.ofString "length") 447), (Value.str (Str.ofString "length") 448), (Value.str (Str.ofString "/claim/cut.py") 449), (Value.int 108 0), (Value.int 3 0), (Value.int 0 0), (Value.int 0 0), (Value.int 3 0), (Value.ref 204), (Value.bool Bool.true), (Value.int 181 0), (Value.ref 205), Value.none, (Value.ref 206), (Value.ref 207), (Value.ref 208), (Value.int 457 0), (Value.int 108 0), (Value.str (Str.ofString "/claim/cut.py") 458)])) (List.toArray []))
noncomputable def hd.o_259 (P : Params) : Obj := (Obj.mk (Value.type "function") none (Data.func (FuncData.mk (Str.ofString "length") (Str.ofString "length") (fnA (st 28)) (FuncBody.stmts (fnB (st 28))) (fnS (st 28)) 3 [] (Value.ref 203) Value.none Value.none (Value.str (Str.ofString "outlinemill.styles") 416) none (Value.ref 209) Value.none 0)) (List.toArray []))
noncomputable def hd.o_260 (P : Params) : Obj := (Obj.mk (Value.type "tuple") none (Data.seq (List.toArray []) 0) (List.toArray []))
noncomputable def hd.o_261 (P : Params) : Obj := (Obj.mk Value.none none (Data.fields (List.toArray [])) (List.toArray []))
noncomputable def hd.o_262 (P : Params) : Obj := (Obj.mk (Value.type "tuple") none (Data.seq (List.toArray [(Value.str (Str.ofString "number") 464)]) 0) (List.toArray []))
noncomputable def hd.o_263 (P : Params) : Obj := (Obj.mk (Value.type "tuple") none (Data.seq (List.toArray []) 0) (List.toArray []))
noncomputable def hd.o_264 (P : Params) : Obj := (Obj.mk Value.none none (Data.func (FuncData.mk (Str.ofString "bounded") (Str.ofString "bounded") (fnA (st 30)) (FuncBody.stmts (fnB (st 30))) (fnS (st 30)) 0 [] Value.none Value.none Value.none Value.none none Value.none Value.none 0)) (List.toArray []))
noncomputable def hd.o_265 (P : Params) : Obj := (Obj.mk (Value.type "code") none (Data.fields (List.toArray [(Value.str (Str.ofString "bounded") 461), (Value.str (Str.ofString "bounded") 462), (Value.str (Str.ofString "/claim/cut.py") 463), (Value.int 121 0), (Value.int 1 0), (Value.int 0 0), (Value.int 0 0), (Value.int 3 0), (Value.ref 211), (Value.bool Bool.true), (Value.int 181 0), (Value.ref 212), Value.none, (Value.ref 213), (Value.ref 214), (Value.ref 215), (Value.int 465 0), (Value.int 121 0), (Value.str (Str.ofString "/claim/cut.py") 466)])) (List.toArray []))
noncomputable def hd.o_266 (P : Params) : Obj := (Obj.mk (Value.type "function") none (Data.func (FuncData.mk (Str.ofString "bounded") (Str.ofString "bounded") (fnA (st 30)) (FuncBody.stmts (fnB (st 30))) (fnS (st 30)) 3 [] Value.none Value.none Value.none (Value.str (Str.ofString "outlinemill.styles") 416) none (Value.ref 216) Value.none 0)) (List.toArray []))
noncomputable def hd.o_267 (P : Params) : Obj := (Obj.mk (Value.type "dict") none (Data.dict (List.toArray ((DictEntry.mk (PyData.keyHash P (Str.ofString "__name__")) (Value.str (Str.ofString "__name__") 165) (Value.str (Str.ofString "outlinemill.styles") 416)) :: (DictEntry.mk (PyData.keyHash P (Str.ofString "__doc__")) (Value.str (Str.ofString "__doc__") 166) Value.none) :: (DictEntry.mk (PyData.keyHash P (Str.ofString "__package__")) (Value.str (Str.ofString "__package__") 167) Value.none) :: (DictEntry.mk (PyData.keyHash P (Str.ofString "__loader__")) (Value.str (Str.ofString "__loader__") 168) (Value.builtin "__main__.__loader__#opaque")) :: (DictEntry.mk (PyData.keyHash P (Str.ofString "__spec__")) (Value.str (Str.ofString "__spec__") 169) Value.none) :: (DictEntry.mk (PyData.keyHash P (Str.ofString "__annotations__")) (Value.str (Str.ofString "__annotations__") 170) (Value.ref 6)) :: (DictEntry.mk (PyData.keyHash P (Str.ofString "__builtins__")) (Value.str (Str.ofString "__builtins__") 171) (Value.ref 4)) :: (DictEntry.mk (PyData.keyHash P (Str.ofString "__file__")) (Value.str (Str.ofString "__file__") 173) (Value.str (Str.ofString "/claim/cut.py") 172)) :: (DictEntry.mk (PyData.keyHash P (Str.ofString "__cached__")) (Value.str (Str.ofString "__cached__") 174) Value.none) :: (DictEntry.mk (PyData.keyHash P (Str.ofString "_wall")) (Value.str (Str.ofString "_wall") 193) (Value.ref 21)) :: (DictEntry.mk (PyData.keyHash P (Str.ofString "MillError")) (Value.str (Str.ofString "MillError") 224) (Value.ref 38)) :: (DictEntry.mk (PyData.keyHash P (Str.ofString "NumberFault")) (Value.str (Str.ofString "NumberFault") 240) (Value.ref 51)) :: (DictEntry.mk (PyData.keyHash P (Str.ofString "SheetFault")) (Value.str (Str.ofString "SheetFault") 256) (Value.ref 63)) :: (DictEntry.mk (PyData.keyHash P (Str.ofString "ZERO")) (Value.str (Str.ofString "ZERO") 261) (Value.ref 66)) :: (DictEntry.mk (PyData.keyHash P (Str.ofString "DIGITS")) (Value.str (Str.ofString "DIGITS") 263) (Value.str (Str.ofString "0123456789") 262)) :: (DictEntry.mk (PyData.keyHash P (Str.ofString "MOST_EXPONENT")) (Value.str (Str.ofString "MOST_EXPONENT") 265) (Value.int 300 264)) :: (DictEntry.mk (PyData.keyHash P (Str.ofString "MOST_FIGURES")) (Value.str (Str.ofString "MOST_FIGURES") 267) (Value.int 60 266)) :: (DictEntry.mk (PyData.keyHash P (Str.ofString "MOST_VALUE")) (Value.str (Str.ofString "MOST_VALUE") 271) (Value.int 1000000000000000000000000000000000000000000000000000000000000 270)) :: (DictEntry.mk (PyData.keyHash P (Str.ofString "common_divisor")) (Value.str (Str.ofString "common_divisor") 281) (Value.ref 73)) :: (DictEntry.mk (PyData.keyHash P (Str.ofString "fraction")) (Value.str (Str.ofString "fraction") 291) (Value.ref 81)) :: (DictEntry.mk (PyData.keyHash P (Str.ofString "times")) (Value.str (Str.ofString "times") 299) (Value.ref 88)) :: (DictEntry.mk (PyData.keyHash P (Str.ofString "divided")) (Value.str (Str.ofString "divided") 307) (Value.ref 95)) :: (DictEntry.mk (PyData.keyHash P (Str.ofString "sign_of")) (Value.str (Str.ofString "sign_of") 314) (Value.ref 102)) :: (DictEntry.mk (PyData.keyHash P (Str.ofString "compare")) (Value.str (Str.ofString "compare") 322) (Value.ref 109)) :: (DictEntry.mk (PyData.keyHash P (Str.ofString "rounded")) (Value.str (Str.ofString "rounded") 329) (Value.ref 116)) :: (DictEntry.mk (PyData.keyHash P (Str.ofString "NumberText")) (Value.str (Str.ofString "NumberText") 383) (Value.ref 154)) :: (DictEntry.mk (PyData.keyHash P (Str.ofString "whole_of")) (Value.str (Str.ofString "whole_of") 392) (Value.ref 165)) :: (DictEntry.mk (PyData.keyHash P (Str.ofString "read_exponent")) (Value.str (Str.ofString "read_exponent") 401) (Value.ref 172)) :: (DictEntry.mk (PyData.keyHash P (Str.ofString "read_decimal")) (Value.str (Str.ofString "read_decimal") 415) (Value.ref 179)) :: (DictEntry.mk (PyData.keyHash P (Str.ofString "HUNDRED")) (Value.str (Str.ofString "HUNDRED") 420) (Value.ref 180)) :: (DictEntry.mk (PyData.keyHash P (Str.ofString "MOST_SIZE")) (Value.str (Str.ofString "MOST_SIZE") 424) (Value.int 100000000000000000000000000000000000000000000000000 423)) :: (DictEntry.mk (PyData.keyHash P (Str.ofString "handed_down")) (Value.str (Str.ofString "handed_down") 430) (Value.ref 187)) :: (DictEntry.mk (PyData.keyHash P (Str.ofString "not_handed_down")) (Value.str (Str.ofString "not_handed_down") 436) (Value.ref 194)) :: (DictEntry.mk (PyData.keyHash P (Str.ofString "unit_of")) (Value.str (Str.ofString "unit_of") 444) (Value.ref 201)) :: (DictEntry.mk (PyData.keyHash P (Str.ofString "length")) (Value.str (Str.ofString "length") 459) (Value.ref 210)) :: (DictEntry.mk (PyData.keyHash P (Str.ofString "length_styles")) (Value.str (Str.ofString "length_styles") 460) (Value.ref 210)) :: (DictEntry.mk (PyData.keyHash P (Str.ofString "bounded")) (Value.str (Str.ofString "bounded") 467) (Value.ref 217)) :: (DictEntry.mk (PyData.keyHash P (Str.ofString "Look")) (Value.str (Str.ofString "Look") 593) (Value.ref 317)) :: [])) 38) (List.toArray []))
noncomputable def hd.o_268 (P : Params) : Obj := (Obj.mk Value.none none (Data.fields (List.toArray ((Value.int 1 0) :: (Value.int 0 0) :: (Value.ref 20) :: (Value.int 5 0) :: (Value.int 0 0) :: (Value.ref 27) :: (Value.int 9 0) :: (Value.int 0 0) :: (Value.ref 47) :: (Value.int 11 0) :: (Value.int 0 0) :: (Value.ref 59) :: (Value.int 19 0) :: (Value.int 0 0) :: (Value.ref 72) :: (Value.int 24 0) :: (Value.int 0 0) :: (Value.ref 80) :: (Value.int 31 0) :: (Value.int 0 0) :: (Value.ref 87) :: (Value.int 33 0) :: (Value.int 0 0) :: (Value.ref 94) :: (Value.int 37 0) :: (Value.int 0 0) :: (Value.ref 101) :: (Value.int 43 0) :: (Value.int 0 0) :: (Value.ref 108) :: (Value.int 45 0) :: (Value.int 0 0) :: (Value.ref 115) :: (Value.int 47 0) :: (Value.int 0 0) :: (Value.ref 122) :: (Value.int 67 0) :: (Value.int 0 0) :: (Value.ref 164) :: (Value.int 72 0) :: (Value.int 0 0) :: (Value.ref 171) :: (Value.int 79 0) :: (Value.int 0 0) :: (Value.ref 178) :: (Value.int 98 0) :: (Value.int 0 0) :: (Value.ref 186) :: (Value.int 100 0) :: (Value.int 0 0) :: (Value.ref 193) :: (Value.int 102 0) :: (Value.int 0 0) :: (Value.ref 200) :: (Value.int 108 0) :: (Value.int 0 0) :: (Value.ref 209) :: (Value.int 121 0) :: (Value.int 0 0) :: (Value.ref 216) :: (Value.int 125 0) :: (Value.int 0 0) :: (Value.ref 223) :: []))) (List.toArray []))
noncomputable def hd.o_269 (P : Params) : Obj := (Obj.mk (Value.type "tuple") none (Data.seq (List.toArray []) 0) (List.toArray []))
noncomputable def hd.o_270 (P : Params) : Obj := (Obj.mk (Value.type "builtin_function_or_method") none (Data.fields (List.toArray [(Value.builtin "type.__prepare__"), (Value.type "type")])) (List.toArray []))
noncomputable def hd.o_271 (P : Params) : Obj := (Obj.mk (Value.type "dict") none (Data.dict (List.toArray [(DictEntry.mk (PyData.keyHash P (Str.ofString "__module__")) (Value.str (Str.ofString "__module__") 475) (Value.str (Str.ofString "outlinemill.styles") 416)), (DictEntry.mk (PyData.keyHash P (Str.ofString "__qualname__")) (Value.str (Str.ofString "__qualname__") 477) (Value.str (Str.ofString "Look") 476)), (DictEntry.mk (PyData.keyHash P (Str.ofString "__firstlineno__")) (Value.str (Str.ofString "__firstlineno__") 479) (Value.int 125 478)), (DictEntry.mk (PyData.keyHash P (Str.ofString "__init__")) (Value.str (Str.ofString "__init__") 489) (Value.ref 232)), (DictEntry.mk (PyData.keyHash P (Str.ofString "text")) (Value.str (Str.ofString "text") 497) (Value.ref 239)), (DictEntry.mk (PyData.keyHash P (Str.ofString "font_size")) (Value.str (Str.ofString "font_size") 504) (Value.ref 246)), (DictEntry.mk (PyData.keyHash P (Str.ofString "size_for")) (Value.str (Str.ofString "size_for") 512) (Value.ref 253)), (DictEntry.mk (PyData.keyHash P (Str.ofString "length")) (Value.str (Str.ofString "length") 523) (Value.ref 262)), (DictEntry.mk (PyData.keyHash P (Str.ofString "lengths")) (Value.str (Str.ofString "lengths") 534) (Value.ref 271)), (DictEntry.mk (PyData.keyHash P (Str.ofString "number")) (Value.str (Str.ofString "number") 542) (Value.ref 278)), (DictEntry.mk (PyData.keyHash P (Str.ofString "opacity")) (Value.str (Str.ofString "opacity") 550) (Value.ref 285)), (DictEntry.mk (PyData.keyHash P (Str.ofString "paint")) (Value.str (Str.ofString "paint") 558) (Value.ref 292)), (DictEntry.mk (PyData.keyHash P (Str.ofString "rule")) (Value.str (Str.ofString "rule") 568) (Value.ref 300)), (DictEntry.mk (PyData.keyHash P (Str.ofString "is_displayed")) (Value.str (Str.ofString "is_displayed") 575) (Value.ref 307)), (DictEntry.mk (PyData.keyHash P (Str.ofString "is_visible")) (Value.str (Str.ofString "is_visible") 582) (Value.ref 314)), (DictEntry.mk (PyData.keyHash P (Str.ofString "__static_attributes__")) (Value.str (Str.ofString "__static_attributes__") 586) (Value.ref 315))]) 16) (List.toArray []))
noncomputable def hd.o_272 (P : Params) : Obj := (Obj.mk (Value.type "tuple") none (Data.seq (List.toArray []) 0) (List.toArray []))
noncomputable def hd.o_273 (P : Params) : Obj := (Obj.mk Value.none none (Data.fields (List.toArray ((Value.int 127 0) :: (Value.int 4 0) :: (Value.ref 231) :: (Value.int 132 0) :: (Value.int 4 0) :: (Value.ref 238) :: (Value.int 135 0) :: (Value.int 4 0) :: (Value.ref 245) :: (Value.int 138 0) :: (Value.int 4 0) :: (Value.ref 252) :: (Value.int 141 0) :: (Value.int 4 0) :: (Value.ref 261) :: (Value.int 144 0) :: (Value.int 4 0) :: (Value.ref 270) :: (Value.int 147 0) :: (Value.int 4 0) :: (Value.ref 277) :: (Value.int 153 0) :: (Value.int 4 0) :: (Value.ref 284) :: (Value.int 156 0) :: (Value.int 4 0) :: (Value.ref 291) :: (Value.int 159 0) :: (Value.int 4 0) :: (Value.ref 299) :: (Value.int 165 0) :: (Value.int 4 0) :: (Value.ref 306) :: (Value.int 168 0) :: (Value.int 4 0) :: (Value.ref 313) :: []))) (List.toArray []))
noncomputable def hd.o_274 (P : Params) : Obj := (Obj.mk (Value.type "code") none (Data.fields (List.toArray [(Value.str (Str.ofString "Look") 470), (Value.str (Str.ofString "Look") 471), (Value.str (Str.ofString "/claim/cut.py") 472), (Value.int 125 0), (Value.int 0 0), (Value.int 0 0), (Value.int 0 0), (Value.int 0 0), (Value.ref 221), (Value.bool Bool.false), (Value.int 181 0), (Value.ref 222), Value.none, Value.none, Value.none, Value.none, (Value.int 473 0), (Value.int 125 0), (Value.str (Str.ofString "/claim/cut.py") 474)])) (List.toArray []))
noncomputable def hd.o_275 (P : Params) : Obj := (Obj.mk (Value.type "frame") none Data.plain (List.toArray [(Option.some (Value.ref 223)), (Option.some (Value.ref 3)), (Option.some (Value.ref 220)), none, (Option.some (Value.str (Str.ofString "outlinemill.styles") 416)), none, (Option.some (Value.ref 0))]))
noncomputable def hd.o_276 (P : Params) : Obj := (Obj.mk (Value.type "tuple") none (Data.seq (List.toArray [Value.none, Value.none]) 0) (List.toArray []))
noncomputable def hd.o_277 (P : Params) : Obj := (Obj.mk (Value.type "tuple") none (Data.seq (List.toArray []) 0) (List.toArray []))
noncomputable def hd.o_278 (P : Params) : Obj := (Obj.mk Value.none none (Data.fields (List.toArray [])) (List.toArray []))
noncomputable def hd.o_279 (P : Params) : Obj := (Obj.mk (Value.type "tuple") none (Data.seq (List.toArray [(Value.str (Str.ofString "self") 483), (Value.str (Str.ofString "values") 484), (Value.str (Str.ofString "size") 485), (Value.str (Str.ofString "sizes") 486)]) 0) (List.toArray []))
noncomputable def hd.o_280 (P : Params) : Obj := (Obj.mk (Value.type "tuple") none (Data.seq (List.toArray []) 0) (List.toArray []))
noncomputable def hd.o_281 (P : Params) : Obj := (Obj.mk Value.none none (Data.func (FuncData.mk (Str.ofString "__init__") (Str.ofString "Look.__init__") (fnA (clM (st 31) 0)) (FuncBody.stmts (fnB (clM (st 31) 0))) (fnS (clM (st 31) 0)) 0 [] Value.none Value.none Value.none Value.none none Value.none Value.none 0)) (List.toArray []))
noncomputable def hd.o_282 (P : Params) : Obj := (Obj.mk (Value.type "code") none (Data.fields (List.toArray [(Value.str (Str.ofString "__init__") 480), (Value.str (Str.ofString "Look.__init__") 481), (Value.str (Str.ofString "/claim/cut.py") 482), (Value.int 127 0), (Value.int 4 0), (Value.int 0 0), (Value.int 0 0), (Value.int 3 0), (Value.ref 226), (Value.bool Bool.true), (Value.int 181 0), (Value.ref 227), Value.none, (Value.ref 228), (Value.ref 229), (Value.ref 230), (Value.int 487 0), (Value.int 127 0), (Value.str (Str.ofString "/claim/cut.py") 488)])) (List.toArray []))
noncomputable def hd.o_283 (P : Params) : Obj := (Obj.mk (Value.type "function") none (Data.func (FuncData.mk (Str.ofString "__init__") (Str.ofString "Look.__init__") (fnA (clM (st 31) 0)) (FuncBody.stmts (fnB (clM (st 31) 0))) (fnS (clM (st 31) 0)) 3 [] (Value.ref 225) Value.none Value.none (Value.str (Str.ofString "outlinemill.styles") 416) none (Value.ref 231) Value.none 0)) (List.toArray []))
noncomputable def hd.o_284 (P : Params) : Obj := (Obj.mk (Value.type "tuple") none (Data.seq (List.toArray []) 0) (List.toArray []))
noncomputable def hd.o_285 (P : Params) : Obj := (Obj.mk Value.none none (Data.fields (List.toArray [])) (List.toArray []))
noncomputable def hd.o_286 (P : Params) : Obj := (Obj.mk (Value.type "tuple") none (Data.seq (List.toArray [(Value.str (Str.ofString "self") 493), (Value.str (Str.ofString "name") 494)]) 0) (List.toArray []))
noncomputable def hd.o_287 (P : Params) : Obj := (Obj.mk (Value.type "tuple") none (Data.seq (List.toArray []) 0) (List.toArray []))
noncomputable def hd.o_288 (P : Params) : Obj := (Obj.mk Value.none none (Data.func (FuncData.mk (Str.ofString "text") (Str.ofString "Look.text") (fnA (clM (st 31) 1)) (FuncBody.stmts (fnB (clM (st 31) 1))) (fnS (clM (st 31) 1)) 0 [] Value.none Value.none Value.none Value.none none Value.none Value.none 0)) (List.toArray []))
noncomputable def hd.o_289 (P : Params) : Obj := (Obj.mk (Value.type "code") none (Data.fields (List.toArray [(Value.str (Str.ofString "text") 490), (Value.str (Str.ofString "Look.text") 491), (Value.str (Str.ofString "/claim/cut.py") 492), (Value.int 132 0), (Value.int 2 0), (Value.int 0 0), (Value.int 0 0), (Value.int 3 0), (Value.ref 233), (Value.bool Bool.true), (Value.int 181 0), (Value.ref 234), Value.none, (Value.ref 235), (Value.ref 236), (Value.ref 237), (Value.int 495 0), (Value.int 132 0), (Value.str (Str.ofString "/claim/cut.py") 496)])) (List.toArray []))
noncomputable def hd.o_290 (P : Params) : Obj := (Obj.mk (Value.type "function") none (Data.func (FuncData.mk (Str.ofString "text") (Str.ofString "Look.text") (fnA (clM (st 31) 1)) (FuncBody.stmts (fnB (clM (st 31) 1))) (fnS (clM (st 31) 1)) 3 [] Value.none Value.none Value.none (Value.str (Str.ofString "outlinemill.styles") 416) none (Value.ref 238) Value.none 0)) (List.toArray []))
noncomputable def hd.o_291 (P : Params) : Obj := (Obj.mk (Value.type "tuple") none (Data.seq (List.toArray []) 0) (List.toArray []))
noncomputable def hd.o_292 (P : Params) : Obj := (Obj.mk Value.none none (Data.fields (List.toArray [])) (List.toArray []))
noncomputable def hd.o_293 (P : Params) : Obj := (Obj.mk (Value.type "tuple") none (Data.seq (List.toArray [(Value.str (Str.ofString "self") 501)]) 0) (List.toArray []))
noncomputable def hd.o_294 (P : Params) : Obj := (Obj.mk (Value.type "tuple") none (Data.seq (List.toArray []) 0) (List.toArray []))
noncomputable def hd.o_295 (P : Params) : Obj := (Obj.mk Value.none none (Data.func (FuncData.mk (Str.ofString "font_size") (Str.ofString "Look.font_size") (fnA (clM (st 31) 2)) (FuncBody.stmts (fnB (clM (st 31) 2))) (fnS (clM (st 31) 2)) 0 [] Value.none Value.none Value.none Value.none none Value.none Value.none 0)) (List.toArray []))
noncomputable def hd.o_296 (P : Params) : Obj := (Obj.mk (Value.type "code") none (Data.fields (List.toArray [(Value.str (Str.ofString "font_size") 498), (Value.str (Str.ofString "Look.font_size") 499), (Value.str (Str.ofString "/claim/cut.py") 500), (Value.int 135 0), (Value.int 1 0), (Value.int 0 0), (Value.int 0 0), (Value.int 3 0), (Value.ref 240), (Value.bool Bool.true), (Value.int 181 0), (Value.ref 241), Value.none, (Value.ref 242), (Value.ref 243), (Value.ref 244), (Value.int 502 0), (Value.int 135 0), (Value.str (Str.ofString "/claim/cut.py") 503)])) (List.toArray []))
noncomputable def hd.o_297 (P : Params) : Obj := (Obj.mk (Value.type "function") none (Data.func (FuncData.mk (Str.ofString "font_size") (Str.ofString "Look.font_size") (fnA (clM (st 31) 2)) (FuncBody.stmts (fnB (clM (st 31) 2))) (fnS (clM (st 31) 2)) 3 [] Value.none Value.none Value.none (Value.str (Str.ofString "outlinemill.styles") 416) none (Value.ref 245) Value.none 0)) (List.toArray []))
noncomputable def hd.o_298 (P : Params) : Obj := (Obj.mk (Value.type "tuple") none (Data.seq (List.toArray []) 0) (List.toArray []))
noncomputable def hd.o_299 (P : Params) : Obj := (Obj.mk Value.none none (Data.fields (List.toArray [])) (List.toArray []))
noncomputable def hd.o_300 (P : Params) : Obj := (Obj.mk (Value.type "tuple") none (Data.seq (List.toArray [(Value.str (Str.ofString "self") 508), (Value.str (Str.ofString "name") 509)]) 0) (List.toArray []))
noncomputable def hd.o_301 (P : Params) : Obj := (Obj.mk (Value.type "tuple") none (Data.seq (List.toArray []) 0) (List.toArray []))
noncomputable def hd.o_302 (P : Params) : Obj := (Obj.mk Value.none none (Data.func (FuncData.mk (Str.ofString "size_for") (Str.ofString "Look.size_for") (fnA (clM (st 31) 3)) (FuncBody.stmts (fnB (clM (st 31) 3))) (fnS (clM (st 31) 1)) 0 [] Value.none Value.none Value.none Value.none none Value.none Value.none 0)) (List.toArray []))
noncomputable def hd.o_303 (P : Params) : Obj := (Obj.mk (Value.type "code") none (Data.fields (List.toArray [(Value.str (Str.ofString "size_for") 505), (Value.str (Str.ofString "Look.size_for") 506), (Value.str (Str.ofString "/claim/cut.py") 507), (Value.int 138 0), (Value.int 2 0), (Value.int 0 0), (Value.int 0 0), (Value.int 3 0), (Value.ref 247), (Value.bool Bool.true), (Value.int 181 0), (Value.ref 248), Value.none, (Value.ref 249), (Value.ref 250), (Value.ref 251), (Value.int 510 0), (Value.int 138 0), (Value.str (Str.ofString "/claim/cut.py") 511)])) (List.toArray []))
noncomputable def hd.o_304 (P : Params) : Obj := (Obj.mk (Value.type "function") none (Data.func (FuncData.mk (Str.ofString "size_for") (Str.ofString "Look.size_for") (fnA (clM (st 31) 3)) (FuncBody.stmts (fnB (clM (st 31) 3))) (fnS (clM (st 31) 1)) 3 [] Value.none Value.none Value.none (Value.str (Str.ofString "outlinemill.styles") 416) none (Value.ref 252) Value.none 0)) (List.toArray []))
noncomputable def hd.o_305 (P : Params) : Obj := (Obj.mk (Value.type "tuple") none (Data.seq (List.toArray [(Value.int 1 513), (Value.int 1 514)]) 0) (List.toArray []))
noncomputable def hd.o_306 (P : Params) : Obj := (Obj.mk (Value.type "tuple") none (Data.seq (List.toArray [(Value.ref 254)]) 0) (List.toArray []))
noncomputable def hd.o_307 (P : Params) : Obj := (Obj.mk (Value.type "tuple") none (Data.seq (List.toArray []) 0) (List.toArray []))
noncomputable def hd.o_308 (P : Params) : Obj := (Obj.mk Value.none none (Data.fields (List.toArray [])) (List.toArray []))
noncomputable def hd.o_309 (P : Params) : Obj := (Obj.mk (Value.type "tuple") none (Data.seq (List.toArray [(Value.str (Str.ofString "self") 518), (Value.str (Str.ofString "name") 519), (Value.str (Str.ofString "whole") 520)]) 0) (List.toArray []))
noncomputable def hd.o_310 (P : Params) : Obj := (Obj.mk (Value.type "tuple") none (Data.seq (List.toArray []) 0) (List.toArray []))
noncomputable def hd.o_311 (P : Params) : Obj := (Obj.mk Value.none none (Data.func (FuncData.mk (Str.ofString "length") (Str.ofString "Look.length") (fnA (clM (st 31) 4)) (FuncBody.stmts (fnB (clM (st 31) 4))) (fnS (clM (st 31) 4)) 0 [] Value.none Value.none Value.none Value.none none Value.none Value.none 0)) (List.toArray []))
noncomputable def hd.o_312 (P : Params) : Obj := (Obj.mk (Value.type "code") none (Data.fields (List.toArray [(Value.str (Str.ofString "length") 515), (Value.str (Str.ofString "Look.length") 516), (Value.str (Str.ofString "/claim/cut.py") 517), (Value.int 141 0), (Value.int 3 0), (Value.int 0 0), (Value.int 0 0), (Value.int 3 0), (Value.ref 256), (Value.bool Bool.true), (Value.int 181 0), (Value.ref 257), Value.none, (Value.ref 258), (Value.ref 259), (Value.ref 260), (Value.int 521 0), (Value.int 141 0), (Value.str (Str.ofString "/claim/cut.py") 522)])) (List.toArray []))
noncomputable def hd.o_313 (P : Params) : Obj := (Obj.mk (Value.type "function") none (Data.func (FuncData.mk (Str.ofString "length") (Str.ofString "Look.length") (fnA (clM (st 31) 4)) (FuncBody.stmts (fnB (clM (st 31) 4))) (fnS (clM (st 31) 4)) 3 [] (Value.ref 255) Value.none Value.none (Value.str (Str.ofString "outlinemill.styles") 416) none (Value.ref 261) Value.none 0)) (List.toArray []))
noncomputable def hd.o_314 (P : Params) : Obj := (Obj.mk (Value.type "tuple") none (Data.seq (List.toArray [(Value.int 1 524), (Value.int 1 525)]) 0) (List.toArray []))
noncomputable def hd.o_315 (P : Params) : Obj := (Obj.mk (Value.type "tuple") none (Data.seq (List.toArray [(Value.ref 263)]) 0) (List.toArray []))
noncomputable def hd.o_316 (P : Params) : Obj := (Obj.mk (Value.type "tuple") none (Data.seq (List.toArray []) 0) (List.toArray []))
noncomputable def hd.o_317 (P : Params) : Obj := (Obj.mk Value.none none (Data.fields (List.toArray [])) (List.toArray []))
noncomputable def hd.o_318 (P : Params) : Obj := (Obj.mk (Value.type "tuple") none (Data.seq (List.toArray [(Value.str (Str.ofString "self") 529), (Value.str (Str.ofString "name") 530), (Value.str (Str.ofString "whole") 531)]) 0) (List.toArray []))
noncomputable def hd.o_319 (P : Params) : Obj := (Obj.mk (Value.type "tuple") none (Data.seq (List.toArray []) 0) (List.toArray []))
noncomputable def hd.o_320 (P : Params) : Obj := (Obj.mk Value.none none (Data.func (FuncData.mk (Str.ofString "lengths") (Str.ofString "Look.lengths") (fnA (clM (st 31) 5)) (FuncBody.stmts (fnB (clM (st 31) 5))) (fnS (clM (st 31) 5)) 0 [] Value.none Value.none Value.none Value.none none Value.none Value.none 0)) (List.toArray []))
noncomputable def hd.o_321 (P : Params) : Obj := (Obj.mk (Value.type "code") none (Data.fields (List.toArray [(Value.str (Str.ofString "lengths") 526), (Value.str (Str.ofString "Look.lengths") 527), (Value.str (Str.ofString "/claim/cut.py") 528), (Value.int 144 0), (Value.int 3 0), (Value.int 0 0), (Value.int 0 0), (Value.int 3 0), (Value.ref 265), (Value.bool Bool.true), (Value.int 181 0), (Value.ref 266), Value.none, (Value.ref 267), (Value.ref 268), (Value.ref 269), (Value.int 532 0), (Value.int 144 0), (Value.str (Str.ofString "/claim/cut.py") 533)])) (List.toArray []))
noncomputable def hd.o_322 (P : Params) : Obj := (Obj.mk (Value.type "function") none (Data.func (FuncData.mk (Str.ofString "lengths") (Str.ofString "Look.lengths") (fnA (clM (st 31) 5)) (FuncBody.stmts (fnB (clM (st 31) 5))) (fnS (clM (st 31) 5)) 3 [] (Value.ref 264) Value.none Value.none (Value.str (Str.ofString "outlinemill.styles") 416) none (Value.ref 270) Value.none 0)) (List.toArray []))
noncomputable def hd.o_323 (P : Params) : Obj := (Obj.mk (Value.type "tuple") none (Data.seq (List.toArray []) 0) (List.toArray []))
noncomputable def hd.o_324 (P : Params) : Obj := (Obj.mk Value.none none (Data.fields (List.toArray [])) (List.toArray []))
noncomputable def hd.o_325 (P : Params) : Obj := (Obj.mk (Value.type "tuple") none (Data.seq (List.toArray [(Value.str (Str.ofString "self") 538), (Value.str (Str.ofString "name") 539)]) 0) (List.toArray []))
noncomputable def hd.o_326 (P : Params) : Obj := (Obj.mk (Value.type "tuple") none (Data.seq (List.toArray []) 0) (List.toArray []))
noncomputable def hd.o_327 (P : Params) : Obj := (Obj.mk Value.none none (Data.func (FuncData.mk (Str.ofString "number") (Str.ofString "Look.number") (fnA (clM (st 31) 6)) (FuncBody.stmts (fnB (clM (st 31) 6))) (fnS (clM (st 31) 6)) 0 [] Value.none Value.none Value.none Value.none none Value.none Value.none 0)) (List.toArray []))
noncomputable def hd.o_328 (P : Params) : Obj := (Obj.mk (Value.type "code") none (Data.fields (List.toArray [(Value.str (Str.ofString "number") 535), (Value.str (Str.ofString "Look.number") 536), (Value.str (Str.ofString "/claim/cut.py") 537), (Value.int 147 0), (Value.int 2 0), (Value.int 0 0), (Value.int 0 0), (Value.int 3 0), (Value.ref 272), (Value.bool Bool.true), (Value.int 181 0), (Value.ref 273), Value.none, (Value.ref 274), (Value.ref 275), (Value.ref 276), (Value.int 540 0), (Value.int 147 0), (Value.str (Str.ofString "/claim/cut.py") 541)])) (List.toArray []))
noncomputable def hd.o_329 (P : Params) : Obj := (Obj.mk (Value.type "function") none (Data.func (FuncData.mk (Str.ofString "number") (Str.ofString "Look.number") (fnA (clM (st 31) 6)) (FuncBody.stmts (fnB (clM (st 31) 6))) (fnS (clM (st 31) 6)) 3 [] Value.none Value.none Value.none (Value.str (Str.ofString "outlinemill.styles") 416) none (Value.ref 277) Value.none 0)) (List.toArray []))
noncomputable def hd.o_330 (P : Params) : Obj := (Obj.mk (Value.type "tuple") none (Data.seq (List.toArray []) 0) (List.toArray []))
noncomputable def hd.o_331 (P : Params) : Obj := (Obj.mk Value.none none (Data.fields (List.toArray [])) (List.toArray []))
noncomputable def hd.o_332 (P : Params) : Obj := (Obj.mk (Value.type "tuple") none (Data.seq (List.toArray [(Value.str (Str.ofString "self") 546), (Value.str (Str.ofString "name") 547)]) 0) (List.toArray []))
noncomputable def hd.o_333 (P : Params) : Obj := (Obj.mk (Value.type "tuple") none (Data.seq (List.toArray []) 0) (List.toArray []))
noncomputable def hd.o_334 (P : Params) : Obj := (Obj.mk Value.none none (Data.func (FuncData.mk (Str.ofString "opacity") (Str.ofString "Look.opacity") (fnA (clM (st 31) 7)) (FuncBody.stmts (fnB (clM (st 31) 7))) (fnS (clM (st 31) 7)) 0 [] Value.none Value.none Value.none Value.none none Value.none Value.none 0)) (List.toArray []))
noncomputable def hd.o_335 (P : Params) : Obj := (Obj.mk (Value.type "code") none (Data.fields (List.toArray [(Value.str (Str.ofString "opacity") 543), (Value.str (Str.ofString "Look.opacity") 544), (Value.str (Str.ofString "/claim/cut.py") 545), (Value.int 153 0), (Value.int 2 0), (Value.int 0 0), (Value.int 0 0), (Value.int 3 0), (Value.ref 279), (Value.bool Bool.true), (Value.int 181 0), (Value.ref 280), Value.none, (Value.ref 281), (Value.ref 282), (Value.ref 283), (Value.int 548 0), (Value.int 153 0), (Value.str (Str.ofString "/claim/cut.py") 549)])) (List.toArray []))
noncomputable def hd.o_336 (P : Params) : Obj := (Obj.mk (Value.type "function") none (Data.func (FuncData.mk (Str.ofString "opacity") (Str.ofString "Look.opacity") (fnA (clM (st 31) 7)) (FuncBody.stmts (fnB (clM (st 31) 7))) (fnS (clM (st 31) 7)) 3 [] Value.none Value.none Value.none (Value.str (Str.ofString "outlinemill.styles") 416) none (Value.ref 284) Value.none 0)) (List.toArray []))
noncomputable def hd.o_337 (P : Params) : Obj := (Obj.mk (Value.type "tuple") none (Data.seq (List.toArray []) 0) (List.toArray []))
noncomputable def hd.o_338 (P : Params) : Obj := (Obj.mk Value.none none (Data.fields (List.toArray [])) (List.toArray []))
noncomputable def hd.o_339 (P : Params) : Obj := (Obj.mk (Value.type "tuple") none (Data.seq (List.toArray [(Value.str (Str.ofString "self") 554), (Value.str (Str.ofString "name") 555)]) 0) (List.toArray []))
noncomputable def hd.o_340 (P : Params) : Obj := (Obj.mk (Value.type "tuple") none (Data.seq (List.toArray []) 0) (List.toArray []))
noncomputable def hd.o_341 (P : Params) : Obj := (Obj.mk Value.none none (Data.func (FuncData.mk (Str.ofString "paint") (Str.ofString "Look.paint") (fnA (clM (st 31) 8)) (FuncBody.stmts (fnB (clM (st 31) 8))) (fnS (clM (st 31) 8)) 0 [] Value.none Value.none Value.none Value.none none Value.none Value.none 0)) (List.toArray []))
noncomputable def hd.o_342 (P : Params) : Obj := (Obj.mk (Value.type "code") none (Data.fields (List.toArray [(Value.str (Str.ofString "paint") 551), (Value.str (Str.ofString "Look.paint") 552), (Value.str (Str.ofString "/claim/cut.py") 553), (Value.int 156 0), (Value.int 2 0), (Value.int 0 0), (Value.int 0 0), (Value.int 3 0), (Value.ref 286), (Value.bool Bool.true), (Value.int 181 0), (Value.ref 287), Value.none, (Value.ref 288), (Value.ref 289), (Value.ref 290), (Value.int 556 0), (Value.int 156 0), (Value.str (Str.ofString "/claim/cut.py") 557)])) (List.toArray []))
noncomputable def hd.o_343 (P : Params) : Obj := (Obj.mk (Value.type "function") none (Data.func (FuncData.mk (Str.ofString "paint") (Str.ofString "Look.paint") (fnA (clM (st 31) 8)) (FuncBody.stmts (fnB (clM (st 31) 8))) (fnS (clM (st 31) 8)) 3 [] Value.none Value.none Value.none (Value.str (Str.ofString "outlinemill.styles") 416) none (Value.ref 291) Value.none 0)) (List.toArray []))
noncomputable def hd.o_344 (P : Params) : Obj := (Obj.mk (Value.type "tuple") none (Data.seq (List.toArray [(Value.str (Str.ofString "fill-rule") 559)]) 0) (List.toArray []))
noncomputable def hd.o_345 (P : Params) : Obj := (Obj.mk (Value.type "tuple") none (Data.seq (List.toArray []) 0) (List.toArray []))
noncomputable def hd.o_346 (P : Params) : Obj := (Obj.mk Value.none none (Data.fields (List.toArray [])) (List.toArray []))
noncomputable def hd.o_347 (P : Params) : Obj := (Obj.mk (Value.type "tuple") none (Data.seq (List.toArray [(Value.str (Str.ofString "self") 563), (Value.str (Str.ofString "name") 564), (Value.str (Str.ofString "told") 565)]) 0) (List.toArray []))
noncomputable def hd.o_348 (P : Params) : Obj := (Obj.mk (Value.type "tuple") none (Data.seq (List.toArray []) 0) (List.toArray []))
noncomputable def hd.o_349 (P : Params) : Obj := (Obj.mk Value.none none (Data.func (FuncData.mk (Str.ofString "rule") (Str.ofString "Look.rule") (fnA (clM (st 31) 9)) (FuncBody.stmts (fnB (clM (st 31) 9))) (fnS (clM (st 31) 9)) 0 [] Value.none Value.none Value.none Value.none none Value.none Value.none 0)) (List.toArray []))
noncomputable def hd.o_350 (P : Params) : Obj := (Obj.mk (Value.type "code") none (Data.fields (List.toArray [(Value.str (Str.ofString "rule") 560), (Value.str (Str.ofString "Look.rule") 561), (Value.str (Str.ofString "/claim/cut.py") 562), (Value.int 159 0), (Value.int 2 0), (Value.int 0 0), (Value.int 0 0), (Value.int 3 0), (Value.ref 294), (Value.bool Bool.true), (Value.int 181 0), (Value.ref 295), Value.none, (Value.ref 296), (Value.ref 297), (Value.ref 298), (Value.int 566 0), (Value.int 159 0), (Value.str (Str.ofString "/claim/cut.py") 567)])) (List.toArray []))
noncomputable def hd.o_351 (P : Params) : Obj := (Obj.mk (Value.type "function") none (Data.func (FuncData.mk (Str.ofString "rule") (Str.ofString "Look.rule") (fnA (clM (st 31) 9)) (FuncBody.stmts (fnB (clM (st 31) 9))) (fnS (clM (st 31) 9)) 3 [] (Value.ref 293) Value.none Value.none (Value.str (Str.ofString "outlinemill.styles") 416) none (Value.ref 299) Value.none 0)) (List.toArray []))
noncomputable def hd.o_352 (P : Params) : Obj := (Obj.mk (Value.type "tuple") none (Data.seq (List.toArray []) 0) (List.toArray []))
noncomputable def hd.o_353 (P : Params) : Obj := (Obj.mk Value.none none (Data.fields (List.toArray [])) (List.toArray []))
noncomputable def hd.o_354 (P : Params) : Obj := (Obj.mk (Value.type "tuple") none (Data.seq (List.toArray [(Value.str (Str.ofString "self") 572)]) 0) (List.toArray []))
noncomputable def hd.o_355 (P : Params) : Obj := (Obj.mk (Value.type "tuple") none (Data.seq (List.toArray []) 0) (List.toArray []))
noncomputable def hd.o_356 (P : Params) : Obj := (Obj.mk Value.none none (Data.func (FuncData.mk (Str.ofString "is_displayed") (Str.ofString "Look.is_displayed") (fnA (clM (st 31) 10)) (FuncBody.stmts (fnB (clM (st 31) 10))) (fnS (clM (st 31) 10)) 0 [] Value.none Value.none Value.none Value.none none Value.none Value.none 0)) (List.toArray []))
noncomputable def hd.o_357 (P : Params) : Obj := (Obj.mk (Value.type "code") none (Data.fields (List.toArray [(Value.str (Str.ofString "is_displayed") 569), (Value.str (Str.ofString "Look.is_displayed") 570), (Value.str (Str.ofString "/claim/cut.py") 571), (Value.int 165 0), (Value.int 1 0), (Value.int 0 0), (Value.int 0 0), (Value.int 3 0), (Value.ref 301), (Value.bool Bool.true), (Value.int 181 0), (Value.ref 302), Value.none, (Value.ref 303), (Value.ref 304), (Value.ref 305), (Value.int 573 0), (Value.int 165 0), (Value.str (Str.ofString "/claim/cut.py") 574)])) (List.toArray []))
noncomputable def hd.o_358 (P : Params) : Obj := (Obj.mk (Value.type "function") none (Data.func (FuncData.mk (Str.ofString "is_displayed") (Str.ofString "Look.is_displayed") (fnA (clM (st 31) 10)) (FuncBody.stmts (fnB (clM (st 31) 10))) (fnS (clM (st 31) 10)) 3 [] Value.none Value.none Value.none (Value.str (Str.ofString "outlinemill.styles") 416) none (Value.ref 306) Value.none 0)) (List.toArray []))
noncomputable def hd.o_359 (P : Params) : Obj := (Obj.mk (Value.type "tuple") none (Data.seq (List.toArray []) 0) (List.toArray []))
noncomputable def hd.o_360 (P : Params) : Obj := (Obj.mk Value.none none (Data.fields (List.toArray [])) (List.toArray []))
noncomputable def hd.o_361 (P : Params) : Obj := (Obj.mk (Value.type "tuple") none (Data.seq (List.toArray [(Value.str (Str.ofString "self") 579)]) 0) (List.toArray []))
noncomputable def hd.o_362 (P : Params) : Obj := (Obj.mk (Value.type "tuple") none (Data.seq (List.toArray []) 0) (List.toArray []))
noncomputable def hd.o_363 (P : Params) : Obj := (Obj.mk Value.none none (Data.func (FuncData.mk (Str.ofString "is_visible") (Str.ofString "Look.is_visible") (fnA (clM (st 31) 11)) (FuncBody.stmts (fnB (clM (st 31) 11))) (fnS (clM (st 31) 10)) 0 [] Value.none Value.none Value.none Value.none none Value.none Value.none 0)) (List.toArray []))
noncomputable def hd.o_364 (P : Params) : Obj := (Obj.mk (Value.type "code") none (Data.fields (List.toArray [(Value.str (Str.ofString "is_visible") 576), (Value.str (Str.ofString "Look.is_visible") 577), (Value.str (Str.ofString "/claim/cut.py") 578), (Value.int 168 0), (Value.int 1 0), (Value.int 0 0), (Value.int 0 0), (Value.int 3 0), (Value.ref 308), (Value.bool Bool.true), (Value.int 181 0), (Value.ref 309), Value.none, (Value.ref 310), (Value.ref 311), (Value.ref 312), (Value.int 580 0), (Value.int 168 0), (Value.str (Str.ofString "/claim/cut.py") 581)])) (List.toArray []))
noncomputable def hd.o_365 (P : Params) : Obj := (Obj.mk (Value.type "function") none (Data.func (FuncData.mk (Str.ofString "is_visible") (Str.ofString "Look.is_visible") (fnA (clM (st 31) 11)) (FuncBody.stmts (fnB (clM (st 31) 11))) (fnS (clM (st 31) 10)) 3 [] Value.none Value.none Value.none (Value.str (Str.ofString "outlinemill.styles") 416) none (Value.ref 313) Value.none 0)) (List.toArray []))
noncomputable def hd.o_366 (P : Params) : Obj := (Obj.mk (Value.type "tuple") none (Data.seq (List.toArray [(Value.str (Str.ofString "size") 583), (Value.str (Str.ofString "sizes") 584), (Value.str (Str.ofString "values") 585)]) 0) (List.toArray []))
noncomputable def hd.o_367 (P : Params) : Obj := (Obj.mk (Value.type "dict") none (Data.dict (List.toArray [(DictEntry.mk (PyData.keyHash P (Str.ofString "__module__")) (Value.str (Str.ofString "__module__") 475) (Value.str (Str.ofString "outlinemill.styles") 416)), (DictEntry.mk (PyData.keyHash P (Str.ofString "__firstlineno__")) (Value.str (Str.ofString "__firstlineno__") 479) (Value.int 125 478)), (DictEntry.mk (PyData.keyHash P (Str.ofString "__init__")) (Value.str (Str.ofString "__init__") 489) (Value.ref 232)), (DictEntry.mk (PyData.keyHash P (Str.ofString "text")) (Value.str (Str.ofString "text") 497) (Value.ref 239)), (DictEntry.mk (PyData.keyHash P (Str.ofString "font_size")) (Value.str (Str.ofString "font_size") 504) (Value.ref 246)), (DictEntry.mk (PyData.keyHash P (Str.ofString "size_for")) (Value.str (Str.ofString "size_for") 512) (Value.ref 253)), (DictEntry.mk (PyData.keyHash P (Str.ofString "length")) (Value.str (Str.ofString "length") 523) (Value.ref 262)), (DictEntry.mk (PyData.keyHash P (Str.ofString "lengths")) (Value.str (Str.ofString "lengths") 534) (Value.ref 271)), (DictEntry.mk (PyData.keyHash P (Str.ofString "number")) (Value.str (Str.ofString "number") 542) (Value.ref 278)), (DictEntry.mk (PyData.keyHash P (Str.ofString "opacity")) (Value.str (Str.ofString "opacity") 550) (Value.ref 285)), (DictEntry.mk (PyData.keyHash P (Str.ofString "paint")) (Value.str (Str.ofString "paint") 558) (Value.ref 292)), (DictEntry.mk (PyData.keyHash P (Str.ofString "rule")) (Value.str (Str.ofString "rule") 568) (Value.ref 300)), (DictEntry.mk (PyData.keyHash P (Str.ofString "is_displayed")) (Value.str (Str.ofString "is_displayed") 575) (Value.ref 307)), (DictEntry.mk (PyData.keyHash P (Str.ofString "is_visible")) (Value.str (Str.ofString "is_visible") 582) (Value.ref 314)), (DictEntry.mk (PyData.keyHash P (Str.ofString "__static_attributes__")) (Value.str (Str.ofString "__static_attributes__") 586) (Value.ref 315)), (DictEntry.mk (PyData.keyHash P (Str.ofString "__dict__")) (Value.str (Str.ofString "__dict__") 588) (Value.ref 318)), (DictEntry.mk (PyData.keyHash P (Str.ofString "__weakref__")) (Value.str (Str.ofString "__weakref__") 590) (Value.ref 319)), (DictEntry.mk (PyData.keyHash P (Str.ofString "__doc__")) (Value.str (Str.ofString "__doc__") 591) Value.none)]) 4) (List.toArray []))
noncomputable def hd.o_368 (P : Params) : Obj := (Obj.mk (Value.type "type") none (Data.cls (ClassData.mk (Str.ofString "Look") [(Value.type "object")] [(Value.ref 317), (Value.type "object")] 316 (Str.ofString "Look") Bool.true [] [] Bool.false none Bool.false)) (List.toArray [none, none, (Option.some (Value.str (Str.ofString "Look") 468)), (Option.some (Value.str (Str.ofString "Look") 476)), (Option.some (Value.builtin "object.__new__")), (Option.some (Value.bool Bool.true))]))
noncomputable def hd.o_369 (P : Params) : Obj := (Obj.mk (Value.type "getset_descriptor") none (Data.fields (List.toArray [(Value.str (Str.ofString "__dict__") 587), (Value.ref 317), (Value.builtin "function.__dict__"), (Value.builtin "function.__dict__#set")])) (List.toArray []))
noncomputable def hd.o_370 (P : Params) : Obj := (Obj.mk (Value.type "getset_descriptor") none (Data.fields (List.toArray [(Value.str (Str.ofString "__weakref__") 589), (Value.ref 317), (Value.builtin "ExceptionGroup.__weakref__"), Value.none])) (List.toArray []))
noncomputable def hd.o_371 (P : Params) : Obj := (Obj.mk (Value.type "super") none (Data.fields (List.toArray [(Value.ref 317), (Value.ref 317), (Value.ref 317)])) (List.toArray []))
noncomputable def hd.o_372 (P : Params) : Obj := (Obj.mk (Value.type "builtin_function_or_method") none (Data.fields (List.toArray [(Value.builtin "object.__init_subclass__"), (Value.ref 317)])) (List.toArray []))
noncomputable def hd.o_375 (P : Params) : Obj := (Obj.mk (Value.type "tuple") none (Data.seq (List.toArray []) 0) (List.toArray []))
noncomputable def hd.o_376 (P : Params) : Obj := (Obj.mk Value.none none (Data.fields (List.toArray [])) (List.toArray []))
noncomputable def hd.o_377 (P : Params) : Obj := (Obj.mk (Value.type "tuple") none (Data.seq (List.toArray [(Value.str (Str.ofString "values") 597)]) 0) (List.toArray []))
noncomputable def hd.o_378 (P : Params) : Obj := (Obj.mk (Value.type "tuple") none (Data.seq (List.toArray []) 0) (List.toArray []))
noncomputable def hd.o_379 (P : Params) : Obj := (Obj.mk Value.none none (Data.func (FuncData.mk (Str.ofString "first_look") (Str.ofString "first_look") (fnA (st 25)) (FuncBody.stmts (fnB (st 32))) (fnS (st 32)) 0 [] Value.none Value.none Value.none Value.none none Value.none Value.none 0)) (List.toArray []))
noncomputable def hd.o_380 (P : Params) : Obj := (Obj.mk (Value.type "code") none (Data.fields (List.toArray [(Value.str (Str.ofString "first_look") 594), (Value.str (Str.ofString "first_look") 595), (Value.str (Str.ofString "/claim/cut.py") 596), (Value.int 170 0), (Value.int 0 0), (Value.int 0 0), (Value.int 0 0), (Value.int 3 0), (Value.ref 322), (Value.bool Bool.true), (Value.int 181 0), (Value.ref 323), Value.none, (Value.ref 324), (Value.ref 325), (Value.ref 326), (Value.int 598 0), (Value.int 170 0), (Value.str (Str.ofString "/claim/cut.py") 599)])) (List.toArray []))
noncomputable def hd.o_381 (P : Params) : Obj := (Obj.mk (Value.type "function") none (Data.func (FuncData.mk (Str.ofString "first_look") (Str.ofString "first_look") (fnA (st 25)) (FuncBody.stmts (fnB (st 32))) (fnS (st 32)) 3 [] Value.none Value.none Value.none (Value.str (Str.ofString "outlinemill.styles") 416) none (Value.ref 327) Value.none 0)) (List.toArray []))
noncomputable def hd.o_382 (P : Params) : Obj := (Obj.mk (Value.type "tuple") none (Data.seq (List.toArray []) 0) (List.toArray []))
noncomputable def hd.o_383 (P : Params) : Obj := (Obj.mk Value.none none (Data.fields (List.toArray [])) (List.toArray []))
noncomputable def hd.o_384 (P : Params) : Obj := (Obj.mk (Value.type "tuple") none (Data.seq (List.toArray [(Value.str (Str.ofString "told") 604), (Value.str (Str.ofString "around") 605), (Value.str (Str.ofString "size") 606)]) 0) (List.toArray []))
noncomputable def hd.o_385 (P : Params) : Obj := (Obj.mk (Value.type "tuple") none (Data.seq (List.toArray []) 0) (List.toArray []))
noncomputable def hd.o_386 (P : Params) : Obj := (Obj.mk Value.none none (Data.func (FuncData.mk (Str.ofString "own_font_size") (Str.ofString "own_font_size") (fnA (st 33)) (FuncBody.stmts (fnB (st 33))) (fnS (st 33)) 0 [] Value.none Value.none Value.none Value.none none Value.none Value.none 0)) (List.toArray []))
noncomputable def hd.o_387 (P : Params) : Obj := (Obj.mk (Value.type "code") none (Data.fields (List.toArray [(Value.str (Str.ofString "own_font_size") 601), (Value.str (Str.ofString "own_font_size") 602), (Value.str (Str.ofString "/claim/cut.py") 603), (Value.int 174 0), (Value.int 2 0), (Value.int 0 0), (Value.int 0 0), (Value.int 3 0), (Value.ref 329), (Value.bool Bool.true), (Value.int 181 0), (Value.ref 330), Value.none, (Value.ref 331), (Value.ref 332), (Value.ref 333), (Value.int 607 0), (Value.int 174 0), (Value.str (Str.ofString "/claim/cut.py") 608)])) (List.toArray []))
noncomputable def hd.o_388 (P : Params) : Obj := (Obj.mk (Value.type "function") none (Data.func (FuncData.mk (Str.ofString "own_font_size") (Str.ofString "own_font_size") (fnA (st 33)) (FuncBody.stmts (fnB (st 33))) (fnS (st 33)) 3 [] Value.none Value.none Value.none (Value.str (Str.ofString "outlinemill.styles") 416) none (Value.ref 334) Value.none 0)) (List.toArray []))
noncomputable def hd.o_389 (P : Params) : Obj := (Obj.mk (Value.type "tuple") none (Data.seq (List.toArray []) 0) (List.toArray []))
noncomputable def hd.o_390 (P : Params) : Obj := (Obj.mk Value.none none (Data.fields (List.toArray [])) (List.toArray []))
noncomputable def hd.o_391 (P : Params) : Obj := (Obj.mk (Value.type "tuple") none (Data.seq (List.toArray [(Value.str (Str.ofString "script") 615), (Value.str (Str.ofString "cell") 616), (Value.str (Str.ofString "great") 617)]) 0) (List.toArray []))
noncomputable def hd.o_392 (P : Params) : Obj := (Obj.mk (Value.type "tuple") none (Data.seq (List.toArray []) 0) (List.toArray []))
noncomputable def hd.o_393 (P : Params) : Obj := (Obj.mk Value.none none (Data.func (FuncData.mk (Str.ofString "_law_pool") (Str.ofString "_law_pool") (fnA (st 35)) (FuncBody.stmts (fnB (st 35))) (fnS (st 35)) 0 [] Value.none Value.none Value.none Value.none none Value.none Value.none 0)) (List.toArray []))
noncomputable def hd.o_394 (P : Params) : Obj := (Obj.mk (Value.type "code") none (Data.fields (List.toArray [(Value.str (Str.ofString "_law_pool") 612), (Value.str (Str.ofString "_law_pool") 613), (Value.str (Str.ofString "/claim/cut.py") 614), (Value.int 182 0), (Value.int 1 0), (Value.int 0 0), (Value.int 0 0), (Value.int 3 0), (Value.ref 336), (Value.bool Bool.true), (Value.int 181 0), (Value.ref 337), Value.none, (Value.ref 338), (Value.ref 339), (Value.ref 340), (Value.int 618 0), (Value.int 182 0), (Value.str (Str.ofString "/claim/cut.py") 619)])) (List.toArray []))
noncomputable def hd.o_395 (P : Params) : Obj := (Obj.mk (Value.type "function") none (Data.func (FuncData.mk (Str.ofString "_law_pool") (Str.ofString "_law_pool") (fnA (st 35)) (FuncBody.stmts (fnB (st 35))) (fnS (st 35)) 3 [] Value.none Value.none Value.none (Value.str (Str.ofString "law_xm0732_01") 610) none (Value.ref 341) Value.none 0)) (List.toArray []))
noncomputable def hd.o_396 (P : Params) : Obj := (Obj.mk (Value.type "tuple") none (Data.seq (List.toArray []) 0) (List.toArray []))
noncomputable def hd.o_397 (P : Params) : Obj := (Obj.mk Value.none none (Data.fields (List.toArray [])) (List.toArray []))
noncomputable def hd.o_398 (P : Params) : Obj := (Obj.mk (Value.type "tuple") none (Data.seq (List.toArray [(Value.str (Str.ofString "source") 624), (Value.str (Str.ofString "top") 625), (Value.str (Str.ofString "figure") 626)]) 0) (List.toArray []))
noncomputable def hd.o_399 (P : Params) : Obj := (Obj.mk (Value.type "tuple") none (Data.seq (List.toArray []) 0) (List.toArray []))
noncomputable def hd.o_400 (P : Params) : Obj := (Obj.mk Value.none none (Data.func (FuncData.mk (Str.ofString "_law_take") (Str.ofString "_law_take") (fnA (st 36)) (FuncBody.stmts (fnB (st 36))) (fnS (st 36)) 0 [] Value.none Value.none Value.none Value.none none Value.none Value.none 0)) (List.toArray []))
noncomputable def hd.o_401 (P : Params) : Obj := (Obj.mk (Value.type "code") none (Data.fields (List.toArray [(Value.str (Str.ofString "_law_take") 621), (Value.str (Str.ofString "_law_take") 622), (Value.str (Str.ofString "/claim/cut.py") 623), (Value.int 186 0), (Value.int 2 0), (Value.int 0 0), (Value.int 0 0), (Value.int 3 0), (Value.ref 343), (Value.bool Bool.true), (Value.int 181 0), (Value.ref 344), Value.none, (Value.ref 345), (Value.ref 346), (Value.ref 347), (Value.int 627 0), (Value.int 186 0), (Value.str (Str.ofString "/claim/cut.py") 628)])) (List.toArray []))
noncomputable def hd.o_402 (P : Params) : Obj := (Obj.mk (Value.type "function") none (Data.func (FuncData.mk (Str.ofString "_law_take") (Str.ofString "_law_take") (fnA (st 36)) (FuncBody.stmts (fnB (st 36))) (fnS (st 36)) 3 [] Value.none Value.none Value.none (Value.str (Str.ofString "law_xm0732_01") 610) none (Value.ref 348) Value.none 0)) (List.toArray []))
noncomputable def hd.o_403 (P : Params) : Obj := (Obj.mk (Value.type "tuple") none (Data.seq (List.toArray []) 0) (List.toArray []))
noncomputable def hd.o_404 (P : Params) : Obj := (Obj.mk Value.none none (Data.fields (List.toArray [])) (List.toArray []))
noncomputable def hd.o_405 (P : Params) : Obj := (Obj.mk (Value.type "tuple") none (Data.seq (List.toArray [(Value.str (Str.ofString "source") 633), (Value.str (Str.ofString "things") 634)]) 0) (List.toArray []))
noncomputable def hd.o_406 (P : Params) : Obj := (Obj.mk (Value.type "tuple") none (Data.seq (List.toArray []) 0) (List.toArray []))
noncomputable def hd.o_407 (P : Params) : Obj := (Obj.mk Value.none none (Data.func (FuncData.mk (Str.ofString "_law_one") (Str.ofString "_law_one") (fnA (st 37)) (FuncBody.stmts (fnB (st 37))) (fnS (st 37)) 0 [] Value.none Value.none Value.none Value.none none Value.none Value.none 0)) (List.toArray []))
noncomputable def hd.o_408 (P : Params) : Obj := (Obj.mk (Value.type "code") none (Data.fields (List.toArray [(Value.str (Str.ofString "_law_one") 630), (Value.str (Str.ofString "_law_one") 631), (Value.str (Str.ofString "/claim/cut.py") 632), (Value.int 193 0), (Value.int 2 0), (Value.int 0 0), (Value.int 0 0), (Value.int 3 0), (Value.ref 350), (Value.bool Bool.true), (Value.int 181 0), (Value.ref 351), Value.none, (Value.ref 352), (Value.ref 353), (Value.ref 354), (Value.int 635 0), (Value.int 193 0), (Value.str (Str.ofString "/claim/cut.py") 636)])) (List.toArray []))
noncomputable def hd.o_409 (P : Params) : Obj := (Obj.mk (Value.type "function") none (Data.func (FuncData.mk (Str.ofString "_law_one") (Str.ofString "_law_one") (fnA (st 37)) (FuncBody.stmts (fnB (st 37))) (fnS (st 37)) 3 [] Value.none Value.none Value.none (Value.str (Str.ofString "law_xm0732_01") 610) none (Value.ref 355) Value.none 0)) (List.toArray []))
noncomputable def hd.o_410 (P : Params) : Obj := (Obj.mk (Value.type "tuple") none (Data.seq (List.toArray []) 0) (List.toArray []))
noncomputable def hd.o_411 (P : Params) : Obj := (Obj.mk Value.none none (Data.fields (List.toArray [])) (List.toArray []))
noncomputable def hd.o_412 (P : Params) : Obj := (Obj.mk (Value.type "tuple") none (Data.seq (List.toArray [(Value.str (Str.ofString "top") 641), (Value.str (Str.ofString "bottom") 642), (Value.str (Str.ofString "one") 643), (Value.str (Str.ofString "other") 644)]) 0) (List.toArray []))
noncomputable def hd.o_413 (P : Params) : Obj := (Obj.mk (Value.type "tuple") none (Data.seq (List.toArray []) 0) (List.toArray []))
noncomputable def hd.o_414 (P : Params) : Obj := (Obj.mk Value.none none (Data.func (FuncData.mk (Str.ofString "_law_lowest") (Str.ofString "_law_lowest") (fnA (st 38)) (FuncBody.stmts (fnB (st 38))) (fnS (st 38)) 0 [] Value.none Value.none Value.none Value.none none Value.none Value.none 0)) (List.toArray []))
noncomputable def hd.o_415 (P : Params) : Obj := (Obj.mk (Value.type "code") none (Data.fields (List.toArray [(Value.str (Str.ofString "_law_lowest") 638), (Value.str (Str.ofString "_law_lowest") 639), (Value.str (Str.ofString "/claim/cut.py") 640), (Value.int 195 0), (Value.int 2 0), (Value.int 0 0), (Value.int 0 0), (Value.int 3 0), (Value.ref 357), (Value.bool Bool.true), (Value.int 181 0), (Value.ref 358), Value.none, (Value.ref 359), (Value.ref 360), (Value.ref 361), (Value.int 645 0), (Value.int 195 0), (Value.str (Str.ofString "/claim/cut.py") 646)])) (List.toArray []))
noncomputable def hd.o_416 (P : Params) : Obj := (Obj.mk (Value.type "function") none (Data.func (FuncData.mk (Str.ofString "_law_lowest") (Str.ofString "_law_lowest") (fnA (st 38)) (FuncBody.stmts (fnB (st 38))) (fnS (st 38)) 3 [] Value.none Value.none Value.none (Value.str (Str.ofString "law_xm0732_01") 610) none (Value.ref 362) Value.none 0)) (List.toArray []))
noncomputable def hd.o_417 (P : Params) : Obj := (Obj.mk (Value.type "tuple") none (Data.seq (List.toArray []) 0) (List.toArray []))
noncomputable def hd.o_418 (P : Params) : Obj := (Obj.mk Value.none none (Data.fields (List.toArray [])) (List.toArray []))
noncomputable def hd.o_419 (P : Params) : Obj := (Obj.mk (Value.type "tuple") none (Data.seq (List.toArray [(Value.str (Str.ofString "text") 651), (Value.str (Str.ofString "around") 652), (Value.str (Str.ofString "fault") 653)]) 0) (List.toArray []))
noncomputable def hd.o_420 (P : Params) : Obj := (Obj.mk (Value.type "tuple") none (Data.seq (List.toArray []) 0) (List.toArray []))
noncomputable def hd.o_421 (P : Params) : Obj := (Obj.mk Value.none none (Data.func (FuncData.mk (Str.ofString "_law_answer") (Str.ofString "_law_answer") (fnA (st 39)) (FuncBody.stmts (fnB (st 39))) (fnS (st 39)) 0 [] Value.none Value.none Value.none Value.none none Value.none Value.none 0)) (List.toArray []))
noncomputable def hd.o_422 (P : Params) : Obj := (Obj.mk (Value.type "code") none (Data.fields (List.toArray [(Value.str (Str.ofString "_law_answer") 648), (Value.str (Str.ofString "_law_answer") 649), (Value.str (Str.ofString "/claim/cut.py") 650), (Value.int 200 0), (Value.int 2 0), (Value.int 0 0), (Value.int 0 0), (Value.int 3 0), (Value.ref 364), (Value.bool Bool.true), (Value.int 181 0), (Value.ref 365), Value.none, (Value.ref 366), (Value.ref 367), (Value.ref 368), (Value.int 654 0), (Value.int 200 0), (Value.str (Str.ofString "/claim/cut.py") 655)])) (List.toArray []))
noncomputable def hd.o_423 (P : Params) : Obj := (Obj.mk (Value.type "function") none (Data.func (FuncData.mk (Str.ofString "_law_answer") (Str.ofString "_law_answer") (fnA (st 39)) (FuncBody.stmts (fnB (st 39))) (fnS (st 39)) 3 [] Value.none Value.none Value.none (Value.str (Str.ofString "law_xm0732_01") 610) none (Value.ref 369) Value.none 0)) (List.toArray []))
noncomputable def hd.o_424 (P : Params) : Obj := (Obj.mk (Value.type "tuple") none (Data.seq (List.toArray []) 0) (List.toArray []))
noncomputable def hd.o_425 (P : Params) : Obj := (Obj.mk Value.none none (Data.fields (List.toArray [])) (List.toArray []))
noncomputable def hd.o_426 (P : Params) : Obj := (Obj.mk (Value.type "tuple") none (Data.seq (List.toArray [(Value.str (Str.ofString "top") 660), (Value.str (Str.ofString "bottom") 661), (Value.str (Str.ofString "size") 662), (Value.str (Str.ofString "parts") 663), (Value.str (Str.ofString "rest") 664)]) 0) (List.toArray []))
noncomputable def hd.o_427 (P : Params) : Obj := (Obj.mk (Value.type "tuple") none (Data.seq (List.toArray []) 0) (List.toArray []))
noncomputable def hd.o_428 (P : Params) : Obj := (Obj.mk Value.none none (Data.func (FuncData.mk (Str.ofString "_law_due") (Str.ofString "_law_due") (fnA (st 40)) (FuncBody.stmts (fnB (st 40))) (fnS (st 40)) 0 [] Value.none Value.none Value.none Value.none none Value.none Value.none 0)) (List.toArray []))
noncomputable def hd.o_429 (P : Params) : Obj := (Obj.mk (Value.type "code") none (Data.fields (List.toArray [(Value.str (Str.ofString "_law_due") 657), (Value.str (Str.ofString "_law_due") 658), (Value.str (Str.ofString "/claim/cut.py") 659), (Value.int 205 0), (Value.int 2 0), (Value.int 0 0), (Value.int 0 0), (Value.int 3 0), (Value.ref 371), (Value.bool Bool.true), (Value.int 181 0), (Value.ref 372), Value.none, (Value.ref 373), (Value.ref 374), (Value.ref 375), (Value.int 665 0), (Value.int 205 0), (Value.str (Str.ofString "/claim/cut.py") 666)])) (List.toArray []))
noncomputable def hd.o_430 (P : Params) : Obj := (Obj.mk (Value.type "function") none (Data.func (FuncData.mk (Str.ofString "_law_due") (Str.ofString "_law_due") (fnA (st 40)) (FuncBody.stmts (fnB (st 40))) (fnS (st 40)) 3 [] Value.none Value.none Value.none (Value.str (Str.ofString "law_xm0732_01") 610) none (Value.ref 376) Value.none 0)) (List.toArray []))
noncomputable def hd.o_431 (P : Params) : Obj := (Obj.mk (Value.type "tuple") none (Data.seq (List.toArray []) 0) (List.toArray []))
noncomputable def hd.o_432 (P : Params) : Obj := (Obj.mk Value.none none (Data.fields (List.toArray [])) (List.toArray []))
noncomputable def hd.o_433 (P : Params) : Obj := (Obj.mk (Value.type "tuple") none (Data.seq (List.toArray [(Value.str (Str.ofString "source") 671), (Value.str (Str.ofString "figures") 672), (Value.str (Str.ofString "places") 673), (Value.str (Str.ofString "small") 674), (Value.str (Str.ofString "great") 675), (Value.str (Str.ofString "power") 676), (Value.str (Str.ofString "sign") 677), (Value.str (Str.ofString "digits") 678), (Value.str (Str.ofString "text") 679), (Value.str (Str.ofString "size") 680)]) 0) (List.toArray []))
noncomputable def hd.o_434 (P : Params) : Obj := (Obj.mk (Value.type "tuple") none (Data.seq (List.toArray []) 0) (List.toArray []))
noncomputable def hd.o_435 (P : Params) : Obj := (Obj.mk Value.none none (Data.func (FuncData.mk (Str.ofString "_law_number") (Str.ofString "_law_number") (fnA (st 41)) (FuncBody.stmts (fnB (st 41))) (fnS (st 41)) 0 [] Value.none Value.none Value.none Value.none none Value.none Value.none 0)) (List.toArray []))
noncomputable def hd.o_436 (P : Params) : Obj := (Obj.mk (Value.type "code") none (Data.fields (List.toArray [(Value.str (Str.ofString "_law_number") 668), (Value.str (Str.ofString "_law_number") 669), (Value.str (Str.ofString "/claim/cut.py") 670), (Value.int 215 0), (Value.int 1 0), (Value.int 0 0), (Value.int 0 0), (Value.int 3 0), (Value.ref 378), (Value.bool Bool.true), (Value.int 181 0), (Value.ref 379), Value.none, (Value.ref 380), (Value.ref 381), (Value.ref 382), (Value.int 681 0), (Value.int 215 0), (Value.str (Str.ofString "/claim/cut.py") 682)])) (List.toArray []))
noncomputable def hd.o_437 (P : Params) : Obj := (Obj.mk (Value.type "function") none (Data.func (FuncData.mk (Str.ofString "_law_number") (Str.ofString "_law_number") (fnA (st 41)) (FuncBody.stmts (fnB (st 41))) (fnS (st 41)) 3 [] Value.none Value.none Value.none (Value.str (Str.ofString "law_xm0732_01") 610) none (Value.ref 383) Value.none 0)) (List.toArray []))
noncomputable def hd.o_438 (P : Params) : Obj := (Obj.mk (Value.type "tuple") none (Data.seq (List.toArray []) 0) (List.toArray []))
noncomputable def hd.o_439 (P : Params) : Obj := (Obj.mk Value.none none (Data.fields (List.toArray [])) (List.toArray []))
noncomputable def hd.o_440 (P : Params) : Obj := (Obj.mk (Value.type "tuple") none (Data.seq (List.toArray [(Value.str (Str.ofString "source") 687), (Value.str (Str.ofString "parts") 688), (Value.str (Str.ofString "size") 689), (Value.str (Str.ofString "told") 690)]) 0) (List.toArray []))
noncomputable def hd.o_441 (P : Params) : Obj := (Obj.mk (Value.type "tuple") none (Data.seq (List.toArray []) 0) (List.toArray []))
noncomputable def hd.o_442 (P : Params) : Obj := (Obj.mk Value.none none (Data.func (FuncData.mk (Str.ofString "_law_around") (Str.ofString "_law_around") (fnA (st 42)) (FuncBody.stmts (fnB (st 42))) (fnS (st 42)) 0 [] Value.none Value.none Value.none Value.none none Value.none Value.none 0)) (List.toArray []))
noncomputable def hd.o_443 (P : Params) : Obj := (Obj.mk (Value.type "code") none (Data.fields (List.toArray [(Value.str (Str.ofString "_law_around") 684), (Value.str (Str.ofString "_law_around") 685), (Value.str (Str.ofString "/claim/cut.py") 686), (Value.int 226 0), (Value.int 1 0), (Value.int 0 0), (Value.int 0 0), (Value.int 3 0), (Value.ref 385), (Value.bool Bool.true), (Value.int 181 0), (Value.ref 386), Value.none, (Value.ref 387), (Value.ref 388), (Value.ref 389), (Value.int 691 0), (Value.int 226 0), (Value.str (Str.ofString "/claim/cut.py") 692)])) (List.toArray []))
noncomputable def hd.o_444 (P : Params) : Obj := (Obj.mk (Value.type "function") none (Data.func (FuncData.mk (Str.ofString "_law_around") (Str.ofString "_law_around") (fnA (st 42)) (FuncBody.stmts (fnB (st 42))) (fnS (st 42)) 3 [] Value.none Value.none Value.none (Value.str (Str.ofString "law_xm0732_01") 610) none (Value.ref 390) Value.none 0)) (List.toArray []))
noncomputable def hd.o_445 (P : Params) : Obj := (Obj.mk (Value.type "tuple") none (Data.seq (List.toArray []) 0) (List.toArray []))
noncomputable def hd.o_446 (P : Params) : Obj := (Obj.mk Value.none none (Data.fields (List.toArray [])) (List.toArray []))
noncomputable def hd.o_447 (P : Params) : Obj := (Obj.mk (Value.type "tuple") none (Data.seq (List.toArray [(Value.str (Str.ofString "source") 697)]) 0) (List.toArray []))
noncomputable def hd.o_448 (P : Params) : Obj := (Obj.mk (Value.type "tuple") none (Data.seq (List.toArray []) 0) (List.toArray []))
noncomputable def hd.o_449 (P : Params) : Obj := (Obj.mk Value.none none (Data.func (FuncData.mk (Str.ofString "_law_unit") (Str.ofString "_law_unit") (fnA (st 43)) (FuncBody.stmts (fnB (st 43))) (fnS (st 43)) 0 [] Value.none Value.none Value.none Value.none none Value.none Value.none 0)) (List.toArray []))
noncomputable def hd.o_450 (P : Params) : Obj := (Obj.mk (Value.type "code") none (Data.fields (List.toArray [(Value.str (Str.ofString "_law_unit") 694), (Value.str (Str.ofString "_law_unit") 695), (Value.str (Str.ofString "/claim/cut.py") 696), (Value.int 231 0), (Value.int 1 0), (Value.int 0 0), (Value.int 0 0), (Value.int 3 0), (Value.ref 392), (Value.bool Bool.true), (Value.int 181 0), (Value.ref 393), Value.none, (Value.ref 394), (Value.ref 395), (Value.ref 396), (Value.int 698 0), (Value.int 231 0), (Value.str (Str.ofString "/claim/cut.py") 699)])) (List.toArray []))
noncomputable def hd.o_451 (P : Params) : Obj := (Obj.mk (Value.type "function") none (Data.func (FuncData.mk (Str.ofString "_law_unit") (Str.ofString "_law_unit") (fnA (st 43)) (FuncBody.stmts (fnB (st 43))) (fnS (st 43)) 3 [] Value.none Value.none Value.none (Value.str (Str.ofString "law_xm0732_01") 610) none (Value.ref 397) Value.none 0)) (List.toArray []))
noncomputable def hd.o_452 (P : Params) : Obj := (Obj.mk (Value.type "tuple") none (Data.seq (List.toArray []) 0) (List.toArray []))
noncomputable def hd.o_453 (P : Params) : Obj := (Obj.mk Value.none none (Data.fields (List.toArray [])) (List.toArray []))
noncomputable def hd.o_454 (P : Params) : Obj := (Obj.mk (Value.type "tuple") none (Data.seq (List.toArray [(Value.str (Str.ofString "source") 704), (Value.str (Str.ofString "text") 705), (Value.str (Str.ofString "top") 706), (Value.str (Str.ofString "bottom") 707), (Value.str (Str.ofString "unit") 708), (Value.str (Str.ofString "many") 709), (Value.str (Str.ofString "parts") 710), (Value.str (Str.ofString "around") 711), (Value.str (Str.ofString "size") 712), (Value.str (Str.ofString "gap") 713)]) 0) (List.toArray []))
noncomputable def hd.o_455 (P : Params) : Obj := (Obj.mk (Value.type "tuple") none (Data.seq (List.toArray []) 0) (List.toArray []))
noncomputable def hd.o_456 (P : Params) : Obj := (Obj.mk Value.none none (Data.func (FuncData.mk (Str.ofString "_law_is_right") (Str.ofString "_law_is_right") (fnA (st 44)) (FuncBody.stmts (fnB (st 44))) (fnS (st 44)) 0 [] Value.none Value.none Value.none Value.none none Value.none Value.none 0)) (List.toArray []))
noncomputable def hd.o_457 (P : Params) : Obj := (Obj.mk (Value.type "code") none (Data.fields (List.toArray [(Value.str (Str.ofString "_law_is_right") 701), (Value.str (Str.ofString "_law_is_right") 702), (Value.str (Str.ofString "/claim/cut.py") 703), (Value.int 233 0), (Value.int 1 0), (Value.int 0 0), (Value.int 0 0), (Value.int 3 0), (Value.ref 399), (Value.bool Bool.true), (Value.int 181 0), (Value.ref 400), Value.none, (Value.ref 401), (Value.ref 402), (Value.ref 403), (Value.int 714 0), (Value.int 233 0), (Value.str (Str.ofString "/claim/cut.py") 715)])) (List.toArray []))
noncomputable def hd.o_458 (P : Params) : Obj := (Obj.mk (Value.type "function") none (Data.func (FuncData.mk (Str.ofString "_law_is_right") (Str.ofString "_law_is_right") (fnA (st 44)) (FuncBody.stmts (fnB (st 44))) (fnS (st 44)) 3 [] Value.none Value.none Value.none (Value.str (Str.ofString "law_xm0732_01") 610) none (Value.ref 404) Value.none 0)) (List.toArray []))
noncomputable def hd.o_459 (P : Params) : Obj := (Obj.mk (Value.type "dict") none (Data.dict (List.toArray ((DictEntry.mk (PyData.keyHash P (Str.ofString "__name__")) (Value.str (Str.ofString "__name__") 165) (Value.str (Str.ofString "law_xm0732_01") 610)) :: (DictEntry.mk (PyData.keyHash P (Str.ofString "__doc__")) (Value.str (Str.ofString "__doc__") 166) Value.none) :: (DictEntry.mk (PyData.keyHash P (Str.ofString "__package__")) (Value.str (Str.ofString "__package__") 167) Value.none) :: (DictEntry.mk (PyData.keyHash P (Str.ofString "__loader__")) (Value.str (Str.ofString "__loader__") 168) (Value.builtin "__main__.__loader__#opaque")) :: (DictEntry.mk (PyData.keyHash P (Str.ofString "__spec__")) (Value.str (Str.ofString "__spec__") 169) Value.none) :: (DictEntry.mk (PyData.keyHash P (Str.ofString "__annotations__")) (Value.str (Str.ofString "__annotations__") 170) (Value.ref 6)) :: (DictEntry.mk (PyData.keyHash P (Str.ofString "__builtins__")) (Value.str (Str.ofString "__builtins__") 171) (Value.ref 4)) :: (DictEntry.mk (PyData.keyHash P (Str.ofString "__file__")) (Value.str (Str.ofString "__file__") 173) (Value.str (Str.ofString "/claim/cut.py") 172)) :: (DictEntry.mk (PyData.keyHash P (Str.ofString "__cached__")) (Value.str (Str.ofString "__cached__") 174) Value.none) :: (DictEntry.mk (PyData.keyHash P (Str.ofString "_wall")) (Value.str (Str.ofString "_wall") 193) (Value.ref 21)) :: (DictEntry.mk (PyData.keyHash P (Str.ofString "MillError")) (Value.str (Str.ofString "MillError") 224) (Value.ref 38)) :: (DictEntry.mk (PyData.keyHash P (Str.ofString "NumberFault")) (Value.str (Str.ofString "NumberFault") 240) (Value.ref 51)) :: (DictEntry.mk (PyData.keyHash P (Str.ofString "SheetFault")) (Value.str (Str.ofString "SheetFault") 256) (Value.ref 63)) :: (DictEntry.mk (PyData.keyHash P (Str.ofString "ZERO")) (Value.str (Str.ofString "ZERO") 261) (Value.ref 66)) :: (DictEntry.mk (PyData.keyHash P (Str.ofString "DIGITS")) (Value.str (Str.ofString "DIGITS") 263) (Value.str (Str.ofString "0123456789") 262)) :: (DictEntry.mk (PyData.keyHash P (Str.ofString "MOST_EXPONENT")) (Value.str (Str.ofString "MOST_EXPONENT") 265) (Value.int 300 264)) :: (DictEntry.mk (PyData.keyHash P (Str.ofString "MOST_FIGURES")) (Value.str (Str.ofString "MOST_FIGURES") 267) (Value.int 60 266)) :: (DictEntry.mk (PyData.keyHash P (Str.ofString "MOST_VALUE")) (Value.str (Str.ofString "MOST_VALUE") 271) (Value.int 1000000000000000000000000000000000000000000000000000000000000 270)) :: (DictEntry.mk (PyData.keyHash P (Str.ofString "common_divisor")) (Value.str (Str.ofString "common_divisor") 281) (Value.ref 73)) :: (DictEntry.mk (PyData.keyHash P (Str.ofString "fraction")) (Value.str (Str.ofString "fraction") 291) (Value.ref 81)) :: (DictEntry.mk (PyData.keyHash P (Str.ofString "times")) (Value.str (Str.ofString "times") 299) (Value.ref 88)) :: (DictEntry.mk (PyData.keyHash P (Str.ofString "divided")) (Value.str (Str.ofString "divided") 307) (Value.ref 95)) :: (DictEntry.mk (PyData.keyHash P (Str.ofString "sign_of")) (Value.str (Str.ofString "sign_of") 314) (Value.ref 102)) :: (DictEntry.mk (PyData.keyHash P (Str.ofString "compare")) (Value.str (Str.ofString "compare") 322) (Value.ref 109)) :: (DictEntry.mk (PyData.keyHash P (Str.ofString "rounded")) (Value.str (Str.ofString "rounded") 329) (Value.ref 116)) :: (DictEntry.mk (PyData.keyHash P (Str.ofString "NumberText")) (Value.str (Str.ofString "NumberText") 383) (Value.ref 154)) :: (DictEntry.mk (PyData.keyHash P (Str.ofString "whole_of")) (Value.str (Str.ofString "whole_of") 392) (Value.ref 165)) :: (DictEntry.mk (PyData.keyHash P (Str.ofString "read_exponent")) (Value.str (Str.ofString "read_exponent") 401) (Value.ref 172)) :: (DictEntry.mk (PyData.keyHash P (Str.ofString "read_decimal")) (Value.str (Str.ofString "read_decimal") 415) (Value.ref 179)) :: (DictEntry.mk (PyData.keyHash P (Str.ofString "HUNDRED")) (Value.str (Str.ofString "HUNDRED") 420) (Value.ref 180)) :: (DictEntry.mk (PyData.keyHash P (Str.ofString "MOST_SIZE")) (Value.str (Str.ofString "MOST_SIZE") 424) (Value.int 100000000000000000000000000000000000000000000000000 423)) :: (DictEntry.mk (PyData.keyHash P (Str.ofString "handed_down")) (Value.str (Str.ofString "handed_down") 430) (Value.ref 187)) :: (DictEntry.mk (PyData.keyHash P (Str.ofString "not_handed_down")) (Value.str (Str.ofString "not_handed_down") 436) (Value.ref 194)) :: (DictEntry.mk (PyData.keyHash P (Str.ofString "unit_of")) (Value.str (Str.ofString "unit_of") 444) (Value.ref 201)) :: (DictEntry.mk (PyData.keyHash P (Str.ofString "length")) (Value.str (Str.ofString "length") 459) (Value.ref 210)) :: (DictEntry.mk (PyData.keyHash P (Str.ofString "length_styles")) (Value.str (Str.ofString "length_styles") 460) (Value.ref 210)) :: (DictEntry.mk (PyData.keyHash P (Str.ofString "bounded")) (Value.str (Str.ofString "bounded") 467) (Value.ref 217)) :: (DictEntry.mk (PyData.keyHash P (Str.ofString "Look")) (Value.str (Str.ofString "Look") 593) (Value.ref 317)) :: (DictEntry.mk (PyData.keyHash P (Str.ofString "first_look")) (Value.str (Str.ofString "first_look") 600) (Value.ref 328)) :: (DictEntry.mk (PyData.keyHash P (Str.ofString "own_font_size")) (Value.str (Str.ofString "own_font_size") 609) (Value.ref 335)) :: (DictEntry.mk (PyData.keyHash P (Str.ofString "_law_pool")) (Value.str (Str.ofString "_law_pool") 620) (Value.ref 342)) :: (DictEntry.mk (PyData.keyHash P (Str.ofString "_law_take")) (Value.str (Str.ofString "_law_take") 629) (Value.ref 349)) :: (DictEntry.mk (PyData.keyHash P (Str.ofString "_law_one")) (Value.str (Str.ofString "_law_one") 637) (Value.ref 356)) :: (DictEntry.mk (PyData.keyHash P (Str.ofString "_law_lowest")) (Value.str (Str.ofString "_law_lowest") 647) (Value.ref 363)) :: (DictEntry.mk (PyData.keyHash P (Str.ofString "_law_answer")) (Value.str (Str.ofString "_law_answer") 656) (Value.ref 370)) :: (DictEntry.mk (PyData.keyHash P (Str.ofString "_law_due")) (Value.str (Str.ofString "_law_due") 667) (Value.ref 377)) :: (DictEntry.mk (PyData.keyHash P (Str.ofString "_law_number")) (Value.str (Str.ofString "_law_number") 683) (Value.ref 384)) :: (DictEntry.mk (PyData.keyHash P (Str.ofString "_law_around")) (Value.str (Str.ofString "_law_around") 693) (Value.ref 391)) :: (DictEntry.mk (PyData.keyHash P (Str.ofString "_law_unit")) (Value.str (Str.ofString "_law_unit") 700) (Value.ref 398)) :: (DictEntry.mk (PyData.keyHash P (Str.ofString "_law_is_right")) (Value.str (Str.ofString "_law_is_right") 716) (Value.ref 405)) :: (DictEntry.mk (PyData.keyHash P (Str.ofString "law")) (Value.str (Str.ofString "law") 726) (Value.ref 412)) :: [])) 51) (List.toArray []))
noncomputable def hd.o_460 (P : Params) : Obj := (Obj.mk Value.none none (Data.fields (List.toArray ((Value.int 1 0) :: (Value.int 0 0) :: (Value.ref 20) :: (Value.int 5 0) :: (Value.int 0 0) :: (Value.ref 27) :: (Value.int 9 0) :: (Value.int 0 0) :: (Value.ref 47) :: (Value.int 11 0) :: (Value.int 0 0) :: (Value.ref 59) :: (Value.int 19 0) :: (Value.int 0 0) :: (Value.ref 72) :: (Value.int 24 0) :: (Value.int 0 0) :: (Value.ref 80) :: (Value.int 31 0) :: (Value.int 0 0) :: (Value.ref 87) :: (Value.int 33 0) :: (Value.int 0 0) :: (Value.ref 94) :: (Value.int 37 0) :: (Value.int 0 0) :: (Value.ref 101) :: (Value.int 43 0) :: (Value.int 0 0) :: (Value.ref 108) :: (Value.int 45 0) :: (Value.int 0 0) :: (Value.ref 115) :: (Value.int 47 0) :: (Value.int 0 0) :: (Value.ref 122) :: (Value.int 67 0) :: (Value.int 0 0) :: (Value.ref 164) :: (Value.int 72 0) :: (Value.int 0 0) :: (Value.ref 171) :: (Value.int 79 0) :: (Value.int 0 0) :: (Value.ref 178) :: (Value.int 98 0) :: (Value.int 0 0) :: (Value.ref 186) :: (Value.int 100 0) :: (Value.int 0 0) :: (Value.ref 193) :: (Value.int 102 0) :: (Value.int 0 0) :: (Value.ref 200) :: (Value.int 108 0) :: (Value.int 0 0) :: (Value.ref 209) :: (Value.int 121 0) :: (Value.int 0 0) :: (Value.ref 216) :: (Value.int 125 0) :: (Value.int 0 0) :: (Value.ref 223) :: (Value.int 170 0) :: (Value.int 0 0) :: (Value.ref 327) :: (Value.int 174 0) :: (Value.int 0 0) :: (Value.ref 334) :: (Value.int 182 0) :: (Value.int 0 0) :: (Value.ref 341) :: (Value.int 186 0) :: (Value.int 0 0) :: (Value.ref 348) :: (Value.int 193 0) :: (Value.int 0 0) :: (Value.ref 355) :: (Value.int 195 0) :: (Value.int 0 0) :: (Value.ref 362) :: (Value.int 200 0) :: (Value.int 0 0) :: (Value.ref 369) :: (Value.int 205 0) :: (Value.int 0 0) :: (Value.ref 376) :: (Value.int 215 0) :: (Value.int 0 0) :: (Value.ref 383) :: (Value.int 226 0) :: (Value.int 0 0) :: (Value.ref 390) :: (Value.int 231 0) :: (Value.int 0 0) :: (Value.ref 397) :: (Value.int 233 0) :: (Value.int 0 0) :: (Value.ref 404) :: (Value.int 243 0) :: (Value.int 0 0) :: (Value.ref 411) :: []))) (List.toArray []))
noncomputable def hd.o_461 (P : Params) : Obj := (Obj.mk (Value.type "tuple") none (Data.seq (List.toArray []) 0) (List.toArray []))
noncomputable def hd.o_462 (P : Params) : Obj := (Obj.mk Value.none none (Data.fields (List.toArray [])) (List.toArray []))
noncomputable def hd.o_463 (P : Params) : Obj := (Obj.mk (Value.type "tuple") none (Data.seq (List.toArray [(Value.str (Str.ofString "script") 720), (Value.str (Str.ofString "source") 721), (Value.str (Str.ofString "none") 722), (Value.str (Str.ofString "wrong") 723)]) 0) (List.toArray []))
noncomputable def hd.o_464 (P : Params) : Obj := (Obj.mk (Value.type "tuple") none (Data.seq (List.toArray []) 0) (List.toArray []))
noncomputable def hd.o_465 (P : Params) : Obj := (Obj.mk Value.none none (Data.func (FuncData.mk (Str.ofString "law") (Str.ofString "law") (fnA (st 45)) (FuncBody.stmts (fnB (st 45))) (fnS (st 45)) 0 [] Value.none Value.none Value.none Value.none none Value.none Value.none 0)) (List.toArray []))
noncomputable def hd.o_466 (P : Params) : Obj := (Obj.mk (Value.type "code") none (Data.fields (List.toArray [(Value.str (Str.ofString "law") 717), (Value.str (Str.ofString "law") 718), (Value.str (Str.ofString "/claim/cut.py") 719), (Value.int 243 0), (Value.int 1 0), (Value.int 0 0), (Value.int 0 0), (Value.int 3 0), (Value.ref 406), (Value.bool Bool.true), (Value.int 181 0), (Value.ref 407), Value.none, (Value.ref 408), (Value.ref 409), (Value.ref 410), (Value.int 724 0), (Value.int 243 0), (Value.str (Str.ofString "/claim/cut.py") 725)])) (List.toArray []))
noncomputable def hd.o_467 (P : Params) : Obj := (Obj.mk (Value.type "function") none (Data.func (FuncData.mk (Str.ofString "law") (Str.ofString "law") (fnA (st 45)) (FuncBody.stmts (fnB (st 45))) (fnS (st 45)) 3 [] Value.none Value.none Value.none (Value.str (Str.ofString "law_xm0732_01") 610) none (Value.ref 411) Value.none 0)) (List.toArray []))
noncomputable def hd.tree_47 (P : Params) : BT := (BT.node (boot_o_0 P) (BT.node (boot_o_1 P) (BT.node (boot_o_3 P) (BT.node (boot_o_7 P) BT.nil BT.nil) (BT.node (hd.o_43 P) BT.nil BT.nil)) (BT.node (boot_o_5 P) (BT.node (boot_o_9 P) BT.nil BT.nil) (BT.node (hd.o_45 P) BT.nil BT.nil))) (BT.node (boot_o_2 P) (BT.node (boot_o_4 P) (BT.node (boot_o_8 P) BT.nil BT.nil) (BT.node (hd.o_44 P) BT.nil BT.nil)) (BT.node (boot_o_6 P) (BT.node (boot_o_10 P) BT.nil BT.nil) (BT.node (hd.o_46 P) BT.nil BT.nil))))
noncomputable def hd.heap_46 (P : Params) : Heap := (Heap.mk (Array.mk [(boot_o_0 P), (boot_o_1 P), (boot_o_2 P), (boot_o_3 P), (boot_o_4 P), (boot_o_5 P), (boot_o_6 P), (boot_o_7 P), (boot_o_8 P), (boot_o_9 P), (boot_o_10 P), (hd.o_43 P), (hd.o_44 P), (hd.o_45 P), (hd.o_46 P)]) (Life.mk [] [] [] 0 [] [] Bool.false (List.toArray []) [] 0 Bool.false Bool.false Bool.false 0 [2000, 10, 10] Bool.false 0 Bool.true [] [] 0 Bool.false))
noncomputable def hd.tree_93 (P : Params) : BT := (BT.node (boot_o_0 P) (BT.node (boot_o_1 P) (BT.node (hd.o_79 P) (BT.node (boot_o_7 P) (BT.node (hd.o_52 P) (BT.node (hd.o_68 P) BT.nil BT.nil) (BT.node (hd.o_87 P) BT.nil BT.nil)) (BT.node (hd.o_60 P) (BT.node (hd.o_76 P) BT.nil BT.nil) BT.nil)) (BT.node (hd.o_43 P) (BT.node (hd.o_56 P) (BT.node (hd.o_72 P) BT.nil BT.nil) (BT.node (hd.o_91 P) BT.nil BT.nil)) (BT.node (hd.o_64 P) (BT.node (hd.o_83 P) BT.nil BT.nil) BT.nil))) (BT.node (boot_o_5 P) (BT.node (boot_o_9 P) (BT.node (hd.o_54 P) (BT.node (hd.o_70 P) BT.nil BT.nil) (BT.node (hd.o_89 P) BT.nil BT.nil)) (BT.node (hd.o_62 P) (BT.node (hd.o_78 P) BT.nil BT.nil) BT.nil)) (BT.node (hd.o_45 P) (BT.node (hd.o_58 P) (BT.node (hd.o_74 P) BT.nil BT.nil) (BT.node (hd.o_93 P) BT.nil BT.nil)) (BT.node (hd.o_66 P) (BT.node (hd.o_85 P) BT.nil BT.nil) BT.nil)))) (BT.node (hd.o_49 P) (BT.node (boot_o_4 P) (BT.node (boot_o_8 P) (BT.node (hd.o_53 P) (BT.node (hd.o_69 P) BT.nil BT.nil) (BT.node (hd.o_88 P) BT.nil BT.nil)) (BT.node (hd.o_61 P) (BT.node (hd.o_77 P) BT.nil BT.nil) BT.nil)) (BT.node (hd.o_80 P) (BT.node (hd.o_57 P) (BT.node (hd.o_73 P) BT.nil BT.nil) (BT.node (hd.o_92 P) BT.nil BT.nil)) (BT.node (hd.o_65 P) (BT.node (hd.o_84 P) BT.nil BT.nil) BT.nil))) (BT.node (boot_o_6 P) (BT.node (boot_o_10 P) (BT.node (hd.o_55 P) (BT.node (hd.o_71 P) BT.nil BT.nil) (BT.node (hd.o_90 P) BT.nil BT.nil)) (BT.node (hd.o_63 P) (BT.node (hd.o_82 P) BT.nil BT.nil) BT.nil)) (BT.node (hd.o_46 P) (BT.node (hd.o_59 P) (BT.node (hd.o_81 P) BT.nil BT.nil) BT.nil) (BT.node (hd.o_67 P) (BT.node (hd.o_86 P) BT.nil BT.nil) BT.nil)))))
noncomputable def hd.tree_131 (P : Params) : BT := (BT.node (boot_o_0 P) (BT.node (boot_o_1 P) (BT.node (hd.o_94 P) (BT.node (boot_o_7 P) (BT.node (hd.o_52 P) (BT.node (hd.o_68 P) (BT.node (hd.o_106 P) BT.nil BT.nil) BT.nil) (BT.node (hd.o_87 P) (BT.node (hd.o_122 P) BT.nil BT.nil) BT.nil)) (BT.node (hd.o_60 P) (BT.node (hd.o_76 P) (BT.node (hd.o_114 P) BT.nil BT.nil) BT.nil) (BT.node (hd.o_98 P) (BT.node (hd.o_130 P) BT.nil BT.nil) BT.nil))) (BT.node (hd.o_43 P) (BT.node (hd.o_56 P) (BT.node (hd.o_72 P) (BT.node (hd.o_110 P) BT.nil BT.nil) BT.nil) (BT.node (hd.o_91 P) (BT.node (hd.o_126 P) BT.nil BT.nil) BT.nil)) (BT.node (hd.o_64 P) (BT.node (hd.o_83 P) (BT.node (hd.o_118 P) BT.nil BT.nil) BT.nil) (BT.node (hd.o_102 P) BT.nil BT.nil)))) (BT.node (boot_o_5 P) (BT.node (boot_o_9 P) (BT.node (hd.o_54 P) (BT.node (hd.o_70 P) (BT.node (hd.o_108 P) BT.nil BT.nil) BT.nil) (BT.node (hd.o_89 P) (BT.node (hd.o_124 P) BT.nil BT.nil) BT.nil)) (BT.node (hd.o_62 P) (BT.node (hd.o_78 P) (BT.node (hd.o_116 P) BT.nil BT.nil) BT.nil) (BT.node (hd.o_100 P) BT.nil BT.nil))) (BT.node (hd.o_45 P) (BT.node (hd.o_58 P) (BT.node (hd.o_74 P) (BT.node (hd.o_112 P) BT.nil BT.nil) BT.nil) (BT.node (hd.o_93 P) (BT.node (hd.o_128 P) BT.nil BT.nil) BT.nil)) (BT.node (hd.o_66 P) (BT.node (hd.o_85 P) (BT.node (hd.o_120 P) BT.nil BT.nil) BT.nil) (BT.node (hd.o_104 P) BT.nil BT.nil))))) (BT.node (hd.o_49 P) (BT.node (boot_o_4 P) (BT.node (boot_o_8 P) (BT.node (hd.o_53 P) (BT.node (hd.o_69 P) (BT.node (hd.o_107 P) BT.nil BT.nil) BT.nil) (BT.node (hd.o_88 P) (BT.node (hd.o_123 P) BT.nil BT.nil) BT.nil)) (BT.node (hd.o_61 P) (BT.node (hd.o_77 P) (BT.node (hd.o_115 P) BT.nil BT.nil) BT.nil) (BT.node (hd.o_99 P) (BT.node (hd.o_131 P) BT.nil BT.nil) BT.nil))) (BT.node (hd.o_95 P) (BT.node (hd.o_57 P) (BT.node (hd.o_73 P) (BT.node (hd.o_111 P) BT.nil BT.nil) BT.nil) (BT.node (hd.o_92 P) (BT.node (hd.o_127 P) BT.nil BT.nil) BT.nil)) (BT.node (hd.o_65 P) (BT.node (hd.o_84 P) (BT.node (hd.o_119 P) BT.nil BT.nil) BT.nil) (BT.node (hd.o_103 P) BT.nil BT.nil)))) (BT.node (boot_o_6 P) (BT.node (boot_o_10 P) (BT.node (hd.o_55 P) (BT.node (hd.o_71 P) (BT.node (hd.o_109 P) BT.nil BT.nil) BT.nil) (BT.node (hd.o_90 P) (BT.node (hd.o_125 P) BT.nil BT.nil) BT.nil)) (BT.node (hd.o_63 P) (BT.node (hd.o_82 P) (BT.node (hd.o_117 P) BT.nil BT.nil) BT.nil) (BT.node (hd.o_101 P) BT.nil BT.nil))) (BT.node (hd.o_46 P) (BT.node (hd.o_59 P) (BT.node (hd.o_96 P) (BT.node (hd.o_113 P) BT.nil BT.nil) BT.nil) (BT.node (hd.o_97 P) (BT.node (hd.o_129 P) BT.nil BT.nil) BT.nil)) (BT.node (hd.o_67 P) (BT.node (hd.o_86 P) (BT.node (hd.o_121 P) BT.nil BT.nil) BT.nil) (BT.node (hd.o_105 P) BT.nil BT.nil))))))
noncomputable def hd.tree_219 (P : Params) : BT := (BT.node (boot_o_0 P) (BT.node (boot_o_1 P) (BT.node (hd.o_162 P) (BT.node (boot_o_7 P) (BT.node (hd.o_52 P) (BT.node (hd.o_68 P) (BT.node (hd.o_106 P) (BT.node (hd.o_174 P) BT.nil BT.nil) BT.nil) (BT.node (hd.o_140 P) (BT.node (hd.o_206 P) BT.nil BT.nil) BT.nil)) (BT.node (hd.o_87 P) (BT.node (hd.o_122 P) (BT.node (hd.o_190 P) BT.nil BT.nil) BT.nil) (BT.node (hd.o_156 P) BT.nil BT.nil))) (BT.node (hd.o_60 P) (BT.node (hd.o_76 P) (BT.node (hd.o_114 P) (BT.node (hd.o_182 P) BT.nil BT.nil) BT.nil) (BT.node (hd.o_148 P) (BT.node (hd.o_214 P) BT.nil BT.nil) BT.nil)) (BT.node (hd.o_98 P) (BT.node (hd.o_130 P) (BT.node (hd.o_198 P) BT.nil BT.nil) BT.nil) (BT.node (hd.o_166 P) BT.nil BT.nil)))) (BT.node (hd.o_43 P) (BT.node (hd.o_56 P) (BT.node (hd.o_72 P) (BT.node (hd.o_110 P) (BT.node (hd.o_178 P) BT.nil BT.nil) BT.nil) (BT.node (hd.o_144 P) (BT.node (hd.o_210 P) BT.nil BT.nil) BT.nil)) (BT.node (hd.o_91 P) (BT.node (hd.o_126 P) (BT.node (hd.o_194 P) BT.nil BT.nil) BT.nil) (BT.node (hd.o_160 P) BT.nil BT.nil))) (BT.node (hd.o_64 P) (BT.node (hd.o_83 P) (BT.node (hd.o_118 P) (BT.node (hd.o_186 P) BT.nil BT.nil) BT.nil) (BT.node (hd.o_152 P) (BT.node (hd.o_218 P) BT.nil BT.nil) BT.nil)) (BT.node (hd.o_102 P) (BT.node (hd.o_136 P) (BT.node (hd.o_202 P) BT.nil BT.nil) BT.nil) (BT.node (hd.o_170 P) BT.nil BT.nil))))) (BT.node (boot_o_5 P) (BT.node (boot_o_9 P) (BT.node (hd.o_54 P) (BT.node (hd.o_70 P) (BT.node (hd.o_108 P) (BT.node (hd.o_176 P) BT.nil BT.nil) BT.nil) (BT.node (hd.o_142 P) (BT.node (hd.o_208 P) BT.nil BT.nil) BT.nil)) (BT.node (hd.o_89 P) (BT.node (hd.o_124 P) (BT.node (hd.o_192 P) BT.nil BT.nil) BT.nil) (BT.node (hd.o_158 P) BT.nil BT.nil))) (BT.node (hd.o_62 P) (BT.node (hd.o_78 P) (BT.node (hd.o_116 P) (BT.node (hd.o_184 P) BT.nil BT.nil) BT.nil) (BT.node (hd.o_150 P) (BT.node (hd.o_216 P) BT.nil BT.nil) BT.nil)) (BT.node (hd.o_100 P) (BT.node (hd.o_134 P) (BT.node (hd.o_200 P) BT.nil BT.nil) BT.nil) (BT.node (hd.o_168 P) BT.nil BT.nil)))) (BT.node (hd.o_45 P) (BT.node (hd.o_58 P) (BT.node (hd.o_74 P) (BT.node (hd.o_112 P) (BT.node (hd.o_180 P) BT.nil BT.nil) BT.nil) (BT.node (hd.o_146 P) (BT.node (hd.o_212 P) BT.nil BT.nil) BT.nil)) (BT.node (hd.o_93 P) (BT.node (hd.o_128 P) (BT.node (hd.o_196 P) BT.nil BT.nil) BT.nil) (BT.node (hd.o_164 P) BT.nil BT.nil))) (BT.node (hd.o_66 P) (BT.node (hd.o_85 P) (BT.node (hd.o_120 P) (BT.node (hd.o_188 P) BT.nil BT.nil) BT.nil) (BT.node (hd.o_154 P) BT.nil BT.nil)) (BT.node (hd.o_104 P) (BT.node (hd.o_138 P) (BT.node (hd.o_204 P) BT.nil BT.nil) BT.nil) (BT.node (hd.o_172 P) BT.nil BT.nil)))))) (BT.node (hd.o_49 P) (BT.node (boot_o_4 P) (BT.node (boot_o_8 P) (BT.node (hd.o_53 P) (BT.node (hd.o_69 P) (BT.node (hd.o_107 P) (BT.node (hd.o_175 P) BT.nil BT.nil) BT.nil) (BT.node (hd.o_141 P) (BT.node (hd.o_207 P) BT.nil BT.nil) BT.nil)) (BT.node (hd.o_88 P) (BT.node (hd.o_123 P) (BT.node (hd.o_191 P) BT.nil BT.nil) BT.nil) (BT.node (hd.o_157 P) BT.nil BT.nil))) (BT.node (hd.o_61 P) (BT.node (hd.o_77 P) (BT.node (hd.o_115 P) (BT.node (hd.o_183 P) BT.nil BT.nil) BT.nil) (BT.node (hd.o_149 P) (BT.node (hd.o_215 P) BT.nil BT.nil) BT.nil)) (BT.node (hd.o_99 P) (BT.node (hd.o_131 P) (BT.node (hd.o_199 P) BT.nil BT.nil) BT.nil) (BT.node (hd.o_167 P) BT.nil BT.nil)))) (BT.node (hd.o_163 P) (BT.node (hd.o_57 P) (BT.node (hd.o_73 P) (BT.node (hd.o_111 P) (BT.node (hd.o_179 P) BT.nil BT.nil) BT.nil) (BT.node (hd.o_145 P) (BT.node (hd.o_211 P) BT.nil BT.nil) BT.nil)) (BT.node (hd.o_92 P) (BT.node (hd.o_127 P) (BT.node (hd.o_195 P) BT.nil BT.nil) BT.nil) (BT.node (hd.o_161 P) BT.nil BT.nil))) (BT.node (hd.o_65 P) (BT.node (hd.o_84 P) (BT.node (hd.o_119 P) (BT.node (hd.o_187 P) BT.nil BT.nil) BT.nil) (BT.node (hd.o_153 P) (BT.node (hd.o_219 P) BT.nil BT.nil) BT.nil)) (BT.node (hd.o_103 P) (BT.node (hd.o_137 P) (BT.node (hd.o_203 P) BT.nil BT.nil) BT.nil) (BT.node (hd.o_171 P) BT.nil BT.nil))))) (BT.node (boot_o_6 P) (BT.node (boot_o_10 P) (BT.node (hd.o_55 P) (BT.node (hd.o_71 P) (BT.node (hd.o_109 P) (BT.node (hd.o_177 P) BT.nil BT.nil) BT.nil) (BT.node (hd.o_143 P) (BT.node (hd.o_209 P) BT.nil BT.nil) BT.nil)) (BT.node (hd.o_90 P) (BT.node (hd.o_125 P) (BT.node (hd.o_193 P) BT.nil BT.nil) BT.nil) (BT.node (hd.o_159 P) BT.nil BT.nil))) (BT.node (hd.o_63 P) (BT.node (hd.o_82 P) (BT.node (hd.o_117 P) (BT.node (hd.o_185 P) BT.nil BT.nil) BT.nil) (BT.node (hd.o_151 P) (BT.node (hd.o_217 P) BT.nil BT.nil) BT.nil)) (BT.node (hd.o_101 P) (BT.node (hd.o_135 P) (BT.node (hd.o_201 P) BT.nil BT.nil) BT.nil) (BT.node (hd.o_169 P) BT.nil BT.nil)))) (BT.node (hd.o_46 P) (BT.node (hd.o_59 P) (BT.node (hd.o_96 P) (BT.node (hd.o_113 P) (BT.node (hd.o_181 P) BT.nil BT.nil) BT.nil) (BT.node (hd.o_147 P) (BT.node (hd.o_213 P) BT.nil BT.nil) BT.nil)) (BT.node (hd.o_97 P) (BT.node (hd.o_129 P) (BT.node (hd.o_197 P) BT.nil BT.nil) BT.nil) (BT.node (hd.o_165 P) BT.nil BT.nil))) (BT.node (hd.o_67 P) (BT.node (hd.o_86 P) (BT.node (hd.o_121 P) (BT.node (hd.o_189 P) BT.nil BT.nil) BT.nil) (BT.node (hd.o_155 P) BT.nil BT.nil)) (BT.node (hd.o_105 P) (BT.node (hd.o_139 P) (BT.node (hd.o_205 P) BT.nil BT.nil) BT.nil) (BT.node (hd.o_173 P) BT.nil BT.nil)))))))
noncomputable def hd.tree_266 (P : Params) : BT := (BT.node (boot_o_0 P) (BT.node (boot_o_1 P) (BT.node (hd.o_220 P) (BT.node (boot_o_7 P) (BT.node (hd.o_52 P) (BT.node (hd.o_68 P) (BT.node (hd.o_106 P) (BT.node (hd.o_174 P) BT.nil BT.nil) (BT.node (hd.o_240 P) BT.nil BT.nil)) (BT.node (hd.o_140 P) (BT.node (hd.o_206 P) BT.nil BT.nil) BT.nil)) (BT.node (hd.o_87 P) (BT.node (hd.o_122 P) (BT.node (hd.o_190 P) BT.nil BT.nil) (BT.node (hd.o_256 P) BT.nil BT.nil)) (BT.node (hd.o_156 P) (BT.node (hd.o_224 P) BT.nil BT.nil) BT.nil))) (BT.node (hd.o_60 P) (BT.node (hd.o_76 P) (BT.node (hd.o_114 P) (BT.node (hd.o_182 P) BT.nil BT.nil) (BT.node (hd.o_248 P) BT.nil BT.nil)) (BT.node (hd.o_148 P) (BT.node (hd.o_214 P) BT.nil BT.nil) BT.nil)) (BT.node (hd.o_98 P) (BT.node (hd.o_130 P) (BT.node (hd.o_198 P) BT.nil BT.nil) (BT.node (hd.o_264 P) BT.nil BT.nil)) (BT.node (hd.o_166 P) (BT.node (hd.o_232 P) BT.nil BT.nil) BT.nil)))) (BT.node (hd.o_43 P) (BT.node (hd.o_56 P) (BT.node (hd.o_72 P) (BT.node (hd.o_110 P) (BT.node (hd.o_178 P) BT.nil BT.nil) (BT.node (hd.o_244 P) BT.nil BT.nil)) (BT.node (hd.o_144 P) (BT.node (hd.o_210 P) BT.nil BT.nil) BT.nil)) (BT.node (hd.o_91 P) (BT.node (hd.o_126 P) (BT.node (hd.o_194 P) BT.nil BT.nil) (BT.node (hd.o_260 P) BT.nil BT.nil)) (BT.node (hd.o_160 P) (BT.node (hd.o_228 P) BT.nil BT.nil) BT.nil))) (BT.node (hd.o_64 P) (BT.node (hd.o_83 P) (BT.node (hd.o_118 P) (BT.node (hd.o_186 P) BT.nil BT.nil) (BT.node (hd.o_252 P) BT.nil BT.nil)) (BT.node (hd.o_152 P) (BT.node (hd.o_218 P) BT.nil BT.nil) BT.nil)) (BT.node (hd.o_102 P) (BT.node (hd.o_136 P) (BT.node (hd.o_202 P) BT.nil BT.nil) BT.nil) (BT.node (hd.o_170 P) (BT.node (hd.o_236 P) BT.nil BT.nil) BT.nil))))) (BT.node (boot_o_5 P) (BT.node (boot_o_9 P) (BT.node (hd.o_54 P) (BT.node (hd.o_70 P) (BT.node (hd.o_108 P) (BT.node (hd.o_176 P) BT.nil BT.nil) (BT.node (hd.o_242 P) BT.nil BT.nil)) (BT.node (hd.o_142 P) (BT.node (hd.o_208 P) BT.nil BT.nil) BT.nil)) (BT.node (hd.o_89 P) (BT.node (hd.o_124 P) (BT.node (hd.o_192 P) BT.nil BT.nil) (BT.node (hd.o_258 P) BT.nil BT.nil)) (BT.node (hd.o_158 P) (BT.node (hd.o_226 P) BT.nil BT.nil) BT.nil))) (BT.node (hd.o_62 P) (BT.node (hd.o_78 P) (BT.node (hd.o_116 P) (BT.node (hd.o_184 P) BT.nil BT.nil) (BT.node (hd.o_250 P) BT.nil BT.nil)) (BT.node (hd.o_150 P) (BT.node (hd.o_216 P) BT.nil BT.nil) BT.nil)) (BT.node (hd.o_100 P) (BT.node (hd.o_134 P) (BT.node (hd.o_200 P) BT.nil BT.nil) (BT.node (hd.o_266 P) BT.nil BT.nil)) (BT.node (hd.o_168 P) (BT.node (hd.o_234 P) BT.nil BT.nil) BT.nil)))) (BT.node (hd.o_45 P) (BT.node (hd.o_58 P) (BT.node (hd.o_74 P) (BT.node (hd.o_112 P) (BT.node (hd.o_180 P) BT.nil BT.nil) (BT.node (hd.o_246 P) BT.nil BT.nil)) (BT.node (hd.o_146 P) (BT.node (hd.o_212 P) BT.nil BT.nil) BT.nil)) (BT.node (hd.o_93 P) (BT.node (hd.o_128 P) (BT.node (hd.o_196 P) BT.nil BT.nil) (BT.node (hd.o_262 P) BT.nil BT.nil)) (BT.node (hd.o_164 P) (BT.node (hd.o_230 P) BT.nil BT.nil) BT.nil))) (BT.node (hd.o_66 P) (BT.node (hd.o_85 P) (BT.node (hd.o_120 P) (BT.node (hd.o_188 P) BT.nil BT.nil) (BT.node (hd.o_254 P) BT.nil BT.nil)) (BT.node (hd.o_154 P) (BT.node (hd.o_222 P) BT.nil BT.nil) BT.nil)) (BT.node (hd.o_104 P) (BT.node (hd.o_138 P) (BT.node (hd.o_204 P) BT.nil BT.nil) BT.nil) (BT.node (hd.o_172 P) (BT.node (hd.o_238 P) BT.nil BT.nil) BT.nil)))))) (BT.node (hd.o_49 P) (BT.node (boot_o_4 P) (BT.node (boot_o_8 P) (BT.node (hd.o_53 P) (BT.node (hd.o_69 P) (BT.node (hd.o_107 P) (BT.node (hd.o_175 P) BT.nil BT.nil) (BT.node (hd.o_241 P) BT.nil BT.nil)) (BT.node (hd.o_141 P) (BT.node (hd.o_207 P) BT.nil BT.nil) BT.nil)) (BT.node (hd.o_88 P) (BT.node (hd.o_123 P) (BT.node (hd.o_191 P) BT.nil BT.nil) (BT.node (hd.o_257 P) BT.nil BT.nil)) (BT.node (hd.o_157 P) (BT.node (hd.o_225 P) BT.nil BT.nil) BT.nil))) (BT.node (hd.o_61 P) (BT.node (hd.o_77 P) (BT.node (hd.o_115 P) (BT.node (hd.o_183 P) BT.nil BT.nil) (BT.node (hd.o_249 P) BT.nil BT.nil)) (BT.node (hd.o_149 P) (BT.node (hd.o_215 P) BT.nil BT.nil) BT.nil)) (BT.node (hd.o_99 P) (BT.node (hd.o_131 P) (BT.node (hd.o_199 P) BT.nil BT.nil) (BT.node (hd.o_265 P) BT.nil BT.nil)) (BT.node (hd.o_167 P) (BT.node (hd.o_233 P) BT.nil BT.nil) BT.nil)))) (BT.node (hd.o_221 P) (BT.node (hd.o_57 P) (BT.node (hd.o_73 P) (BT.node (hd.o_111 P) (BT.node (hd.o_179 P) BT.nil BT.nil) (BT.node (hd.o_245 P) BT.nil BT.nil)) (BT.node (hd.o_145 P) (BT.node (hd.o_211 P) BT.nil BT.nil) BT.nil)) (BT.node (hd.o_92 P) (BT.node (hd.o_127 P) (BT.node (hd.o_195 P) BT.nil BT.nil) (BT.node (hd.o_261 P) BT.nil BT.nil)) (BT.node (hd.o_161 P) (BT.node (hd.o_229 P) BT.nil BT.nil) BT.nil))) (BT.node (hd.o_65 P) (BT.node (hd.o_84 P) (BT.node (hd.o_119 P) (BT.node (hd.o_187 P) BT.nil BT.nil) (BT.node (hd.o_253 P) BT.nil BT.nil)) (BT.node (hd.o_153 P) (BT.node (hd.o_219 P) BT.nil BT.nil) BT.nil)) (BT.node (hd.o_103 P) (BT.node (hd.o_137 P) (BT.node (hd.o_203 P) BT.nil BT.nil) BT.nil) (BT.node (hd.o_171 P) (BT.node (hd.o_237 P) BT.nil BT.nil) BT.nil))))) (BT.node (boot_o_6 P) (BT.node (boot_o_10 P) (BT.node (hd.o_55 P) (BT.node (hd.o_71 P) (BT.node (hd.o_109 P) (BT.node (hd.o_177 P) BT.nil BT.nil) (BT.node (hd.o_243 P) BT.nil BT.nil)) (BT.node (hd.o_143 P) (BT.node (hd.o_209 P) BT.nil BT.nil) BT.nil)) (BT.node (hd.o_90 P) (BT.node (hd.o_125 P) (BT.node (hd.o_193 P) BT.nil BT.nil) (BT.node (hd.o_259 P) BT.nil BT.nil)) (BT.node (hd.o_159 P) (BT.node (hd.o_227 P) BT.nil BT.nil) BT.nil))) (BT.node (hd.o_63 P) (BT.node (hd.o_82 P) (BT.node (hd.o_117 P) (BT.node (hd.o_185 P) BT.nil BT.nil) (BT.node (hd.o_251 P) BT.nil BT.nil)) (BT.node (hd.o_151 P) (BT.node (hd.o_217 P) BT.nil BT.nil) BT.nil)) (BT.node (hd.o_101 P) (BT.node (hd.o_135 P) (BT.node (hd.o_201 P) BT.nil BT.nil) BT.nil) (BT.node (hd.o_169 P) (BT.node (hd.o_235 P) BT.nil BT.nil) BT.nil)))) (BT.node (hd.o_46 P) (BT.node (hd.o_59 P) (BT.node (hd.o_96 P) (BT.node (hd.o_113 P) (BT.node (hd.o_181 P) BT.nil BT.nil) (BT.node (hd.o_247 P) BT.nil BT.nil)) (BT.node (hd.o_147 P) (BT.node (hd.o_213 P) BT.nil BT.nil) BT.nil)) (BT.node (hd.o_97 P) (BT.node (hd.o_129 P) (BT.node (hd.o_197 P) BT.nil BT.nil) (BT.node (hd.o_263 P) BT.nil BT.nil)) (BT.node (hd.o_165 P) (BT.node (hd.o_231 P) BT.nil BT.nil) BT.nil))) (BT.node (hd.o_67 P) (BT.node (hd.o_86 P) (BT.node (hd.o_121 P) (BT.node (hd.o_189 P) BT.nil BT.nil) (BT.node (hd.o_255 P) BT.nil BT.nil)) (BT.node (hd.o_155 P) (BT.node (hd.o_223 P) BT.nil BT.nil) BT.nil)) (BT.node (hd.o_105 P) (BT.node (hd.o_139 P) (BT.node (hd.o_205 P) BT.nil BT.nil) BT.nil) (BT.node (hd.o_173 P) (BT.node (hd.o_239 P) BT.nil BT.nil) BT.nil)))))))
noncomputable def hd.tree_372 (P : Params) : BT := (BT.node (boot_o_0 P) (BT.node (boot_o_1 P) (BT.node (hd.o_267 P) (BT.node (boot_o_7 P) (BT.node (hd.o_52 P) (BT.node (hd.o_68 P) (BT.node (hd.o_106 P) (BT.node (hd.o_174 P) (BT.node (hd.o_306 P) BT.nil BT.nil) BT.nil) (BT.node (hd.o_240 P) (BT.node (hd.o_370 P) BT.nil BT.nil) BT.nil)) (BT.node (hd.o_140 P) (BT.node (hd.o_206 P) (BT.node (hd.o_338 P) BT.nil BT.nil) BT.nil) (BT.node (hd.o_274 P) BT.nil BT.nil))) (BT.node (hd.o_87 P) (BT.node (hd.o_122 P) (BT.node (hd.o_190 P) (BT.node (hd.o_322 P) BT.nil BT.nil) BT.nil) (BT.node (hd.o_256 P) BT.nil BT.nil)) (BT.node (hd.o_156 P) (BT.node (hd.o_224 P) (BT.node (hd.o_354 P) BT.nil BT.nil) BT.nil) (BT.node (hd.o_290 P) BT.nil BT.nil)))) (BT.node (hd.o_60 P) (BT.node (hd.o_76 P) (BT.node (hd.o_114 P) (BT.node (hd.o_182 P) (BT.node (hd.o_314 P) BT.nil BT.nil) BT.nil) (BT.node (hd.o_248 P) BT.nil BT.nil)) (BT.node (hd.o_148 P) (BT.node (hd.o_214 P) (BT.node (hd.o_346 P) BT.nil BT.nil) BT.nil) (BT.node (hd.o_282 P) BT.nil BT.nil))) (BT.node (hd.o_98 P) (BT.node (hd.o_130 P) (BT.node (hd.o_198 P) (BT.node (hd.o_330 P) BT.nil BT.nil) BT.nil) (BT.node (hd.o_264 P) BT.nil BT.nil)) (BT.node (hd.o_166 P) (BT.node (hd.o_232 P) (BT.node (hd.o_362 P) BT.nil BT.nil) BT.nil) (BT.node (hd.o_298 P) BT.nil BT.nil))))) (BT.node (hd.o_43 P) (BT.node (hd.o_56 P) (BT.node (hd.o_72 P) (BT.node (hd.o_110 P) (BT.node (hd.o_178 P) (BT.node (hd.o_310 P) BT.nil BT.nil) BT.nil) (BT.node (hd.o_244 P) BT.nil BT.nil)) (BT.node (hd.o_144 P) (BT.node (hd.o_210 P) (BT.node (hd.o_342 P) BT.nil BT.nil) BT.nil) (BT.node (hd.o_278 P) BT.nil BT.nil))) (BT.node (hd.o_91 P) (BT.node (hd.o_126 P) (BT.node (hd.o_194 P) (BT.node (hd.o_326 P) BT.nil BT.nil) BT.nil) (BT.node (hd.o_260 P) BT.nil BT.nil)) (BT.node (hd.o_160 P) (BT.node (hd.o_228 P) (BT.node (hd.o_358 P) BT.nil BT.nil) BT.nil) (BT.node (hd.o_294 P) BT.nil BT.nil)))) (BT.node (hd.o_64 P) (BT.node (hd.o_83 P) (BT.node (hd.o_118 P) (BT.node (hd.o_186 P) (BT.node (hd.o_318 P) BT.nil BT.nil) BT.nil) (BT.node (hd.o_252 P) BT.nil BT.nil)) (BT.node (hd.o_152 P) (BT.node (hd.o_218 P) (BT.node (hd.o_350 P) BT.nil BT.nil) BT.nil) (BT.node (hd.o_286 P) BT.nil BT.nil))) (BT.node (hd.o_102 P) (BT.node (hd.o_136 P) (BT.node (hd.o_202 P) (BT.node (hd.o_334 P) BT.nil BT.nil) BT.nil) (BT.node (hd.o_270 P) BT.nil BT.nil)) (BT.node (hd.o_170 P) (BT.node (hd.o_236 P) (BT.node (hd.o_366 P) BT.nil BT.nil) BT.nil) (BT.node (hd.o_302 P) BT.nil BT.nil)))))) (BT.node (boot_o_5 P) (BT.node (boot_o_9 P) (BT.node (hd.o_54 P) (BT.node (hd.o_70 P) (BT.node (hd.o_108 P) (BT.node (hd.o_176 P) (BT.node (hd.o_308 P) BT.nil BT.nil) BT.nil) (BT.node (hd.o_242 P) (BT.node (hd.o_372 P) BT.nil BT.nil) BT.nil)) (BT.node (hd.o_142 P) (BT.node (hd.o_208 P) (BT.node (hd.o_340 P) BT.nil BT.nil) BT.nil) (BT.node (hd.o_276 P) BT.nil BT.nil))) (BT.node (hd.o_89 P) (BT.node (hd.o_124 P) (BT.node (hd.o_192 P) (BT.node (hd.o_324 P) BT.nil BT.nil) BT.nil) (BT.node (hd.o_258 P) BT.nil BT.nil)) (BT.node (hd.o_158 P) (BT.node (hd.o_226 P) (BT.node (hd.o_356 P) BT.nil BT.nil) BT.nil) (BT.node (hd.o_292 P) BT.nil BT.nil)))) (BT.node (hd.o_62 P) (BT.node (hd.o_78 P) (BT.node (hd.o_116 P) (BT.node (hd.o_184 P) (BT.node (hd.o_316 P) BT.nil BT.nil) BT.nil) (BT.node (hd.o_250 P) BT.nil BT.nil)) (BT.node (hd.o_150 P) (BT.node (hd.o_216 P) (BT.node (hd.o_348 P) BT.nil BT.nil) BT.nil) (BT.node (hd.o_284 P) BT.nil BT.nil))) (BT.node (hd.o_100 P) (BT.node (hd.o_134 P) (BT.node (hd.o_200 P) (BT.node (hd.o_332 P) BT.nil BT.nil) BT.nil) (BT.node (hd.o_266 P) BT.nil BT.nil)) (BT.node (hd.o_168 P) (BT.node (hd.o_234 P) (BT.node (hd.o_364 P) BT.nil BT.nil) BT.nil) (BT.node (hd.o_300 P) BT.nil BT.nil))))) (BT.node (hd.o_45 P) (BT.node (hd.o_58 P) (BT.node (hd.o_74 P) (BT.node (hd.o_112 P) (BT.node (hd.o_180 P) (BT.node (hd.o_312 P) BT.nil BT.nil) BT.nil) (BT.node (hd.o_246 P) BT.nil BT.nil)) (BT.node (hd.o_146 P) (BT.node (hd.o_212 P) (BT.node (hd.o_344 P) BT.nil BT.nil) BT.nil) (BT.node (hd.o_280 P) BT.nil BT.nil))) (BT.node (hd.o_93 P) (BT.node (hd.o_128 P) (BT.node (hd.o_196 P) (BT.node (hd.o_328 P) BT.nil BT.nil) BT.nil) (BT.node (hd.o_262 P) BT.nil BT.nil)) (BT.node (hd.o_164 P) (BT.node (hd.o_230 P) (BT.node (hd.o_360 P) BT.nil BT.nil) BT.nil) (BT.node (hd.o_296 P) BT.nil BT.nil)))) (BT.node (hd.o_66 P) (BT.node (hd.o_85 P) (BT.node (hd.o_120 P) (BT.node (hd.o_188 P) (BT.node (hd.o_320 P) BT.nil BT.nil) BT.nil) (BT.node (hd.o_254 P) BT.nil BT.nil)) (BT.node (hd.o_154 P) (BT.node (hd.o_222 P) (BT.node (hd.o_352 P) BT.nil BT.nil) BT.nil) (BT.node (hd.o_288 P) BT.nil BT.nil))) (BT.node (hd.o_104 P) (BT.node (hd.o_138 P) (BT.node (hd.o_204 P) (BT.node (hd.o_336 P) BT.nil BT.nil) BT.nil) (BT.node (hd.o_272 P) BT.nil BT.nil)) (BT.node (hd.o_172 P) (BT.node (hd.o_238 P) (BT.node (hd.o_368 P) BT.nil BT.nil) BT.nil) (BT.node (hd.o_304 P) BT.nil BT.nil))))))) (BT.node (hd.o_49 P) (BT.node (boot_o_4 P) (BT.node (boot_o_8 P) (BT.node (hd.o_53 P) (BT.node (hd.o_69 P) (BT.node (hd.o_107 P) (BT.node (hd.o_175 P) (BT.node (hd.o_307 P) BT.nil BT.nil) BT.nil) (BT.node (hd.o_241 P) (BT.node (hd.o_371 P) BT.nil BT.nil) BT.nil)) (BT.node (hd.o_141 P) (BT.node (hd.o_207 P) (BT.node (hd.o_339 P) BT.nil BT.nil) BT.nil) (BT.node (hd.o_275 P) BT.nil BT.nil))) (BT.node (hd.o_88 P) (BT.node (hd.o_123 P) (BT.node (hd.o_191 P) (BT.node (hd.o_323 P) BT.nil BT.nil) BT.nil) (BT.node (hd.o_257 P) BT.nil BT.nil)) (BT.node (hd.o_157 P) (BT.node (hd.o_225 P) (BT.node (hd.o_355 P) BT.nil BT.nil) BT.nil) (BT.node (hd.o_291 P) BT.nil BT.nil)))) (BT.node (hd.o_61 P) (BT.node (hd.o_77 P) (BT.node (hd.o_115 P) (BT.node (hd.o_183 P) (BT.node (hd.o_315 P) BT.nil BT.nil) BT.nil) (BT.node (hd.o_249 P) BT.nil BT.nil)) (BT.node (hd.o_149 P) (BT.node (hd.o_215 P) (BT.node (hd.o_347 P) BT.nil BT.nil) BT.nil) (BT.node (hd.o_283 P) BT.nil BT.nil))) (BT.node (hd.o_99 P) (BT.node (hd.o_131 P) (BT.node (hd.o_199 P) (BT.node (hd.o_331 P) BT.nil BT.nil) BT.nil) (BT.node (hd.o_265 P) BT.nil BT.nil)) (BT.node (hd.o_167 P) (BT.node (hd.o_233 P) (BT.node (hd.o_363 P) BT.nil BT.nil) BT.nil) (BT.node (hd.o_299 P) BT.nil BT.nil))))) (BT.node (hd.o_268 P) (BT.node (hd.o_57 P) (BT.node (hd.o_73 P) (BT.node (hd.o_111 P) (BT.node (hd.o_179 P) (BT.node (hd.o_311 P) BT.nil BT.nil) BT.nil) (BT.node (hd.o_245 P) BT.nil BT.nil)) (BT.node (hd.o_145 P) (BT.node (hd.o_211 P) (BT.node (hd.o_343 P) BT.nil BT.nil) BT.nil) (BT.node (hd.o_279 P) BT.nil BT.nil))) (BT.node (hd.o_92 P) (BT.node (hd.o_127 P) (BT.node (hd.o_195 P) (BT.node (hd.o_327 P) BT.nil BT.nil) BT.nil) (BT.node (hd.o_261 P) BT.nil BT.nil)) (BT.node (hd.o_161 P) (BT.node (hd.o_229 P) (BT.node (hd.o_359 P) BT.nil BT.nil) BT.nil) (BT.node (hd.o_295 P) BT.nil BT.nil)))) (BT.node (hd.o_65 P) (BT.node (hd.o_84 P) (BT.node (hd.o_119 P) (BT.node (hd.o_187 P) (BT.node (hd.o_319 P) BT.nil BT.nil) BT.nil) (BT.node (hd.o_253 P) BT.nil BT.nil)) (BT.node (hd.o_153 P) (BT.node (hd.o_219 P) (BT.node (hd.o_351 P) BT.nil BT.nil) BT.nil) (BT.node (hd.o_287 P) BT.nil BT.nil))) (BT.node (hd.o_103 P) (BT.node (hd.o_137 P) (BT.node (hd.o_203 P) (BT.node (hd.o_335 P) BT.nil BT.nil) BT.nil) (BT.node (hd.o_271 P) BT.nil BT.nil)) (BT.node (hd.o_171 P) (BT.node (hd.o_237 P) (BT.node (hd.o_367 P) BT.nil BT.nil) BT.nil) (BT.node (hd.o_303 P) BT.nil BT.nil)))))) (BT.node (boot_o_6 P) (BT.node (boot_o_10 P) (BT.node (hd.o_55 P) (BT.node (hd.o_71 P) (BT.node (hd.o_109 P) (BT.node (hd.o_177 P) (BT.node (hd.o_309 P) BT.nil BT.nil) BT.nil) (BT.node (hd.o_243 P) BT.nil BT.nil)) (BT.node (hd.o_143 P) (BT.node (hd.o_209 P) (BT.node (hd.o_341 P) BT.nil BT.nil) BT.nil) (BT.node (hd.o_277 P) BT.nil BT.nil))) (BT.node (hd.o_90 P) (BT.node (hd.o_125 P) (BT.node (hd.o_193 P) (BT.node (hd.o_325 P) BT.nil BT.nil) BT.nil) (BT.node (hd.o_259 P) BT.nil BT.nil)) (BT.node (hd.o_159 P) (BT.node (hd.o_227 P) (BT.node (hd.o_357 P) BT.nil BT.nil) BT.nil) (BT.node (hd.o_293 P) BT.nil BT.nil)))) (BT.node (hd.o_63 P) (BT.node (hd.o_82 P) (BT.node (hd.o_117 P) (BT.node (hd.o_185 P) (BT.node (hd.o_317 P) BT.nil BT.nil) BT.nil) (BT.node (hd.o_251 P) BT.nil BT.nil)) (BT.node (hd.o_151 P) (BT.node (hd.o_217 P) (BT.node (hd.o_349 P) BT.nil BT.nil) BT.nil) (BT.node (hd.o_285 P) BT.nil BT.nil))) (BT.node (hd.o_101 P) (BT.node (hd.o_135 P) (BT.node (hd.o_201 P) (BT.node (hd.o_333 P) BT.nil BT.nil) BT.nil) (BT.node (hd.o_269 P) BT.nil BT.nil)) (BT.node (hd.o_169 P) (BT.node (hd.o_235 P) (BT.node (hd.o_365 P) BT.nil BT.nil) BT.nil) (BT.node (hd.o_301 P) BT.nil BT.nil))))) (BT.node (hd.o_46 P) (BT.node (hd.o_59 P) (BT.node (hd.o_96 P) (BT.node (hd.o_113 P) (BT.node (hd.o_181 P) (BT.node (hd.o_313 P) BT.nil BT.nil) BT.nil) (BT.node (hd.o_247 P) BT.nil BT.nil)) (BT.node (hd.o_147 P) (BT.node (hd.o_213 P) (BT.node (hd.o_345 P) BT.nil BT.nil) BT.nil) (BT.node (hd.o_281 P) BT.nil BT.nil))) (BT.node (hd.o_97 P) (BT.node (hd.o_129 P) (BT.node (hd.o_197 P) (BT.node (hd.o_329 P) BT.nil BT.nil) BT.nil) (BT.node (hd.o_263 P) BT.nil BT.nil)) (BT.node (hd.o_165 P) (BT.node (hd.o_231 P) (BT.node (hd.o_361 P) BT.nil BT.nil) BT.nil) (BT.node (hd.o_297 P) BT.nil BT.nil)))) (BT.node (hd.o_67 P) (BT.node (hd.o_86 P) (BT.node (hd.o_121 P) (BT.node (hd.o_189 P) (BT.node (hd.o_321 P) BT.nil BT.nil) BT.nil) (BT.node (hd.o_255 P) BT.nil BT.nil)) (BT.node (hd.o_155 P) (BT.node (hd.o_223 P) (BT.node (hd.o_353 P) BT.nil BT.nil) BT.nil) (BT.node (hd.o_289 P) BT.nil BT.nil))) (BT.node (hd.o_105 P) (BT.node (hd.o_139 P) (BT.node (hd.o_205 P) (BT.node (hd.o_337 P) BT.nil BT.nil) BT.nil) (BT.node (hd.o_273 P) BT.nil BT.nil)) (BT.node (hd.o_173 P) (BT.node (hd.o_239 P) (BT.node (hd.o_369 P) BT.nil BT.nil) BT.nil) (BT.node (hd.o_305 P) BT.nil BT.nil))))))))
noncomputable def hd.tree_467 (P : Params) : BT := (BT.node (boot_o_0 P) (BT.node (boot_o_1 P) (BT.node (hd.o_459 P) (BT.node (boot_o_7 P) (BT.node (hd.o_52 P) (BT.node (hd.o_68 P) (BT.node (hd.o_106 P) (BT.node (hd.o_174 P) (BT.node (hd.o_306 P) BT.nil BT.nil) (BT.node (hd.o_436 P) BT.nil BT.nil)) (BT.node (hd.o_240 P) (BT.node (hd.o_370 P) BT.nil BT.nil) BT.nil)) (BT.node (hd.o_140 P) (BT.node (hd.o_206 P) (BT.node (hd.o_338 P) BT.nil BT.nil) BT.nil) (BT.node (hd.o_274 P) (BT.node (hd.o_404 P) BT.nil BT.nil) BT.nil))) (BT.node (hd.o_87 P) (BT.node (hd.o_122 P) (BT.node (hd.o_190 P) (BT.node (hd.o_322 P) BT.nil BT.nil) (BT.node (hd.o_452 P) BT.nil BT.nil)) (BT.node (hd.o_256 P) (BT.node (hd.o_388 P) BT.nil BT.nil) BT.nil)) (BT.node (hd.o_156 P) (BT.node (hd.o_224 P) (BT.node (hd.o_354 P) BT.nil BT.nil) BT.nil) (BT.node (hd.o_290 P) (BT.node (hd.o_420 P) BT.nil BT.nil) BT.nil)))) (BT.node (hd.o_60 P) (BT.node (hd.o_76 P) (BT.node (hd.o_114 P) (BT.node (hd.o_182 P) (BT.node (hd.o_314 P) BT.nil BT.nil) (BT.node (hd.o_444 P) BT.nil BT.nil)) (BT.node (hd.o_248 P) (BT.node (hd.o_380 P) BT.nil BT.nil) BT.nil)) (BT.node (hd.o_148 P) (BT.node (hd.o_214 P) (BT.node (hd.o_346 P) BT.nil BT.nil) BT.nil) (BT.node (hd.o_282 P) (BT.node (hd.o_412 P) BT.nil BT.nil) BT.nil))) (BT.node (hd.o_98 P) (BT.node (hd.o_130 P) (BT.node (hd.o_198 P) (BT.node (hd.o_330 P) BT.nil BT.nil) (BT.node (hd.o_462 P) BT.nil BT.nil)) (BT.node (hd.o_264 P) (BT.node (hd.o_396 P) BT.nil BT.nil) BT.nil)) (BT.node (hd.o_166 P) (BT.node (hd.o_232 P) (BT.node (hd.o_362 P) BT.nil BT.nil) BT.nil) (BT.node (hd.o_298 P) (BT.node (hd.o_428 P) BT.nil BT.nil) BT.nil))))) (BT.node (hd.o_43 P) (BT.node (hd.o_56 P) (BT.node (hd.o_72 P) (BT.node (hd.o_110 P) (BT.node (hd.o_178 P) (BT.node (hd.o_310 P) BT.nil BT.nil) (BT.node (hd.o_440 P) BT.nil BT.nil)) (BT.node (hd.o_244 P) (BT.node (hd.o_376 P) BT.nil BT.nil) BT.nil)) (BT.node (hd.o_144 P) (BT.node (hd.o_210 P) (BT.node (hd.o_342 P) BT.nil BT.nil) BT.nil) (BT.node (hd.o_278 P) (BT.node (hd.o_408 P) BT.nil BT.nil) BT.nil))) (BT.node (hd.o_91 P) (BT.node (hd.o_126 P) (BT.node (hd.o_194 P) (BT.node (hd.o_326 P) BT.nil BT.nil) (BT.node (hd.o_456 P) BT.nil BT.nil)) (BT.node (hd.o_260 P) (BT.node (hd.o_392 P) BT.nil BT.nil) BT.nil)) (BT.node (hd.o_160 P) (BT.node (hd.o_228 P) (BT.node (hd.o_358 P) BT.nil BT.nil) BT.nil) (BT.node (hd.o_294 P) (BT.node (hd.o_424 P) BT.nil BT.nil) BT.nil)))) (BT.node (hd.o_64 P) (BT.node (hd.o_83 P) (BT.node (hd.o_118 P) (BT.node (hd.o_186 P) (BT.node (hd.o_318 P) BT.nil BT.nil) (BT.node (hd.o_448 P) BT.nil BT.nil)) (BT.node (hd.o_252 P) (BT.node (hd.o_384 P) BT.nil BT.nil) BT.nil)) (BT.node (hd.o_152 P) (BT.node (hd.o_218 P) (BT.node (hd.o_350 P) BT.nil BT.nil) BT.nil) (BT.node (hd.o_286 P) (BT.node (hd.o_416 P) BT.nil BT.nil) BT.nil))) (BT.node (hd.o_102 P) (BT.node (hd.o_136 P) (BT.node (hd.o_202 P) (BT.node (hd.o_334 P) BT.nil BT.nil) (BT.node (hd.o_466 P) BT.nil BT.nil)) (BT.node (hd.o_270 P) (BT.node (hd.o_400 P) BT.nil BT.nil) BT.nil)) (BT.node (hd.o_170 P) (BT.node (hd.o_236 P) (BT.node (hd.o_366 P) BT.nil BT.nil) BT.nil) (BT.node (hd.o_302 P) (BT.node (hd.o_432 P) BT.nil BT.nil) BT.nil)))))) (BT.node (boot_o_5 P) (BT.node (boot_o_9 P) (BT.node (hd.o_54 P) (BT.node (hd.o_70 P) (BT.node (hd.o_108 P) (BT.node (hd.o_176 P) (BT.node (hd.o_308 P) BT.nil BT.nil) (BT.node (hd.o_438 P) BT.nil BT.nil)) (BT.node (hd.o_242 P) (BT.node (hd.o_372 P) BT.nil BT.nil) BT.nil)) (BT.node (hd.o_142 P) (BT.node (hd.o_208 P) (BT.node (hd.o_340 P) BT.nil BT.nil) BT.nil) (BT.node (hd.o_276 P) (BT.node (hd.o_406 P) BT.nil BT.nil) BT.nil))) (BT.node (hd.o_89 P) (BT.node (hd.o_124 P) (BT.node (hd.o_192 P) (BT.node (hd.o_324 P) BT.nil BT.nil) (BT.node (hd.o_454 P) BT.nil BT.nil)) (BT.node (hd.o_258 P) (BT.node (hd.o_390 P) BT.nil BT.nil) BT.nil)) (BT.node (hd.o_158 P) (BT.node (hd.o_226 P) (BT.node (hd.o_356 P) BT.nil BT.nil) BT.nil) (BT.node (hd.o_292 P) (BT.node (hd.o_422 P) BT.nil BT.nil) BT.nil)))) (BT.node (hd.o_62 P) (BT.node (hd.o_78 P) (BT.node (hd.o_116 P) (BT.node (hd.o_184 P) (BT.node (hd.o_316 P) BT.nil BT.nil) (BT.node (hd.o_446 P) BT.nil BT.nil)) (BT.node (hd.o_250 P) (BT.node (hd.o_382 P) BT.nil BT.nil) BT.nil)) (BT.node (hd.o_150 P) (BT.node (hd.o_216 P) (BT.node (hd.o_348 P) BT.nil BT.nil) BT.nil) (BT.node (hd.o_284 P) (BT.node (hd.o_414 P) BT.nil BT.nil) BT.nil))) (BT.node (hd.o_100 P) (BT.node (hd.o_134 P) (BT.node (hd.o_200 P) (BT.node (hd.o_332 P) BT.nil BT.nil) (BT.node (hd.o_464 P) BT.nil BT.nil)) (BT.node (hd.o_266 P) (BT.node (hd.o_398 P) BT.nil BT.nil) BT.nil)) (BT.node (hd.o_168 P) (BT.node (hd.o_234 P) (BT.node (hd.o_364 P) BT.nil BT.nil) BT.nil) (BT.node (hd.o_300 P) (BT.node (hd.o_430 P) BT.nil BT.nil) BT.nil))))) (BT.node (hd.o_45 P) (BT.node (hd.o_58 P) (BT.node (hd.o_74 P) (BT.node (hd.o_112 P) (BT.node (hd.o_180 P) (BT.node (hd.o_312 P) BT.nil BT.nil) (BT.node (hd.o_442 P) BT.nil BT.nil)) (BT.node (hd.o_246 P) (BT.node (hd.o_378 P) BT.nil BT.nil) BT.nil)) (BT.node (hd.o_146 P) (BT.node (hd.o_212 P) (BT.node (hd.o_344 P) BT.nil BT.nil) BT.nil) (BT.node (hd.o_280 P) (BT.node (hd.o_410 P) BT.nil BT.nil) BT.nil))) (BT.node (hd.o_93 P) (BT.node (hd.o_128 P) (BT.node (hd.o_196 P) (BT.node (hd.o_328 P) BT.nil BT.nil) (BT.node (hd.o_458 P) BT.nil BT.nil)) (BT.node (hd.o_262 P) (BT.node (hd.o_394 P) BT.nil BT.nil) BT.nil)) (BT.node (hd.o_164 P) (BT.node (hd.o_230 P) (BT.node (hd.o_360 P) BT.nil BT.nil) BT.nil) (BT.node (hd.o_296 P) (BT.node (hd.o_426 P) BT.nil BT.nil) BT.nil)))) (BT.node (hd.o_66 P) (BT.node (hd.o_85 P) (BT.node (hd.o_120 P) (BT.node (hd.o_188 P) (BT.node (hd.o_320 P) BT.nil BT.nil) (BT.node (hd.o_450 P) BT.nil BT.nil)) (BT.node (hd.o_254 P) (BT.node (hd.o_386 P) BT.nil BT.nil) BT.nil)) (BT.node (hd.o_154 P) (BT.node (hd.o_222 P) (BT.node (hd.o_352 P) BT.nil BT.nil) BT.nil) (BT.node (hd.o_288 P) (BT.node (hd.o_418 P) BT.nil BT.nil) BT.nil))) (BT.node (hd.o_104 P) (BT.node (hd.o_138 P) (BT.node (hd.o_204 P) (BT.node (hd.o_336 P) BT.nil BT.nil) BT.nil) (BT.node (hd.o_272 P) (BT.node (hd.o_402 P) BT.nil BT.nil) BT.nil)) (BT.node (hd.o_172 P) (BT.node (hd.o_238 P) (BT.node (hd.o_368 P) BT.nil BT.nil) BT.nil) (BT.node (hd.o_304 P) (BT.node (hd.o_434 P) BT.nil BT.nil) BT.nil))))))) (BT.node (hd.o_49 P) (BT.node (boot_o_4 P) (BT.node (boot_o_8 P) (BT.node (hd.o_53 P) (BT.node (hd.o_69 P) (BT.node (hd.o_107 P) (BT.node (hd.o_175 P) (BT.node (hd.o_307 P) BT.nil BT.nil) (BT.node (hd.o_437 P) BT.nil BT.nil)) (BT.node (hd.o_241 P) (BT.node (hd.o_371 P) BT.nil BT.nil) BT.nil)) (BT.node (hd.o_141 P) (BT.node (hd.o_207 P) (BT.node (hd.o_339 P) BT.nil BT.nil) BT.nil) (BT.node (hd.o_275 P) (BT.node (hd.o_405 P) BT.nil BT.nil) BT.nil))) (BT.node (hd.o_88 P) (BT.node (hd.o_123 P) (BT.node (hd.o_191 P) (BT.node (hd.o_323 P) BT.nil BT.nil) (BT.node (hd.o_453 P) BT.nil BT.nil)) (BT.node (hd.o_257 P) (BT.node (hd.o_389 P) BT.nil BT.nil) BT.nil)) (BT.node (hd.o_157 P) (BT.node (hd.o_225 P) (BT.node (hd.o_355 P) BT.nil BT.nil) BT.nil) (BT.node (hd.o_291 P) (BT.node (hd.o_421 P) BT.nil BT.nil) BT.nil)))) (BT.node (hd.o_61 P) (BT.node (hd.o_77 P) (BT.node (hd.o_115 P) (BT.node (hd.o_183 P) (BT.node (hd.o_315 P) BT.nil BT.nil) (BT.node (hd.o_445 P) BT.nil BT.nil)) (BT.node (hd.o_249 P) (BT.node (hd.o_381 P) BT.nil BT.nil) BT.nil)) (BT.node (hd.o_149 P) (BT.node (hd.o_215 P) (BT.node (hd.o_347 P) BT.nil BT.nil) BT.nil) (BT.node (hd.o_283 P) (BT.node (hd.o_413 P) BT.nil BT.nil) BT.nil))) (BT.node (hd.o_99 P) (BT.node (hd.o_131 P) (BT.node (hd.o_199 P) (BT.node (hd.o_331 P) BT.nil BT.nil) (BT.node (hd.o_463 P) BT.nil BT.nil)) (BT.node (hd.o_265 P) (BT.node (hd.o_397 P) BT.nil BT.nil) BT.nil)) (BT.node (hd.o_167 P) (BT.node (hd.o_233 P) (BT.node (hd.o_363 P) BT.nil BT.nil) BT.nil) (BT.node (hd.o_299 P) (BT.node (hd.o_429 P) BT.nil BT.nil) BT.nil))))) (BT.node (hd.o_460 P) (BT.node (hd.o_57 P) (BT.node (hd.o_73 P) (BT.node (hd.o_111 P) (BT.node (hd.o_179 P) (BT.node (hd.o_311 P) BT.nil BT.nil) (BT.node (hd.o_441 P) BT.nil BT.nil)) (BT.node (hd.o_245 P) (BT.node (hd.o_377 P) BT.nil BT.nil) BT.nil)) (BT.node (hd.o_145 P) (BT.node (hd.o_211 P) (BT.node (hd.o_343 P) BT.nil BT.nil) BT.nil) (BT.node (hd.o_279 P) (BT.node (hd.o_409 P) BT.nil BT.nil) BT.nil))) (BT.node (hd.o_92 P) (BT.node (hd.o_127 P) (BT.node (hd.o_195 P) (BT.node (hd.o_327 P) BT.nil BT.nil) (BT.node (hd.o_457 P) BT.nil BT.nil)) (BT.node (hd.o_261 P) (BT.node (hd.o_393 P) BT.nil BT.nil) BT.nil)) (BT.node (hd.o_161 P) (BT.node (hd.o_229 P) (BT.node (hd.o_359 P) BT.nil BT.nil) BT.nil) (BT.node (hd.o_295 P) (BT.node (hd.o_425 P) BT.nil BT.nil) BT.nil)))) (BT.node (hd.o_65 P) (BT.node (hd.o_84 P) (BT.node (hd.o_119 P) (BT.node (hd.o_187 P) (BT.node (hd.o_319 P) BT.nil BT.nil) (BT.node (hd.o_449 P) BT.nil BT.nil)) (BT.node (hd.o_253 P) (BT.node (hd.o_385 P) BT.nil BT.nil) BT.nil)) (BT.node (hd.o_153 P) (BT.node (hd.o_219 P) (BT.node (hd.o_351 P) BT.nil BT.nil) BT.nil) (BT.node (hd.o_287 P) (BT.node (hd.o_417 P) BT.nil BT.nil) BT.nil))) (BT.node (hd.o_103 P) (BT.node (hd.o_137 P) (BT.node (hd.o_203 P) (BT.node (hd.o_335 P) BT.nil BT.nil) (BT.node (hd.o_467 P) BT.nil BT.nil)) (BT.node (hd.o_271 P) (BT.node (hd.o_401 P) BT.nil BT.nil) BT.nil)) (BT.node (hd.o_171 P) (BT.node (hd.o_237 P) (BT.node (hd.o_367 P) BT.nil BT.nil) BT.nil) (BT.node (hd.o_303 P) (BT.node (hd.o_433 P) BT.nil BT.nil) BT.nil)))))) (BT.node (boot_o_6 P) (BT.node (boot_o_10 P) (BT.node (hd.o_55 P) (BT.node (hd.o_71 P) (BT.node (hd.o_109 P) (BT.node (hd.o_177 P) (BT.node (hd.o_309 P) BT.nil BT.nil) (BT.node (hd.o_439 P) BT.nil BT.nil)) (BT.node (hd.o_243 P) (BT.node (hd.o_375 P) BT.nil BT.nil) BT.nil)) (BT.node (hd.o_143 P) (BT.node (hd.o_209 P) (BT.node (hd.o_341 P) BT.nil BT.nil) BT.nil) (BT.node (hd.o_277 P) (BT.node (hd.o_407 P) BT.nil BT.nil) BT.nil))) (BT.node (hd.o_90 P) (BT.node (hd.o_125 P) (BT.node (hd.o_193 P) (BT.node (hd.o_325 P) BT.nil BT.nil) (BT.node (hd.o_455 P) BT.nil BT.nil)) (BT.node (hd.o_259 P) (BT.node (hd.o_391 P) BT.nil BT.nil) BT.nil)) (BT.node (hd.o_159 P) (BT.node (hd.o_227 P) (BT.node (hd.o_357 P) BT.nil BT.nil) BT.nil) (BT.node (hd.o_293 P) (BT.node (hd.o_423 P) BT.nil BT.nil) BT.nil)))) (BT.node (hd.o_63 P) (BT.node (hd.o_82 P) (BT.node (hd.o_117 P) (BT.node (hd.o_185 P) (BT.node (hd.o_317 P) BT.nil BT.nil) (BT.node (hd.o_447 P) BT.nil BT.nil)) (BT.node (hd.o_251 P) (BT.node (hd.o_383 P) BT.nil BT.nil) BT.nil)) (BT.node (hd.o_151 P) (BT.node (hd.o_217 P) (BT.node (hd.o_349 P) BT.nil BT.nil) BT.nil) (BT.node (hd.o_285 P) (BT.node (hd.o_415 P) BT.nil BT.nil) BT.nil))) (BT.node (hd.o_101 P) (BT.node (hd.o_135 P) (BT.node (hd.o_201 P) (BT.node (hd.o_333 P) BT.nil BT.nil) (BT.node (hd.o_465 P) BT.nil BT.nil)) (BT.node (hd.o_269 P) (BT.node (hd.o_399 P) BT.nil BT.nil) BT.nil)) (BT.node (hd.o_169 P) (BT.node (hd.o_235 P) (BT.node (hd.o_365 P) BT.nil BT.nil) BT.nil) (BT.node (hd.o_301 P) (BT.node (hd.o_431 P) BT.nil BT.nil) BT.nil))))) (BT.node (hd.o_46 P) (BT.node (hd.o_59 P) (BT.node (hd.o_96 P) (BT.node (hd.o_113 P) (BT.node (hd.o_181 P) (BT.node (hd.o_313 P) BT.nil BT.nil) (BT.node (hd.o_443 P) BT.nil BT.nil)) (BT.node (hd.o_247 P) (BT.node (hd.o_379 P) BT.nil BT.nil) BT.nil)) (BT.node (hd.o_147 P) (BT.node (hd.o_213 P) (BT.node (hd.o_345 P) BT.nil BT.nil) BT.nil) (BT.node (hd.o_281 P) (BT.node (hd.o_411 P) BT.nil BT.nil) BT.nil))) (BT.node (hd.o_97 P) (BT.node (hd.o_129 P) (BT.node (hd.o_197 P) (BT.node (hd.o_329 P) BT.nil BT.nil) (BT.node (hd.o_461 P) BT.nil BT.nil)) (BT.node (hd.o_263 P) (BT.node (hd.o_395 P) BT.nil BT.nil) BT.nil)) (BT.node (hd.o_165 P) (BT.node (hd.o_231 P) (BT.node (hd.o_361 P) BT.nil BT.nil) BT.nil) (BT.node (hd.o_297 P) (BT.node (hd.o_427 P) BT.nil BT.nil) BT.nil)))) (BT.node (hd.o_67 P) (BT.node (hd.o_86 P) (BT.node (hd.o_121 P) (BT.node (hd.o_189 P) (BT.node (hd.o_321 P) BT.nil BT.nil) (BT.node (hd.o_451 P) BT.nil BT.nil)) (BT.node (hd.o_255 P) (BT.node (hd.o_387 P) BT.nil BT.nil) BT.nil)) (BT.node (hd.o_155 P) (BT.node (hd.o_223 P) (BT.node (hd.o_353 P) BT.nil BT.nil) BT.nil) (BT.node (hd.o_289 P) (BT.node (hd.o_419 P) BT.nil BT.nil) BT.nil))) (BT.node (hd.o_105 P) (BT.node (hd.o_139 P) (BT.node (hd.o_205 P) (BT.node (hd.o_337 P) BT.nil BT.nil) BT.nil) (BT.node (hd.o_273 P) (BT.node (hd.o_403 P) BT.nil BT.nil) BT.nil)) (BT.node (hd.o_173 P) (BT.node (hd.o_239 P) (BT.node (hd.o_369 P) BT.nil BT.nil) BT.nil) (BT.node (hd.o_305 P) (BT.node (hd.o_435 P) BT.nil BT.nil) BT.nil))))))))
noncomputable def hd.heap_468 (P : Params) : Heap := (Heap.mk (Array.mk ((boot_o_0 P) :: (boot_o_1 P) :: (hd.o_49 P) :: (hd.o_459 P) :: (boot_o_4 P) :: (boot_o_5 P) :: (boot_o_6 P) :: (boot_o_7 P) :: (boot_o_8 P) :: (boot_o_9 P) :: (boot_o_10 P) :: (hd.o_43 P) :: (hd.o_460 P) :: (hd.o_45 P) :: (hd.o_46 P) :: (hd.o_52 P) :: (hd.o_53 P) :: (hd.o_54 P) :: (hd.o_55 P) :: (hd.o_56 P) :: (hd.o_57 P) :: (hd.o_58 P) :: (hd.o_59 P) :: (hd.o_60 P) :: (hd.o_61 P) :: (hd.o_62 P) :: (hd.o_63 P) :: (hd.o_64 P) :: (hd.o_65 P) :: (hd.o_66 P) :: (hd.o_67 P) :: (hd.o_68 P) :: (hd.o_69 P) :: (hd.o_70 P) :: (hd.o_71 P) :: (hd.o_72 P) :: (hd.o_73 P) :: (hd.o_74 P) :: (hd.o_96 P) :: (hd.o_76 P) :: (hd.o_77 P) :: (hd.o_78 P) :: (hd.o_82 P) :: (hd.o_83 P) :: (hd.o_84 P) :: (hd.o_85 P) :: (hd.o_86 P) :: (hd.o_87 P) :: (hd.o_88 P) :: (hd.o_89 P) :: (hd.o_90 P) :: (hd.o_91 P) :: (hd.o_92 P) :: (hd.o_93 P) :: (hd.o_97 P) :: (hd.o_98 P) :: (hd.o_99 P) :: (hd.o_100 P) :: (hd.o_101 P) :: (hd.o_102 P) :: (hd.o_103 P) :: (hd.o_104 P) :: (hd.o_105 P) :: (hd.o_106 P) :: (hd.o_107 P) :: (hd.o_108 P) :: (hd.o_109 P) :: (hd.o_110 P) :: (hd.o_111 P) :: (hd.o_112 P) :: (hd.o_113 P) :: (hd.o_114 P) :: (hd.o_115 P) :: (hd.o_116 P) :: (hd.o_117 P) :: (hd.o_118 P) :: (hd.o_119 P) :: (hd.o_120 P) :: (hd.o_121 P) :: (hd.o_122 P) :: (hd.o_123 P) :: (hd.o_124 P) :: (hd.o_125 P) :: (hd.o_126 P) :: (hd.o_127 P) :: (hd.o_128 P) :: (hd.o_129 P) :: (hd.o_130 P) :: (hd.o_131 P) :: (hd.o_134 P) :: (hd.o_135 P) :: (hd.o_136 P) :: (hd.o_137 P) :: (hd.o_138 P) :: (hd.o_139 P) :: (hd.o_140 P) :: (hd.o_141 P) :: (hd.o_142 P) :: (hd.o_143 P) :: (hd.o_144 P) :: (hd.o_145 P) :: (hd.o_146 P) :: (hd.o_147 P) :: (hd.o_148 P) :: (hd.o_149 P) :: (hd.o_150 P) :: (hd.o_151 P) :: (hd.o_152 P) :: (hd.o_153 P) :: (hd.o_154 P) :: (hd.o_155 P) :: (hd.o_156 P) :: (hd.o_157 P) :: (hd.o_158 P) :: (hd.o_159 P) :: (hd.o_160 P) :: (hd.o_161 P) :: (hd.o_164 P) :: (hd.o_165 P) :: (hd.o_166 P) :: (hd.o_167 P) :: (hd.o_168 P) :: (hd.o_169 P) :: (hd.o_170 P) :: (hd.o_171 P) :: (hd.o_172 P) :: (hd.o_173 P) :: (hd.o_174 P) :: (hd.o_175 P) :: (hd.o_176 P) :: (hd.o_177 P) :: (hd.o_178 P) :: (hd.o_179 P) :: (hd.o_180 P) :: (hd.o_181 P) :: (hd.o_182 P) :: (hd.o_183 P) :: (hd.o_184 P) :: (hd.o_185 P) :: (hd.o_186 P) :: (hd.o_187 P) :: (hd.o_188 P) :: (hd.o_189 P) :: (hd.o_190 P) :: (hd.o_191 P) :: (hd.o_192 P) :: (hd.o_193 P) :: (hd.o_194 P) :: (hd.o_195 P) :: (hd.o_196 P) :: (hd.o_197 P) :: (hd.o_198 P) :: (hd.o_199 P) :: (hd.o_200 P) :: (hd.o_201 P) :: (hd.o_202 P) :: (hd.o_203 P) :: (hd.o_204 P) :: (hd.o_205 P) :: (hd.o_206 P) :: (hd.o_207 P) :: (hd.o_208 P) :: (hd.o_209 P) :: (hd.o_210 P) :: (hd.o_211 P) :: (hd.o_212 P) :: (hd.o_213 P) :: (hd.o_214 P) :: (hd.o_215 P) :: (hd.o_216 P) :: (hd.o_217 P) :: (hd.o_218 P) :: (hd.o_219 P) :: (hd.o_222 P) :: (hd.o_223 P) :: (hd.o_224 P) :: (hd.o_225 P) :: (hd.o_226 P) :: (hd.o_227 P) :: (hd.o_228 P) :: (hd.o_229 P) :: (hd.o_230 P) :: (hd.o_231 P) :: (hd.o_232 P) :: (hd.o_233 P) :: (hd.o_234 P) :: (hd.o_235 P) :: (hd.o_236 P) :: (hd.o_237 P) :: (hd.o_238 P) :: (hd.o_239 P) :: (hd.o_240 P) :: (hd.o_241 P) :: (hd.o_242 P) :: (hd.o_243 P) :: (hd.o_244 P) :: (hd.o_245 P) :: (hd.o_246 P) :: (hd.o_247 P) :: (hd.o_248 P) :: (hd.o_249 P) :: (hd.o_250 P) :: (hd.o_251 P) :: (hd.o_252 P) :: (hd.o_253 P) :: (hd.o_254 P) :: (hd.o_255 P) :: (hd.o_256 P) :: (hd.o_257 P) :: (hd.o_258 P) :: (hd.o_259 P) :: (hd.o_260 P) :: (hd.o_261 P) :: (hd.o_262 P) :: (hd.o_263 P) :: (hd.o_264 P) :: (hd.o_265 P) :: (hd.o_266 P) :: (hd.o_269 P) :: (hd.o_270 P) :: (hd.o_271 P) :: (hd.o_272 P) :: (hd.o_273 P) :: (hd.o_274 P) :: (hd.o_275 P) :: (hd.o_276 P) :: (hd.o_277 P) :: (hd.o_278 P) :: (hd.o_279 P) :: (hd.o_280 P) :: (hd.o_281 P) :: (hd.o_282 P) :: (hd.o_283 P) :: (hd.o_284 P) :: (hd.o_285 P) :: (hd.o_286 P) :: (hd.o_287 P) :: (hd.o_288 P) :: (hd.o_289 P) :: (hd.o_290 P) :: (hd.o_291 P) :: (hd.o_292 P) :: (hd.o_293 P) :: (hd.o_294 P) :: (hd.o_295 P) :: (hd.o_296 P) :: (hd.o_297 P) :: (hd.o_298 P) :: (hd.o_299 P) :: (hd.o_300 P) :: (hd.o_301 P) :: (hd.o_302 P) :: (hd.o_303 P) :: (hd.o_304 P) :: (hd.o_305 P) :: (hd.o_306 P) :: (hd.o_307 P) :: (hd.o_308 P) :: (hd.o_309 P) :: (hd.o_310 P) :: (hd.o_311 P) :: (hd.o_312 P) :: (hd.o_313 P) :: (hd.o_314 P) :: (hd.o_315 P) :: (hd.o_316 P) :: (hd.o_317 P) :: (hd.o_318 P) :: (hd.o_319 P) :: (hd.o_320 P) :: (hd.o_321 P) :: (hd.o_322 P) :: (hd.o_323 P) :: (hd.o_324 P) :: (hd.o_325 P) :: (hd.o_326 P) :: (hd.o_327 P) :: (hd.o_328 P) :: (hd.o_329 P) :: (hd.o_330 P) :: (hd.o_331 P) :: (hd.o_332 P) :: (hd.o_333 P) :: (hd.o_334 P) :: (hd.o_335 P) :: (hd.o_336 P) :: (hd.o_337 P) :: (hd.o_338 P) :: (hd.o_339 P) :: (hd.o_340 P) :: (hd.o_341 P) :: (hd.o_342 P) :: (hd.o_343 P) :: (hd.o_344 P) :: (hd.o_345 P) :: (hd.o_346 P) :: (hd.o_347 P) :: (hd.o_348 P) :: (hd.o_349 P) :: (hd.o_350 P) :: (hd.o_351 P) :: (hd.o_352 P) :: (hd.o_353 P) :: (hd.o_354 P) :: (hd.o_355 P) :: (hd.o_356 P) :: (hd.o_357 P) :: (hd.o_358 P) :: (hd.o_359 P) :: (hd.o_360 P) :: (hd.o_361 P) :: (hd.o_362 P) :: (hd.o_363 P) :: (hd.o_364 P) :: (hd.o_365 P) :: (hd.o_366 P) :: (hd.o_367 P) :: (hd.o_368 P) :: (hd.o_369 P) :: (hd.o_370 P) :: (hd.o_371 P) :: (hd.o_372 P) :: (hd.o_375 P) :: (hd.o_376 P) :: (hd.o_377 P) :: (hd.o_378 P) :: (hd.o_379 P) :: (hd.o_380 P) :: (hd.o_381 P) :: (hd.o_382 P) :: (hd.o_383 P) :: (hd.o_384 P) :: (hd.o_385 P) :: (hd.o_386 P) :: (hd.o_387 P) :: (hd.o_388 P) :: (hd.o_389 P) :: (hd.o_390 P) :: (hd.o_391 P) :: (hd.o_392 P) :: (hd.o_393 P) :: (hd.o_394 P) :: (hd.o_395 P) :: (hd.o_396 P) :: (hd.o_397 P) :: (hd.o_398 P) :: (hd.o_399 P) :: (hd.o_400 P) :: (hd.o_401 P) :: (hd.o_402 P) :: (hd.o_403 P) :: (hd.o_404 P) :: (hd.o_405 P) :: (hd.o_406 P) :: (hd.o_407 P) :: (hd.o_408 P) :: (hd.o_409 P) :: (hd.o_410 P) :: (hd.o_411 P) :: (hd.o_412 P) :: (hd.o_413 P) :: (hd.o_414 P) :: (hd.o_415 P) :: (hd.o_416 P) :: (hd.o_417 P) :: (hd.o_418 P) :: (hd.o_419 P) :: (hd.o_420 P) :: (hd.o_421 P) :: (hd.o_422 P) :: (hd.o_423 P) :: (hd.o_424 P) :: (hd.o_425 P) :: (hd.o_426 P) :: (hd.o_427 P) :: (hd.o_428 P) :: (hd.o_429 P) :: (hd.o_430 P) :: (hd.o_431 P) :: (hd.o_432 P) :: (hd.o_433 P) :: (hd.o_434 P) :: (hd.o_435 P) :: (hd.o_436 P) :: (hd.o_437 P) :: (hd.o_438 P) :: (hd.o_439 P) :: (hd.o_440 P) :: (hd.o_441 P) :: (hd.o_442 P) :: (hd.o_443 P) :: (hd.o_444 P) :: (hd.o_445 P) :: (hd.o_446 P) :: (hd.o_447 P) :: (hd.o_448 P) :: (hd.o_449 P) :: (hd.o_450 P) :: (hd.o_451 P) :: (hd.o_452 P) :: (hd.o_453 P) :: (hd.o_454 P) :: (hd.o_455 P) :: (hd.o_456 P) :: (hd.o_457 P) :: (hd.o_458 P) :: (hd.o_461 P) :: (hd.o_462 P) :: (hd.o_463 P) :: (hd.o_464 P) :: (hd.o_465 P) :: (hd.o_466 P) :: (hd.o_467 P) :: [])) (Life.mk [] [] [] 0 [] [] Bool.false (List.toArray []) [] 0 Bool.false Bool.false Bool.false 0 [2000, 10, 10] Bool.false 0 Bool.true [] [] 0 Bool.false))
noncomputable def hd.heap_39 : Params → Frag := fun P => (fun (nx0 : Str) (ax0 : Arguments) (bx0 : List Stmt) (dx0 : List Expr) (rx0 : Option Expr) (tx0 : List TypeParam) (sx0 : Scope) (ux0 : Option Scope) (vx0 : Str) (px0 : Pos) (nx2_0 : Str) (ax2_0 : Arguments) (bx2_0 : List Stmt) (dx2_0 : List Expr) (rx2_0 : Option Expr) (tx2_0 : List TypeParam) (sx2_0 : Scope) (ux2_0 : Option Scope) (vx2_0 : Str) (px2_0 : Pos) (nx2 : Str) (hx2 : List Expr) (kx2 : List Keyword) (dx2 : List Expr) (tx2 : List TypeParam) (sx2 : Scope) (ux2 : Option Scope) (vx2 : Str) (wx2 : List Str) (px2 : Pos) (nx11 : Str) (ax11 : Arguments) (bx11 : List Stmt) (dx11 : List Expr) (rx11 : Option Expr) (tx11 : List TypeParam) (sx11 : Scope) (ux11 : Option Scope) (vx11 : Str) (px11 : Pos) (nx12 : Str) (ax12 : Arguments) (bx12 : List Stmt) (dx12 : List Expr) (rx12 : Option Expr) (tx12 : List TypeParam) (sx12 : Scope) (ux12 : Option Scope) (vx12 : Str) (px12 : Pos) (nx13 : Str) (ax13 : Arguments) (bx13 : List Stmt) (dx13 : List Expr) (rx13 : Option Expr) (tx13 : List TypeParam) (sx13 : Scope) (ux13 : Option Scope) (vx13 : Str) (px13 : Pos) (nx14 : Str) (ax14 : Arguments) (bx14 : List Stmt) (dx14 : List Expr) (rx14 : Option Expr) (tx14 : List TypeParam) (sx14 : Scope) (ux14 : Option Scope) (vx14 : Str) (px14 : Pos) (nx15 : Str) (ax15 : Arguments) (bx15 : List Stmt) (dx15 : List Expr) (rx15 : Option Expr) (tx15 : List TypeParam) (sx15 : Scope) (ux15 : Option Scope) (vx15 : Str) (px15 : Pos) (nx16 : Str) (ax16 : Arguments) (bx16 : List Stmt) (dx16 : List Expr) (rx16 : Option Expr) (tx16 : List TypeParam) (sx16 : Scope) (ux16 : Option Scope) (vx16 : Str) (px16 : Pos) (nx17 : Str) (ax17 : Arguments) (bx17 : List Stmt) (dx17 : List Expr) (rx17 : Option Expr) (tx17 : List TypeParam) (sx17 : Scope) (ux17 : Option Scope) (vx17 : Str) (px17 : Pos) (nx18_0 : Str) (ax18_0 : Arguments) (bx18_0 : List Stmt) (dx18_0 : List Expr) (rx18_0 : Option Expr) (tx18_0 : List TypeParam) (sx18_0 : Scope) (ux18_0 : Option Scope) (vx18_0 : Str) (px18_0 : Pos) (nx18_1 : Str) (ax18_1 : Arguments) (bx18_1 : List Stmt) (dx18_1 : List Expr) (rx18_1 : Option Expr) (tx18_1 : List TypeParam) (sx18_1 : Scope) (ux18_1 : Option Scope) (vx18_1 : Str) (px18_1 : Pos) (nx18_2 : Str) (ax18_2 : Arguments) (bx18_2 : List Stmt) (dx18_2 : List Expr) (rx18_2 : Option Expr) (tx18_2 : List TypeParam) (sx18_2 : Scope) (ux18_2 : Option Scope) (vx18_2 : Str) (px18_2 : Pos) (nx18_3 : Str) (ax18_3 : Arguments) (bx18_3 : List Stmt) (dx18_3 : List Expr) (rx18_3 : Option Expr) (tx18_3 : List TypeParam) (sx18_3 : Scope) (ux18_3 : Option Scope) (vx18_3 : Str) (px18_3 : Pos) (nx18 : Str) (hx18 : List Expr) (kx18 : List Keyword) (dx18 : List Expr) (tx18 : List TypeParam) (sx18 : Scope) (ux18 : Option Scope) (vx18 : Str) (wx18 : List Str) (px18 : Pos) (nx19 : Str) (ax19 : Arguments) (bx19 : List Stmt) (dx19 : List Expr) (rx19 : Option Expr) (tx19 : List TypeParam) (sx19 : Scope) (ux19 : Option Scope) (vx19 : Str) (px19 : Pos) (nx20 : Str) (ax20 : Arguments) (bx20 : List Stmt) (dx20 : List Expr) (rx20 : Option Expr) (tx20 : List TypeParam) (sx20 : Scope) (ux20 : Option Scope) (vx20 : Str) (px20 : Pos) (nx21 : Str) (ax21 : Arguments) (bx21 : List Stmt) (dx21 : List Expr) (rx21 : Option Expr) (tx21 : List TypeParam) (sx21 : Scope) (ux21 : Option Scope) (vx21 : Str) (px21 : Pos) (nx25 : Str) (ax25 : Arguments) (bx25 : List Stmt) (dx25 : List Expr) (rx25 : Option Expr) (tx25 : List TypeParam) (sx25 : Scope) (ux25 : Option Scope) (vx25 : Str) (px25 : Pos) (nx26 : Str) (ax26 : Arguments) (bx26 : List Stmt) (dx26 : List Expr) (rx26 : Option Expr) (tx26 : List TypeParam) (sx26 : Scope) (ux26 : Option Scope) (vx26 : Str) (px26 : Pos) (nx27 : Str) (ax27 : Arguments) (bx27 : List Stmt) (dx27 : List Expr) (rx27 : Option Expr) (tx27 : List TypeParam) (sx27 : Scope) (ux27 : Option Scope) (vx27 : Str) (px27 : Pos) (nx28 : Str) (ax28 : Arguments) (bx28 : List Stmt) (dx28 : List Expr) (rx28 : Option Expr) (tx28 : List TypeParam) (sx28 : Scope) (ux28 : Option Scope) (vx28 : Str) (px28 : Pos) (nx30 : Str) (ax30 : Arguments) (bx30 : List Stmt) (dx30 : List Expr) (rx30 : Option Expr) (tx30 : List TypeParam) (sx30 : Scope) (ux30 : Option Scope) (vx30 : Str) (px30 : Pos) (nx31_0 : Str) (ax31_0 : Arguments) (bx31_0 : List Stmt) (dx31_0 : List Expr) (rx31_0 : Option Expr) (tx31_0 : List TypeParam) (sx31_0 : Scope) (ux31_0 : Option Scope) (vx31_0 : Str) (px31_0 : Pos) (nx31_1 : Str) (ax31_1 : Arguments) (bx31_1 : List Stmt) (dx31_1 : List Expr) (rx31_1 : Option Expr) (tx31_1 : List TypeParam) (sx31_1 : Scope) (ux31_1 : Option Scope) (vx31_1 : Str) (px31_1 : Pos) (nx31_2 : Str) (ax31_2 : Arguments) (bx31_2 : List Stmt) (dx31_2 : List Expr) (rx31_2 : Option Expr) (tx31_2 : List TypeParam) (sx31_2 : Scope) (ux31_2 : Option Scope) (vx31_2 : Str) (px31_2 : Pos) (nx31_3 : Str) (ax31_3 : Arguments) (bx31_3 : List Stmt) (dx31_3 : List Expr) (rx31_3 : Option Expr) (tx31_3 : List TypeParam) (sx31_3 : Scope) (ux31_3 : Option Scope) (vx31_3 : Str) (px31_3 : Pos) (nx31_4 : Str) (ax31_4 : Arguments) (bx31_4 : List Stmt) (dx31_4 : List Expr) (rx31_4 : Option Expr) (tx31_4 : List TypeParam) (sx31_4 : Scope) (ux31_4 : Option Scope) (vx31_4 : Str) (px31_4 : Pos) (nx31_5 : Str) (ax31_5 : Arguments) (bx31_5 : List Stmt) (dx31_5 : List Expr) (rx31_5 : Option Expr) (tx31_5 : List TypeParam) (sx31_5 : Scope) (ux31_5 : Option Scope) (vx31_5 : Str) (px31_5 : Pos) (nx31_6 : Str) (ax31_6 : Arguments) (bx31_6 : List Stmt) (dx31_6 : List Expr) (rx31_6 : Option Expr) (tx31_6 : List TypeParam) (sx31_6 : Scope) (ux31_6 : Option Scope) (vx31_6 : Str) (px31_6 : Pos) (nx31_7 : Str) (ax31_7 : Arguments) (bx31_7 : List Stmt) (dx31_7 : List Expr) (rx31_7 : Option Expr) (tx31_7 : List TypeParam) (sx31_7 : Scope) (ux31_7 : Option Scope) (vx31_7 : Str) (px31_7 : Pos) (nx31_8 : Str) (ax31_8 : Arguments) (bx31_8 : List Stmt) (dx31_8 : List Expr) (rx31_8 : Option Expr) (tx31_8 : List TypeParam) (sx31_8 : Scope) (ux31_8 : Option Scope) (vx31_8 : Str) (px31_8 : Pos) (nx31_9 : Str) (ax31_9 : Arguments) (bx31_9 : List Stmt) (dx31_9 : List Expr) (rx31_9 : Option Expr) (tx31_9 : List TypeParam) (sx31_9 : Scope) (ux31_9 : Option Scope) (vx31_9 : Str) (px31_9 : Pos) (nx31_10 : Str) (ax31_10 : Arguments) (bx31_10 : List Stmt) (dx31_10 : List Expr) (rx31_10 : Option Expr) (tx31_10 : List TypeParam) (sx31_10 : Scope) (ux31_10 : Option Scope) (vx31_10 : Str) (px31_10 : Pos) (nx31_11 : Str) (ax31_11 : Arguments) (bx31_11 : List Stmt) (dx31_11 : List Expr) (rx31_11 : Option Expr) (tx31_11 : List TypeParam) (sx31_11 : Scope) (ux31_11 : Option Scope) (vx31_11 : Str) (px31_11 : Pos) (nx31 : Str) (hx31 : List Expr) (kx31 : List Keyword) (dx31 : List Expr) (tx31 : List TypeParam) (sx31 : Scope) (ux31 : Option Scope) (vx31 : Str) (wx31 : List Str) (px31 : Pos) (nx32 : Str) (ax32 : Arguments) (bx32 : List Stmt) (dx32 : List Expr) (rx32 : Option Expr) (tx32 : List TypeParam) (sx32 : Scope) (ux32 : Option Scope) (vx32 : Str) (px32 : Pos) (nx33 : Str) (ax33 : Arguments) (bx33 : List Stmt) (dx33 : List Expr) (rx33 : Option Expr) (tx33 : List TypeParam) (sx33 : Scope) (ux33 : Option Scope) (vx33 : Str) (px33 : Pos) (nx35 : Str) (ax35 : Arguments) (bx35 : List Stmt) (dx35 : List Expr) (rx35 : Option Expr) (tx35 : List TypeParam) (sx35 : Scope) (ux35 : Option Scope) (vx35 : Str) (px35 : Pos) (nx36 : Str) (ax36 : Arguments) (bx36 : List Stmt) (dx36 : List Expr) (rx36 : Option Expr) (tx36 : List TypeParam) (sx36 : Scope) (ux36 : Option Scope) (vx36 : Str) (px36 : Pos) (nx37 : Str) (ax37 : Arguments) (bx37 : List Stmt) (dx37 : List Expr) (rx37 : Option Expr) (tx37 : List TypeParam) (sx37 : Scope) (ux37 : Option Scope) (vx37 : Str) (px37 : Pos) (nx38 : Str) (ax38 : Arguments) (bx38 : List Stmt) (dx38 : List Expr) (rx38 : Option Expr) (tx38 : List TypeParam) (sx38 : Scope) (ux38 : Option Scope) (vx38 : Str) (px38 : Pos) (nx39 : Str) (ax39 : Arguments) (bx39 : List Stmt) (dx39 : List Expr) (rx39 : Option Expr) (tx39 : List TypeParam) (sx39 : Scope) (ux39 : Option Scope) (vx39 : Str) (px39 : Pos) (nx40 : Str) (ax40 : Arguments) (bx40 : List Stmt) (dx40 : List Expr) (rx40 : Option Expr) (tx40 : List TypeParam) (sx40 : Scope) (ux40 : Option Scope) (vx40 : Str) (px40 : Pos) (nx41 : Str) (ax41 : Arguments) (bx41 : List Stmt) (dx41 : List Expr) (rx41 : Option Expr) (tx41 : List TypeParam) (sx41 : Scope) (ux41 : Option Scope) (vx41 : Str) (px41 : Pos) (nx42 : Str) (ax42 : Arguments) (bx42 : List Stmt) (dx42 : List Expr) (rx42 : Option Expr) (tx42 : List TypeParam) (sx42 : Scope) (ux42 : Option Scope) (vx42 : Str) (px42 : Pos) (nx43 : Str) (ax43 : Arguments) (bx43 : List Stmt) (dx43 : List Expr) (rx43 : Option Expr) (tx43 : List TypeParam) (sx43 : Scope) (ux43 : Option Scope) (vx43 : Str) (px43 : Pos) (nx44 : Str) (ax44 : Arguments) (bx44 : List Stmt) (dx44 : List Expr) (rx44 : Option Expr) (tx44 : List TypeParam) (sx44 : Scope) (ux44 : Option Scope) (vx44 : Str) (px44 : Pos) (nx45 : Str) (ax45 : Arguments) (bx45 : List Stmt) (dx45 : List Expr) (rx45 : Option Expr) (tx45 : List TypeParam) (sx45 : Scope) (ux45 : Option Scope) (vx45 : Str) (px45 : Pos) (_ : (Stmt.FunctionDef nx0 ax0 bx0 dx0 rx0 tx0 sx0 ux0 vx0 px0) = st 0) (_ : Stmt.ClassDef nx2 hx2 kx2 [(Stmt.FunctionDef nx2_0 ax2_0 bx2_0 dx2_0 rx2_0 tx2_0 sx2_0 ux2_0 vx2_0 px2_0)] dx2 tx2 sx2 ux2 vx2 wx2 px2 = st 2) (_ : (Stmt.FunctionDef nx11 ax11 bx11 dx11 rx11 tx11 sx11 ux11 vx11 px11) = st 11) (_ : (Stmt.FunctionDef nx12 ax12 bx12 dx12 rx12 tx12 sx12 ux12 vx12 px12) = st 12) (_ : (Stmt.FunctionDef nx13 ax13 bx13 dx13 rx13 tx13 sx13 ux13 vx13 px13) = st 13) (_ : (Stmt.FunctionDef nx14 ax14 bx14 dx14 rx14 tx14 sx14 ux14 vx14 px14) = st 14) (_ : (Stmt.FunctionDef nx15 ax15 bx15 dx15 rx15 tx15 sx15 ux15 vx15 px15) = st 15) (_ : (Stmt.FunctionDef nx16 ax16 bx16 dx16 rx16 tx16 sx16 ux16 vx16 px16) = st 16) (_ : (Stmt.FunctionDef nx17 ax17 bx17 dx17 rx17 tx17 sx17 ux17 vx17 px17) = st 17) (_ : Stmt.ClassDef nx18 hx18 kx18 [(Stmt.FunctionDef nx18_0 ax18_0 bx18_0 dx18_0 rx18_0 tx18_0 sx18_0 ux18_0 vx18_0 px18_0), (Stmt.FunctionDef nx18_1 ax18_1 bx18_1 dx18_1 rx18_1 tx18_1 sx18_1 ux18_1 vx18_1 px18_1), (Stmt.FunctionDef nx18_2 ax18_2 bx18_2 dx18_2 rx18_2 tx18_2 sx18_2 ux18_2 vx18_2 px18_2), (Stmt.FunctionDef nx18_3 ax18_3 bx18_3 dx18_3 rx18_3 tx18_3 sx18_3 ux18_3 vx18_3 px18_3)] dx18 tx18 sx18 ux18 vx18 wx18 px18 = st 18) (_ : (Stmt.FunctionDef nx19 ax19 bx19 dx19 rx19 tx19 sx19 ux19 vx19 px19) = st 19) (_ : (Stmt.FunctionDef nx20 ax20 bx20 dx20 rx20 tx20 sx20 ux20 vx20 px20) = st 20) (_ : (Stmt.FunctionDef nx21 ax21 bx21 dx21 rx21 tx21 sx21 ux21 vx21 px21) = st 21) (_ : (Stmt.FunctionDef nx25 ax25 bx25 dx25 rx25 tx25 sx25 ux25 vx25 px25) = st 25) (_ : (Stmt.FunctionDef nx26 ax26 bx26 dx26 rx26 tx26 sx26 ux26 vx26 px26) = st 26) (_ : (Stmt.FunctionDef nx27 ax27 bx27 dx27 rx27 tx27 sx27 ux27 vx27 px27) = st 27) (_ : (Stmt.FunctionDef nx28 ax28 bx28 dx28 rx28 tx28 sx28 ux28 vx28 px28) = st 28) (_ : (Stmt.FunctionDef nx30 ax30 bx30 dx30 rx30 tx30 sx30 ux30 vx30 px30) = st 30) (_ : Stmt.ClassDef nx31 hx31 kx31 [(Stmt.FunctionDef nx31_0 ax31_0 bx31_0 dx31_0 rx31_0 tx31_0 sx31_0 ux31_0 vx31_0 px31_0), (Stmt.FunctionDef nx31_1 ax31_1 bx31_1 dx31_1 rx31_1 tx31_1 sx31_1 ux31_1 vx31_1 px31_1), (Stmt.FunctionDef nx31_2 ax31_2 bx31_2 dx31_2 rx31_2 tx31_2 sx31_2 ux31_2 vx31_2 px31_2), (Stmt.FunctionDef nx31_3 ax31_3 bx31_3 dx31_3 rx31_3 tx31_3 sx31_3 ux31_3 vx31_3 px31_3), (Stmt.FunctionDef nx31_4 ax31_4 bx31_4 dx31_4 rx31_4 tx31_4 sx31_4 ux31_4 vx31_4 px31_4), (Stmt.FunctionDef nx31_5 ax31_5 bx31_5 dx31_5 rx31_5 tx31_5 sx31_5 ux31_5 vx31_5 px31_5), (Stmt.FunctionDef nx31_6 ax31_6 bx31_6 dx31_6 rx31_6 tx31_6 sx31_6 ux31_6 vx31_6 px31_6), (Stmt.FunctionDef nx31_7 ax31_7 bx31_7 dx31_7 rx31_7 tx31_7 sx31_7 ux31_7 vx31_7 px31_7), (Stmt.FunctionDef nx31_8 ax31_8 bx31_8 dx31_8 rx31_8 tx31_8 sx31_8 ux31_8 vx31_8 px31_8), (Stmt.FunctionDef nx31_9 ax31_9 bx31_9 dx31_9 rx31_9 tx31_9 sx31_9 ux31_9 vx31_9 px31_9), (Stmt.FunctionDef nx31_10 ax31_10 bx31_10 dx31_10 rx31_10 tx31_10 sx31_10 ux31_10 vx31_10 px31_10), (Stmt.FunctionDef nx31_11 ax31_11 bx31_11 dx31_11 rx31_11 tx31_11 sx31_11 ux31_11 vx31_11 px31_11)] dx31 tx31 sx31 ux31 vx31 wx31 px31 = st 31) (_ : (Stmt.FunctionDef nx32 ax32 bx32 dx32 rx32 tx32 sx32 ux32 vx32 px32) = st 32) (_ : (Stmt.FunctionDef nx33 ax33 bx33 dx33 rx33 tx33 sx33 ux33 vx33 px33) = st 33) (_ : (Stmt.FunctionDef nx35 ax35 bx35 dx35 rx35 tx35 sx35 ux35 vx35 px35) = st 35) (_ : (Stmt.FunctionDef nx36 ax36 bx36 dx36 rx36 tx36 sx36 ux36 vx36 px36) = st 36) (_ : (Stmt.FunctionDef nx37 ax37 bx37 dx37 rx37 tx37 sx37 ux37 vx37 px37) = st 37) (_ : (Stmt.FunctionDef nx38 ax38 bx38 dx38 rx38 tx38 sx38 ux38 vx38 px38) = st 38) (_ : (Stmt.FunctionDef nx39 ax39 bx39 dx39 rx39 tx39 sx39 ux39 vx39 px39) = st 39) (_ : (Stmt.FunctionDef nx40 ax40 bx40 dx40 rx40 tx40 sx40 ux40 vx40 px40) = st 40) (_ : (Stmt.FunctionDef nx41 ax41 bx41 dx41 rx41 tx41 sx41 ux41 vx41 px41) = st 41) (_ : (Stmt.FunctionDef nx42 ax42 bx42 dx42 rx42 tx42 sx42 ux42 vx42 px42) = st 42) (_ : (Stmt.FunctionDef nx43 ax43 bx43 dx43 rx43 tx43 sx43 ux43 vx43 px43) = st 43) (_ : (Stmt.FunctionDef nx44 ax44 bx44 dx44 rx44 tx44 sx44 ux44 vx44 px44) = st 44) (_ : (Stmt.FunctionDef nx45 ax45 bx45 dx45 rx45 tx45 sx45 ux45 vx45 px45) = st 45) => ((((nat_lit 2), (Obj.mk Value.none none (Data.dict (List.toArray [(DictEntry.mk (PyData.keyHash P (Str.ofString "type.__subclasses__.Exception.0")) (Value.str (Str.ofString "type.__subclasses__.Exception.0") 221) (Value.int 38 0)), (DictEntry.mk (PyData.keyHash P (Str.ofString "type.__subclasses__.Exception.n")) (Value.str (Str.ofString "type.__subclasses__.Exception.n") 222) (Value.int 1 0))]) 2) (List.toArray []))) :: ((nat_lit 3), (Obj.mk (Value.type "dict") none (Data.dict (List.toArray ((DictEntry.mk (PyData.keyHash P (Str.ofString "__name__")) (Value.str (Str.ofString "__name__") 165) (Value.str (Str.ofString "law_xm0732_01") 610)) :: (DictEntry.mk (PyData.keyHash P (Str.ofString "__doc__")) (Value.str (Str.ofString "__doc__") 166) Value.none) :: (DictEntry.mk (PyData.keyHash P (Str.ofString "__package__")) (Value.str (Str.ofString "__package__") 167) Value.none) :: (DictEntry.mk (PyData.keyHash P (Str.ofString "__loader__")) (Value.str (Str.ofString "__loader__") 168) (Value.builtin "__main__.__loader__#opaque")) :: (DictEntry.mk (PyData.keyHash P (Str.ofString "__spec__")) (Value.str (Str.ofString "__spec__") 169) Value.none) :: (DictEntry.mk (PyData.keyHash P (Str.ofString "__annotations__")) (Value.str (Str.ofString "__annotations__") 170) (Value.ref 6)) :: (DictEntry.mk (PyData.keyHash P (Str.ofString "__builtins__")) (Value.str (Str.ofString "__builtins__") 171) (Value.ref 4)) :: (DictEntry.mk (PyData.keyHash P (Str.ofString "__file__")) (Value.str (Str.ofString "__file__") 173) (Value.str (Str.ofString "/claim/cut.py") 172)) :: (DictEntry.mk (PyData.keyHash P (Str.ofString "__cached__")) (Value.str (Str.ofString "__cached__") 174) Value.none) :: (DictEntry.mk (PyData.keyHash P (Str.ofString "_wall")) (Value.str (Str.ofString "_wall") 193) (Value.ref 21)) :: (DictEntry.mk (PyData.keyHash P (Str.ofString "MillError")) (Value.str (Str.ofString "MillError") 224) (Value.ref 38)) :: (DictEntry.mk (PyData.keyHash P (Str.ofString "NumberFault")) (Value.str (Str.ofString "NumberFault") 240) (Value.ref 51)) :: (DictEntry.mk (PyData.keyHash P (Str.ofString "SheetFault")) (Value.str (Str.ofString "SheetFault") 256) (Value.ref 63)) :: (DictEntry.mk (PyData.keyHash P (Str.ofString "ZERO")) (Value.str (Str.ofString "ZERO") 261) (Value.ref 66)) :: (DictEntry.mk (PyData.keyHash P (Str.ofString "DIGITS")) (Value.str (Str.ofString "DIGITS") 263) (Value.str (Str.ofString "0123456789") 262)) :: (DictEntry.mk (PyData.keyHash P (Str.ofString "MOST_EXPONENT")) (Value.str (Str.ofString "MOST_EXPONENT") 265) (Value.int 300 264)) :: (DictEntry.mk (PyData.keyHash P (Str.ofString "MOST_FIGURES")) (Value.str (Str.ofString "MOST_FIGURES") 267) (Value.int 60 266)) :: (DictEntry.mk (PyData.keyHash P (Str.ofString "MOST_VALUE")) (Value.str (Str.ofString "MOST_VALUE") 271) (Value.int 1000000000000000000000000000000000000000000000000000000000000 270)) :: (DictEntry.mk (PyData.keyHash P (Str.ofString "common_divisor")) (Value.str (Str.ofString "common_divisor") 281) (Value.ref 73)) :: (DictEntry.mk (PyData.keyHash P (Str.ofString "fraction")) (Value.str (Str.ofString "fraction") 291) (Value.ref 81)) :: (DictEntry.mk (PyData.keyHash P (Str.ofString "times")) (Value.str (Str.ofString "times") 299) (Value.ref 88)) :: (DictEntry.mk (PyData.keyHash P (Str.ofString "divided")) (Value.str (Str.ofString "divided") 307) (Value.ref 95)) :: (DictEntry.mk (PyData.keyHash P (Str.ofString "sign_of")) (Value.str (Str.ofString "sign_of") 314) (Value.ref 102)) :: (DictEntry.mk (PyData.keyHash P (Str.ofString "compare")) (Value.str (Str.ofString "compare") 322) (Value.ref 109)) :: (DictEntry.mk (PyData.keyHash P (Str.ofString "rounded")) (Value.str (Str.ofString "rounded") 329) (Value.ref 116)) :: (DictEntry.mk (PyData.keyHash P (Str.ofString "NumberText")) (Value.str (Str.ofString "NumberText") 383) (Value.ref 154)) :: (DictEntry.mk (PyData.keyHash P (Str.ofString "whole_of")) (Value.str (Str.ofString "whole_of") 392) (Value.ref 165)) :: (DictEntry.mk (PyData.keyHash P (Str.ofString "read_exponent")) (Value.str (Str.ofString "read_exponent") 401) (Value.ref 172)) :: (DictEntry.mk (PyData.keyHash P (Str.ofString "read_decimal")) (Value.str (Str.ofString "read_decimal") 415) (Value.ref 179)) :: (DictEntry.mk (PyData.keyHash P (Str.ofString "HUNDRED")) (Value.str (Str.ofString "HUNDRED") 420) (Value.ref 180)) :: (DictEntry.mk (PyData.keyHash P (Str.ofString "MOST_SIZE")) (Value.str (Str.ofString "MOST_SIZE") 424) (Value.int 100000000000000000000000000000000000000000000000000 423)) :: (DictEntry.mk (PyData.keyHash P (Str.ofString "handed_down")) (Value.str (Str.ofString "handed_down") 430) (Value.ref 187)) :: (DictEntry.mk (PyData.keyHash P (Str.ofString "not_handed_down")) (Value.str (Str.ofString "not_handed_down") 436) (Value.ref 194)) :: (DictEntry.mk (PyData.keyHash P (Str.ofString "unit_of")) (Value.str (Str.ofString "unit_of") 444) (Value.ref 201)) :: (DictEntry.mk (PyData.keyHash P (Str.ofString "length")) (Value.str (Str.ofString "length") 459) (Value.ref 210)) :: (DictEntry.mk (PyData.keyHash P (Str.ofString "length_styles")) (Value.str (Str.ofString "length_styles") 460) (Value.ref 210)) :: (DictEntry.mk (PyData.keyHash P (Str.ofString "bounded")) (Value.str (Str.ofString "bounded") 467) (Value.ref 217)) :: (DictEntry.mk (PyData.keyHash P (Str.ofString "Look")) (Value.str (Str.ofString "Look") 593) (Value.ref 317)) :: (DictEntry.mk (PyData.keyHash P (Str.ofString "first_look")) (Value.str (Str.ofString "first_look") 600) (Value.ref 328)) :: (DictEntry.mk (PyData.keyHash P (Str.ofString "own_font_size")) (Value.str (Str.ofString "own_font_size") 609) (Value.ref 335)) :: (DictEntry.mk (PyData.keyHash P (Str.ofString "_law_pool")) (Value.str (Str.ofString "_law_pool") 620) (Value.ref 342)) :: (DictEntry.mk (PyData.keyHash P (Str.ofString "_law_take")) (Value.str (Str.ofString "_law_take") 629) (Value.ref 349)) :: (DictEntry.mk (PyData.keyHash P (Str.ofString "_law_one")) (Value.str (Str.ofString "_law_one") 637) (Value.ref 356)) :: (DictEntry.mk (PyData.keyHash P (Str.ofString "_law_lowest")) (Value.str (Str.ofString "_law_lowest") 647) (Value.ref 363)) :: (DictEntry.mk (PyData.keyHash P (Str.ofString "_law_answer")) (Value.str (Str.ofString "_law_answer") 656) (Value.ref 370)) :: (DictEntry.mk (PyData.keyHash P (Str.ofString "_law_due")) (Value.str (Str.ofString "_law_due") 667) (Value.ref 377)) :: (DictEntry.mk (PyData.keyHash P (Str.ofString "_law_number")) (Value.str (Str.ofString "_law_number") 683) (Value.ref 384)) :: (DictEntry.mk (PyData.keyHash P (Str.ofString "_law_around")) (Value.str (Str.ofString "_law_around") 693) (Value.ref 391)) :: (DictEntry.mk (PyData.keyHash P (Str.ofString "_law_unit")) (Value.str (Str.ofString "_law_unit") 700) (Value.ref 398)) :: (DictEntry.mk (PyData.keyHash P (Str.ofString "_law_is_right")) (Value.str (Str.ofString "_law_is_right") 716) (Value.ref 405)) :: (DictEntry.mk (PyData.keyHash P (Str.ofString "law")) (Value.str (Str.ofString "law") 726) (Value.ref 412)) :: [])) 51) (List.toArray []))) :: ((nat_lit 15), (Obj.mk (Value.type "tuple") none (Data.seq (List.toArray []) 0) (List.toArray []))) :: ((nat_lit 17), (Obj.mk (Value.type "tuple") none (Data.seq (List.toArray [(Value.str (Str.ofString "k") 190)]) 0) (List.toArray []))) :: ((nat_lit 18), (Obj.mk (Value.type "tuple") none (Data.seq (List.toArray []) 0) (List.toArray []))) :: ((nat_lit 20), (Obj.mk (Value.type "code") none (Data.fields (List.toArray [(Value.str (Str.ofString "_wall") 187), (Value.str (Str.ofString "_wall") 188), (Value.str (Str.ofString "/claim/cut.py") 189), (Value.int 1 0), (Value.int 1 0), (Value.int 0 0), (Value.int 0 0), (Value.int 3 0), (Value.ref 15), (Value.bool Bool.true), (Value.int 181 0), (Value.ref 16), Value.none, (Value.ref 17), (Value.ref 18), (Value.ref 19), (Value.int 191 0), (Value.int 1 0), (Value.str (Str.ofString "/claim/cut.py") 192)])) (List.toArray []))) :: ((nat_lit 21), (Obj.mk (Value.type "function") none (Data.func (FuncData.mk (Str.ofString "_wall") (Str.ofString "_wall") ax0 (FuncBody.stmts bx0) sx0 3 [] Value.none Value.none Value.none (Value.str (Str.ofString "__main__") 164) none (Value.ref 20) Value.none 0)) (List.toArray []))) :: ((nat_lit 22), (Obj.mk (Value.type "tuple") none (Data.seq (List.toArray [(Value.type "Exception")]) 0) (List.toArray []))) :: ((nat_lit 29), (Obj.mk (Value.type "tuple") none (Data.seq (List.toArray []) 0) (List.toArray []))) :: ((nat_lit 31), (Obj.mk (Value.type "tuple") none (Data.seq (List.toArray [(Value.str (Str.ofString "self") 211), (Value.str (Str.ofString "message") 212)]) 0) (List.toArray []))) :: ((nat_lit 32), (Obj.mk (Value.type "tuple") none (Data.seq (List.toArray []) 0) (List.toArray []))) :: ((nat_lit 34), (Obj.mk (Value.type "code") none (Data.fields (List.toArray [(Value.str (Str.ofString "__init__") 208), (Value.str (Str.ofString "MillError.__init__") 209), (Value.str (Str.ofString "/claim/cut.py") 210), (Value.int 7 0), (Value.int 2 0), (Value.int 0 0), (Value.int 0 0), (Value.int 3 0), (Value.ref 29), (Value.bool Bool.true), (Value.int 181 0), (Value.ref 30), Value.none, (Value.ref 31), (Value.ref 32), (Value.ref 33), (Value.int 213 0), (Value.int 7 0), (Value.str (Str.ofString "/claim/cut.py") 214)])) (List.toArray []))) :: ((nat_lit 35), (Obj.mk (Value.type "function") none (Data.func (FuncData.mk (Str.ofString "__init__") (Str.ofString "MillError.__init__") ax2_0 (FuncBody.stmts bx2_0) sx2_0 3 [] Value.none Value.none Value.none (Value.str (Str.ofString "outlinemill.errors") 194) none (Value.ref 34) Value.none 0)) (List.toArray []))) :: ((nat_lit 36), (Obj.mk (Value.type "tuple") none (Data.seq (List.toArray [(Value.str (Str.ofString "message") 216)]) 0) (List.toArray []))) :: ((nat_lit 37), (Obj.mk (Value.type "dict") none (Data.dict (List.toArray [(DictEntry.mk (PyData.keyHash P (Str.ofString "__module__")) (Value.str (Str.ofString "__module__") 203) (Value.str (Str.ofString "outlinemill.errors") 194)), (DictEntry.mk (PyData.keyHash P (Str.ofString "__firstlineno__")) (Value.str (Str.ofString "__firstlineno__") 207) (Value.int 5 206)), (DictEntry.mk (PyData.keyHash P (Str.ofString "__init__")) (Value.str (Str.ofString "__init__") 215) (Value.ref 35)), (DictEntry.mk (PyData.keyHash P (Str.ofString "__static_attributes__")) (Value.str (Str.ofString "__static_attributes__") 217) (Value.ref 36)), (DictEntry.mk (PyData.keyHash P (Str.ofString "__weakref__")) (Value.str (Str.ofString "__weakref__") 219) (Value.ref 39)), (DictEntry.mk (PyData.keyHash P (Str.ofString "__doc__")) (Value.str (Str.ofString "__doc__") 220) Value.none)]) 3) (List.toArray []))) :: ((nat_lit 38), (Obj.mk (Value.type "type") none (Data.cls (ClassData.mk (Str.ofString "MillError") [(Value.type "Exception")] [(Value.ref 38), (Value.type "Exception"), (Value.type "BaseException"), (Value.type "object")] 37 (Str.ofString "MillError") Bool.true [] [(Value.ref 51), (Value.ref 63)] Bool.false none Bool.false)) (List.toArray [(Option.some (Value.ref 22)), none, (Option.some (Value.str (Str.ofString "MillError") 196)), (Option.some (Value.str (Str.ofString "MillError") 204)), (Option.some (Value.builtin "Exception.__new__")), (Option.some (Value.bool Bool.true))]))) :: ((nat_lit 39), (Obj.mk (Value.type "getset_descriptor") none (Data.fields (List.toArray [(Value.str (Str.ofString "__weakref__") 218), (Value.ref 38), (Value.builtin "ExceptionGroup.__weakref__"), Value.none])) (List.toArray []))) :: ((nat_lit 42), (Obj.mk (Value.type "tuple") none (Data.seq (List.toArray [(Value.ref 38)]) 0) (List.toArray []))) :: ((nat_lit 49), (Obj.mk (Value.type "tuple") none (Data.seq (List.toArray []) 0) (List.toArray []))) :: ((nat_lit 50), (Obj.mk (Value.type "dict") none (Data.dict (List.toArray [(DictEntry.mk (PyData.keyHash P (Str.ofString "__module__")) (Value.str (Str.ofString "__module__") 232) (Value.str (Str.ofString "outlinemill.errors") 194)), (DictEntry.mk (PyData.keyHash P (Str.ofString "__firstlineno__")) (Value.str (Str.ofString "__firstlineno__") 236) (Value.int 9 235)), (DictEntry.mk (PyData.keyHash P (Str.ofString "__static_attributes__")) (Value.str (Str.ofString "__static_attributes__") 237) (Value.ref 49)), (DictEntry.mk (PyData.keyHash P (Str.ofString "__doc__")) (Value.str (Str.ofString "__doc__") 238) Value.none)]) 2) (List.toArray []))) :: ((nat_lit 51), (Obj.mk (Value.type "type") none (Data.cls (ClassData.mk (Str.ofString "NumberFault") [(Value.ref 38)] [(Value.ref 51), (Value.ref 38), (Value.type "Exception"), (Value.type "BaseException"), (Value.type "object")] 50 (Str.ofString "NumberFault") Bool.true [] [] Bool.false none Bool.false)) (List.toArray [(Option.some (Value.ref 42)), none, (Option.some (Value.str (Str.ofString "NumberFault") 225)), (Option.some (Value.str (Str.ofString "NumberFault") 233)), (Option.some (Value.builtin "Exception.__new__")), (Option.some (Value.bool Bool.true))]))) :: ((nat_lit 54), (Obj.mk (Value.type "tuple") none (Data.seq (List.toArray [(Value.ref 38)]) 0) (List.toArray []))) :: ((nat_lit 61), (Obj.mk (Value.type "tuple") none (Data.seq (List.toArray []) 0) (List.toArray []))) :: ((nat_lit 62), (Obj.mk (Value.type "dict") none (Data.dict (List.toArray [(DictEntry.mk (PyData.keyHash P (Str.ofString "__module__")) (Value.str (Str.ofString "__module__") 248) (Value.str (Str.ofString "outlinemill.errors") 194)), (DictEntry.mk (PyData.keyHash P (Str.ofString "__firstlineno__")) (Value.str (Str.ofString "__firstlineno__") 252) (Value.int 11 251)), (DictEntry.mk (PyData.keyHash P (Str.ofString "__static_attributes__")) (Value.str (Str.ofString "__static_attributes__") 253) (Value.ref 61)), (DictEntry.mk (PyData.keyHash P (Str.ofString "__doc__")) (Value.str (Str.ofString "__doc__") 254) Value.none)]) 2) (List.toArray []))) :: ((nat_lit 63), (Obj.mk (Value.type "type") none (Data.cls (ClassData.mk (Str.ofString "SheetFault") [(Value.ref 38)] [(Value.ref 63), (Value.ref 38), (Value.type "Exception"), (Value.type "BaseException"), (Value.type "object")] 62 (Str.ofString "SheetFault") Bool.true [] [] Bool.false none Bool.false)) (List.toArray [(Option.some (Value.ref 54)), none, (Option.some (Value.str (Str.ofString "SheetFault") 241)), (Option.some (Value.str (Str.ofString "SheetFault") 249)), (Option.some (Value.builtin "Exception.__new__")), (Option.some (Value.bool Bool.true))]))) :: ((nat_lit 66), (Obj.mk (Value.type "tuple") none (Data.seq (List.toArray [(Value.int 0 259), (Value.int 1 260)]) 0) (List.toArray []))) :: ((nat_lit 67), (Obj.mk (Value.type "tuple") none (Data.seq (List.toArray []) 0) (List.toArray []))) :: ((nat_lit 69), (Obj.mk (Value.type "tuple") none (Data.seq (List.toArray [(Value.str (Str.ofString "one") 275), (Value.str (Str.ofString "other") 276), (Value.str (Str.ofString "first") 277), (Value.str (Str.ofString "second") 278)]) 0) (List.toArray []))) :: ((nat_lit 70), (Obj.mk (Value.type "tuple") none (Data.seq (List.toArray []) 0) (List.toArray []))) :: ((nat_lit 72), (Obj.mk (Value.type "code") none (Data.fields (List.toArray [(Value.str (Str.ofString "common_divisor") 272), (Value.str (Str.ofString "common_divisor") 273), (Value.str (Str.ofString "/claim/cut.py") 274), (Value.int 19 0), (Value.int 2 0), (Value.int 0 0), (Value.int 0 0), (Value.int 3 0), (Value.ref 67), (Value.bool Bool.true), (Value.int 181 0), (Value.ref 68), Value.none, (Value.ref 69), (Value.ref 70), (Value.ref 71), (Value.int 279 0), (Value.int 19 0), (Value.str (Str.ofString "/claim/cut.py") 280)])) (List.toArray []))) :: ((nat_lit 73), (Obj.mk (Value.type "function") none (Data.func (FuncData.mk (Str.ofString "common_divisor") (Str.ofString "common_divisor") ax11 (FuncBody.stmts bx11) sx11 3 [] Value.none Value.none Value.none (Value.str (Str.ofString "outlinemill.exact") 257) none (Value.ref 72) Value.none 0)) (List.toArray []))) :: ((nat_lit 74), (Obj.mk (Value.type "tuple") none (Data.seq (List.toArray [(Value.int 1 282)]) 0) (List.toArray []))) :: ((nat_lit 75), (Obj.mk (Value.type "tuple") none (Data.seq (List.toArray []) 0) (List.toArray []))) :: ((nat_lit 77), (Obj.mk (Value.type "tuple") none (Data.seq (List.toArray [(Value.str (Str.ofString "top") 286), (Value.str (Str.ofString "bottom") 287), (Value.str (Str.ofString "common") 288)]) 0) (List.toArray []))) :: ((nat_lit 78), (Obj.mk (Value.type "tuple") none (Data.seq (List.toArray []) 0) (List.toArray []))) :: ((nat_lit 80), (Obj.mk (Value.type "code") none (Data.fields (List.toArray [(Value.str (Str.ofString "fraction") 283), (Value.str (Str.ofString "fraction") 284), (Value.str (Str.ofString "/claim/cut.py") 285), (Value.int 24 0), (Value.int 2 0), (Value.int 0 0), (Value.int 0 0), (Value.int 3 0), (Value.ref 75), (Value.bool Bool.true), (Value.int 181 0), (Value.ref 76), Value.none, (Value.ref 77), (Value.ref 78), (Value.ref 79), (Value.int 289 0), (Value.int 24 0), (Value.str (Str.ofString "/claim/cut.py") 290)])) (List.toArray []))) :: ((nat_lit 81), (Obj.mk (Value.type "function") none (Data.func (FuncData.mk (Str.ofString "fraction") (Str.ofString "fraction") ax12 (FuncBody.stmts bx12) sx12 3 [] (Value.ref 74) Value.none Value.none (Value.str (Str.ofString "outlinemill.exact") 257) none (Value.ref 80) Value.none 0)) (List.toArray []))) :: ((nat_lit 82), (Obj.mk (Value.type "tuple") none (Data.seq (List.toArray []) 0) (List.toArray []))) :: ((nat_lit 84), (Obj.mk (Value.type "tuple") none (Data.seq (List.toArray [(Value.str (Str.ofString "a") 295), (Value.str (Str.ofString "b") 296)]) 0) (List.toArray []))) :: ((nat_lit 85), (Obj.mk (Value.type "tuple") none (Data.seq (List.toArray []) 0) (List.toArray []))) :: ((nat_lit 87), (Obj.mk (Value.type "code") none (Data.fields (List.toArray [(Value.str (Str.ofString "times") 292), (Value.str (Str.ofString "times") 293), (Value.str (Str.ofString "/claim/cut.py") 294), (Value.int 31 0), (Value.int 2 0), (Value.int 0 0), (Value.int 0 0), (Value.int 3 0), (Value.ref 82), (Value.bool Bool.true), (Value.int 181 0), (Value.ref 83), Value.none, (Value.ref 84), (Value.ref 85), (Value.ref 86), (Value.int 297 0), (Value.int 31 0), (Value.str (Str.ofString "/claim/cut.py") 298)])) (List.toArray []))) :: ((nat_lit 88), (Obj.mk (Value.type "function") none (Data.func (FuncData.mk (Str.ofString "times") (Str.ofString "times") ax13 (FuncBody.stmts bx13) sx13 3 [] Value.none Value.none Value.none (Value.str (Str.ofString "outlinemill.exact") 257) none (Value.ref 87) Value.none 0)) (List.toArray []))) :: ((nat_lit 89), (Obj.mk (Value.type "tuple") none (Data.seq (List.toArray []) 0) (List.toArray []))) :: ((nat_lit 91), (Obj.mk (Value.type "tuple") none (Data.seq (List.toArray [(Value.str (Str.ofString "a") 303), (Value.str (Str.ofString "b") 304)]) 0) (List.toArray []))) :: ((nat_lit 92), (Obj.mk (Value.type "tuple") none (Data.seq (List.toArray []) 0) (List.toArray []))) :: ((nat_lit 94), (Obj.mk (Value.type "code") none (Data.fields (List.toArray [(Value.str (Str.ofString "divided") 300), (Value.str (Str.ofString "divided") 301), (Value.str (Str.ofString "/claim/cut.py") 302), (Value.int 33 0), (Value.int 2 0), (Value.int 0 0), (Value.int 0 0), (Value.int 3 0), (Value.ref 89), (Value.bool Bool.true), (Value.int 181 0), (Value.ref 90), Value.none, (Value.ref 91), (Value.ref 92), (Value.ref 93), (Value.int 305 0), (Value.int 33 0), (Value.str (Str.ofString "/claim/cut.py") 306)])) (List.toArray []))) :: ((nat_lit 95), (Obj.mk (Value.type "function") none (Data.func (FuncData.mk (Str.ofString "divided") (Str.ofString "divided") ax14 (FuncBody.stmts bx14) sx14 3 [] Value.none Value.none Value.none (Value.str (Str.ofString "outlinemill.exact") 257) none (Value.ref 94) Value.none 0)) (List.toArray []))) :: ((nat_lit 96), (Obj.mk (Value.type "tuple") none (Data.seq (List.toArray []) 0) (List.toArray []))) :: ((nat_lit 98), (Obj.mk (Value.type "tuple") none (Data.seq (List.toArray [(Value.str (Str.ofString "a") 311)]) 0) (List.toArray []))) :: ((nat_lit 99), (Obj.mk (Value.type "tuple") none (Data.seq (List.toArray []) 0) (List.toArray []))) :: ((nat_lit 101), (Obj.mk (Value.type "code") none (Data.fields (List.toArray [(Value.str (Str.ofString "sign_of") 308), (Value.str (Str.ofString "sign_of") 309), (Value.str (Str.ofString "/claim/cut.py") 310), (Value.int 37 0), (Value.int 1 0), (Value.int 0 0), (Value.int 0 0), (Value.int 3 0), (Value.ref 96), (Value.bool Bool.true), (Value.int 181 0), (Value.ref 97), Value.none, (Value.ref 98), (Value.ref 99), (Value.ref 100), (Value.int 312 0), (Value.int 37 0), (Value.str (Str.ofString "/claim/cut.py") 313)])) (List.toArray []))) :: ((nat_lit 102), (Obj.mk (Value.type "function") none (Data.func (FuncData.mk (Str.ofString "sign_of") (Str.ofString "sign_of") ax15 (FuncBody.stmts bx15) sx15 3 [] Value.none Value.none Value.none (Value.str (Str.ofString "outlinemill.exact") 257) none (Value.ref 101) Value.none 0)) (List.toArray []))) :: ((nat_lit 103), (Obj.mk (Value.type "tuple") none (Data.seq (List.toArray []) 0) (List.toArray []))) :: ((nat_lit 105), (Obj.mk (Value.type "tuple") none (Data.seq (List.toArray [(Value.str (Str.ofString "a") 318), (Value.str (Str.ofString "b") 319)]) 0) (List.toArray []))) :: ((nat_lit 106), (Obj.mk (Value.type "tuple") none (Data.seq (List.toArray []) 0) (List.toArray []))) :: ((nat_lit 108), (Obj.mk (Value.type "code") none (Data.fields (List.toArray [(Value.str (Str.ofString "compare") 315), (Value.str (Str.ofString "compare") 316), (Value.str (Str.ofString "/claim/cut.py") 317), (Value.int 43 0), (Value.int 2 0), (Value.int 0 0), (Value.int 0 0), (Value.int 3 0), (Value.ref 103), (Value.bool Bool.true), (Value.int 181 0), (Value.ref 104), Value.none, (Value.ref 105), (Value.ref 106), (Value.ref 107), (Value.int 320 0), (Value.int 43 0), (Value.str (Str.ofString "/claim/cut.py") 321)])) (List.toArray []))) :: ((nat_lit 109), (Obj.mk (Value.type "function") none (Data.func (FuncData.mk (Str.ofString "compare") (Str.ofString "compare") ax16 (FuncBody.stmts bx16) sx16 3 [] Value.none Value.none Value.none (Value.str (Str.ofString "outlinemill.exact") 257) none (Value.ref 108) Value.none 0)) (List.toArray []))) :: ((nat_lit 110), (Obj.mk (Value.type "tuple") none (Data.seq (List.toArray []) 0) (List.toArray []))) :: ((nat_lit 112), (Obj.mk (Value.type "tuple") none (Data.seq (List.toArray [(Value.str (Str.ofString "a") 326)]) 0) (List.toArray []))) :: ((nat_lit 113), (Obj.mk (Value.type "tuple") none (Data.seq (List.toArray []) 0) (List.toArray []))) :: ((nat_lit 115), (Obj.mk (Value.type "code") none (Data.fields (List.toArray [(Value.str (Str.ofString "rounded") 323), (Value.str (Str.ofString "rounded") 324), (Value.str (Str.ofString "/claim/cut.py") 325), (Value.int 45 0), (Value.int 1 0), (Value.int 0 0), (Value.int 0 0), (Value.int 3 0), (Value.ref 110), (Value.bool Bool.true), (Value.int 181 0), (Value.ref 111), Value.none, (Value.ref 112), (Value.ref 113), (Value.ref 114), (Value.int 327 0), (Value.int 45 0), (Value.str (Str.ofString "/claim/cut.py") 328)])) (List.toArray []))) :: ((nat_lit 116), (Obj.mk (Value.type "function") none (Data.func (FuncData.mk (Str.ofString "rounded") (Str.ofString "rounded") ax17 (FuncBody.stmts bx17) sx15 3 [] Value.none Value.none Value.none (Value.str (Str.ofString "outlinemill.exact") 257) none (Value.ref 115) Value.none 0)) (List.toArray []))) :: ((nat_lit 124), (Obj.mk (Value.type "tuple") none (Data.seq (List.toArray []) 0) (List.toArray []))) :: ((nat_lit 126), (Obj.mk (Value.type "tuple") none (Data.seq (List.toArray [(Value.str (Str.ofString "self") 345), (Value.str (Str.ofString "text") 346)]) 0) (List.toArray []))) :: ((nat_lit 127), (Obj.mk (Value.type "tuple") none (Data.seq (List.toArray []) 0) (List.toArray []))) :: ((nat_lit 129), (Obj.mk (Value.type "code") none (Data.fields (List.toArray [(Value.str (Str.ofString "__init__") 342), (Value.str (Str.ofString "NumberText.__init__") 343), (Value.str (Str.ofString "/claim/cut.py") 344), (Value.int 49 0), (Value.int 2 0), (Value.int 0 0), (Value.int 0 0), (Value.int 3 0), (Value.ref 124), (Value.bool Bool.true), (Value.int 181 0), (Value.ref 125), Value.none, (Value.ref 126), (Value.ref 127), (Value.ref 128), (Value.int 347 0), (Value.int 49 0), (Value.str (Str.ofString "/claim/cut.py") 348)])) (List.toArray []))) :: ((nat_lit 130), (Obj.mk (Value.type "function") none (Data.func (FuncData.mk (Str.ofString "__init__") (Str.ofString "NumberText.__init__") ax18_0 (FuncBody.stmts bx18_0) sx18_0 3 [] Value.none Value.none Value.none (Value.str (Str.ofString "outlinemill.exact") 257) none (Value.ref 129) Value.none 0)) (List.toArray []))) :: ((nat_lit 131), (Obj.mk (Value.type "tuple") none (Data.seq (List.toArray []) 0) (List.toArray []))) :: ((nat_lit 133), (Obj.mk (Value.type "tuple") none (Data.seq (List.toArray [(Value.str (Str.ofString "self") 353), (Value.str (Str.ofString "signs") 354)]) 0) (List.toArray []))) :: ((nat_lit 134), (Obj.mk (Value.type "tuple") none (Data.seq (List.toArray []) 0) (List.toArray []))) :: ((nat_lit 136), (Obj.mk (Value.type "code") none (Data.fields (List.toArray [(Value.str (Str.ofString "is_one_of") 350), (Value.str (Str.ofString "NumberText.is_one_of") 351), (Value.str (Str.ofString "/claim/cut.py") 352), (Value.int 53 0), (Value.int 2 0), (Value.int 0 0), (Value.int 0 0), (Value.int 3 0), (Value.ref 131), (Value.bool Bool.true), (Value.int 181 0), (Value.ref 132), Value.none, (Value.ref 133), (Value.ref 134), (Value.ref 135), (Value.int 355 0), (Value.int 53 0), (Value.str (Str.ofString "/claim/cut.py") 356)])) (List.toArray []))) :: ((nat_lit 137), (Obj.mk (Value.type "function") none (Data.func (FuncData.mk (Str.ofString "is_one_of") (Str.ofString "NumberText.is_one_of") ax18_1 (FuncBody.stmts bx18_1) sx18_1 3 [] Value.none Value.none Value.none (Value.str (Str.ofString "outlinemill.exact") 257) none (Value.ref 136) Value.none 0)) (List.toArray []))) :: ((nat_lit 138), (Obj.mk (Value.type "tuple") none (Data.seq (List.toArray []) 0) (List.toArray []))) :: ((nat_lit 140), (Obj.mk (Value.type "tuple") none (Data.seq (List.toArray [(Value.str (Str.ofString "self") 361), (Value.str (Str.ofString "signs") 362)]) 0) (List.toArray []))) :: ((nat_lit 141), (Obj.mk (Value.type "tuple") none (Data.seq (List.toArray []) 0) (List.toArray []))) :: ((nat_lit 143), (Obj.mk (Value.type "code") none (Data.fields (List.toArray [(Value.str (Str.ofString "skip") 358), (Value.str (Str.ofString "NumberText.skip") 359), (Value.str (Str.ofString "/claim/cut.py") 360), (Value.int 56 0), (Value.int 2 0), (Value.int 0 0), (Value.int 0 0), (Value.int 3 0), (Value.ref 138), (Value.bool Bool.true), (Value.int 181 0), (Value.ref 139), Value.none, (Value.ref 140), (Value.ref 141), (Value.ref 142), (Value.int 363 0), (Value.int 56 0), (Value.str (Str.ofString "/claim/cut.py") 364)])) (List.toArray []))) :: ((nat_lit 144), (Obj.mk (Value.type "function") none (Data.func (FuncData.mk (Str.ofString "skip") (Str.ofString "NumberText.skip") ax18_2 (FuncBody.stmts bx18_2) sx18_2 3 [] Value.none Value.none Value.none (Value.str (Str.ofString "outlinemill.exact") 257) none (Value.ref 143) Value.none 0)) (List.toArray []))) :: ((nat_lit 145), (Obj.mk (Value.type "tuple") none (Data.seq (List.toArray []) 0) (List.toArray []))) :: ((nat_lit 147), (Obj.mk (Value.type "tuple") none (Data.seq (List.toArray [(Value.str (Str.ofString "self") 369), (Value.str (Str.ofString "begin") 370)]) 0) (List.toArray []))) :: ((nat_lit 148), (Obj.mk (Value.type "tuple") none (Data.seq (List.toArray []) 0) (List.toArray []))) :: ((nat_lit 150), (Obj.mk (Value.type "code") none (Data.fields (List.toArray [(Value.str (Str.ofString "digits") 366), (Value.str (Str.ofString "NumberText.digits") 367), (Value.str (Str.ofString "/claim/cut.py") 368), (Value.int 62 0), (Value.int 1 0), (Value.int 0 0), (Value.int 0 0), (Value.int 3 0), (Value.ref 145), (Value.bool Bool.true), (Value.int 181 0), (Value.ref 146), Value.none, (Value.ref 147), (Value.ref 148), (Value.ref 149), (Value.int 371 0), (Value.int 62 0), (Value.str (Str.ofString "/claim/cut.py") 372)])) (List.toArray []))) :: ((nat_lit 151), (Obj.mk (Value.type "function") none (Data.func (FuncData.mk (Str.ofString "digits") (Str.ofString "NumberText.digits") ax18_3 (FuncBody.stmts bx18_3) sx18_3 3 [] Value.none Value.none Value.none (Value.str (Str.ofString "outlinemill.exact") 257) none (Value.ref 150) Value.none 0)) (List.toArray []))) :: ((nat_lit 152), (Obj.mk (Value.type "tuple") none (Data.seq (List.toArray [(Value.str (Str.ofString "at") 374), (Value.str (Str.ofString "text") 375)]) 0) (List.toArray []))) :: ((nat_lit 153), (Obj.mk (Value.type "dict") none (Data.dict (List.toArray [(DictEntry.mk (PyData.keyHash P (Str.ofString "__module__")) (Value.str (Str.ofString "__module__") 337) (Value.str (Str.ofString "outlinemill.exact") 257)), (DictEntry.mk (PyData.keyHash P (Str.ofString "__firstlineno__")) (Value.str (Str.ofString "__firstlineno__") 341) (Value.int 47 340)), (DictEntry.mk (PyData.keyHash P (Str.ofString "__init__")) (Value.str (Str.ofString "__init__") 349) (Value.ref 130)), (DictEntry.mk (PyData.keyHash P (Str.ofString "is_one_of")) (Value.str (Str.ofString "is_one_of") 357) (Value.ref 137)), (DictEntry.mk (PyData.keyHash P (Str.ofString "skip")) (Value.str (Str.ofString "skip") 365) (Value.ref 144)), (DictEntry.mk (PyData.keyHash P (Str.ofString "digits")) (Value.str (Str.ofString "digits") 373) (Value.ref 151)), (DictEntry.mk (PyData.keyHash P (Str.ofString "__static_attributes__")) (Value.str (Str.ofString "__static_attributes__") 376) (Value.ref 152)), (DictEntry.mk (PyData.keyHash P (Str.ofString "__dict__")) (Value.str (Str.ofString "__dict__") 378) (Value.ref 155)), (DictEntry.mk (PyData.keyHash P (Str.ofString "__weakref__")) (Value.str (Str.ofString "__weakref__") 380) (Value.ref 156)), (DictEntry.mk (PyData.keyHash P (Str.ofString "__doc__")) (Value.str (Str.ofString "__doc__") 381) Value.none)]) 4) (List.toArray []))) :: ((nat_lit 154), (Obj.mk (Value.type "type") none (Data.cls (ClassData.mk (Str.ofString "NumberText") [(Value.type "object")] [(Value.ref 154), (Value.type "object")] 153 (Str.ofString "NumberText") Bool.true [] [] Bool.false none Bool.false)) (List.toArray [none, none, (Option.some (Value.str (Str.ofString "NumberText") 330)), (Option.some (Value.str (Str.ofString "NumberText") 338)), (Option.some (Value.builtin "object.__new__")), (Option.some (Value.bool Bool.true))]))) :: ((nat_lit 155), (Obj.mk (Value.type "getset_descriptor") none (Data.fields (List.toArray [(Value.str (Str.ofString "__dict__") 377), (Value.ref 154), (Value.builtin "function.__dict__"), (Value.builtin "function.__dict__#set")])) (List.toArray []))) :: ((nat_lit 156), (Obj.mk (Value.type "getset_descriptor") none (Data.fields (List.toArray [(Value.str (Str.ofString "__weakref__") 379), (Value.ref 154), (Value.builtin "ExceptionGroup.__weakref__"), Value.none])) (List.toArray []))) :: ((nat_lit 159), (Obj.mk (Value.type "tuple") none (Data.seq (List.toArray []) 0) (List.toArray []))) :: ((nat_lit 161), (Obj.mk (Value.type "tuple") none (Data.seq (List.toArray [(Value.str (Str.ofString "digits") 387), (Value.str (Str.ofString "number") 388), (Value.str (Str.ofString "digit") 389)]) 0) (List.toArray []))) :: ((nat_lit 162), (Obj.mk (Value.type "tuple") none (Data.seq (List.toArray []) 0) (List.toArray []))) :: ((nat_lit 164), (Obj.mk (Value.type "code") none (Data.fields (List.toArray [(Value.str (Str.ofString "whole_of") 384), (Value.str (Str.ofString "whole_of") 385), (Value.str (Str.ofString "/claim/cut.py") 386), (Value.int 67 0), (Value.int 1 0), (Value.int 0 0), (Value.int 0 0), (Value.int 3 0), (Value.ref 159), (Value.bool Bool.true), (Value.int 181 0), (Value.ref 160), Value.none, (Value.ref 161), (Value.ref 162), (Value.ref 163), (Value.int 390 0), (Value.int 67 0), (Value.str (Str.ofString "/claim/cut.py") 391)])) (List.toArray []))) :: ((nat_lit 165), (Obj.mk (Value.type "function") none (Data.func (FuncData.mk (Str.ofString "whole_of") (Str.ofString "whole_of") ax19 (FuncBody.stmts bx19) sx19 3 [] Value.none Value.none Value.none (Value.str (Str.ofString "outlinemill.exact") 257) none (Value.ref 164) Value.none 0)) (List.toArray []))) :: ((nat_lit 166), (Obj.mk (Value.type "tuple") none (Data.seq (List.toArray []) 0) (List.toArray []))) :: ((nat_lit 168), (Obj.mk (Value.type "tuple") none (Data.seq (List.toArray [(Value.str (Str.ofString "reader") 396), (Value.str (Str.ofString "sign") 397), (Value.str (Str.ofString "digits") 398)]) 0) (List.toArray []))) :: ((nat_lit 169), (Obj.mk (Value.type "tuple") none (Data.seq (List.toArray []) 0) (List.toArray []))) :: ((nat_lit 171), (Obj.mk (Value.type "code") none (Data.fields (List.toArray [(Value.str (Str.ofString "read_exponent") 393), (Value.str (Str.ofString "read_exponent") 394), (Value.str (Str.ofString "/claim/cut.py") 395), (Value.int 72 0), (Value.int 1 0), (Value.int 0 0), (Value.int 0 0), (Value.int 3 0), (Value.ref 166), (Value.bool Bool.true), (Value.int 181 0), (Value.ref 167), Value.none, (Value.ref 168), (Value.ref 169), (Value.ref 170), (Value.int 399 0), (Value.int 72 0), (Value.str (Str.ofString "/claim/cut.py") 400)])) (List.toArray []))) :: ((nat_lit 172), (Obj.mk (Value.type "function") none (Data.func (FuncData.mk (Str.ofString "read_exponent") (Str.ofString "read_exponent") ax20 (FuncBody.stmts bx20) sx20 3 [] Value.none Value.none Value.none (Value.str (Str.ofString "outlinemill.exact") 257) none (Value.ref 171) Value.none 0)) (List.toArray []))) :: ((nat_lit 173), (Obj.mk (Value.type "tuple") none (Data.seq (List.toArray []) 0) (List.toArray []))) :: ((nat_lit 175), (Obj.mk (Value.type "tuple") none (Data.seq (List.toArray [(Value.str (Str.ofString "text") 405), (Value.str (Str.ofString "reader") 406), (Value.str (Str.ofString "sign") 407), (Value.str (Str.ofString "whole") 408), (Value.str (Str.ofString "parts") 409), (Value.str (Str.ofString "exponent") 410), (Value.str (Str.ofString "top") 411), (Value.str (Str.ofString "bottom") 412)]) 0) (List.toArray []))) :: ((nat_lit 176), (Obj.mk (Value.type "tuple") none (Data.seq (List.toArray []) 0) (List.toArray []))) :: ((nat_lit 178), (Obj.mk (Value.type "code") none (Data.fields (List.toArray [(Value.str (Str.ofString "read_decimal") 402), (Value.str (Str.ofString "read_decimal") 403), (Value.str (Str.ofString "/claim/cut.py") 404), (Value.int 79 0), (Value.int 1 0), (Value.int 0 0), (Value.int 0 0), (Value.int 3 0), (Value.ref 173), (Value.bool Bool.true), (Value.int 181 0), (Value.ref 174), Value.none, (Value.ref 175), (Value.ref 176), (Value.ref 177), (Value.int 413 0), (Value.int 79 0), (Value.str (Str.ofString "/claim/cut.py") 414)])) (List.toArray []))) :: ((nat_lit 179), (Obj.mk (Value.type "function") none (Data.func (FuncData.mk (Str.ofString "read_decimal") (Str.ofString "read_decimal") ax21 (FuncBody.stmts bx21) sx21 3 [] Value.none Value.none Value.none (Value.str (Str.ofString "outlinemill.exact") 257) none (Value.ref 178) Value.none 0)) (List.toArray []))) :: ((nat_lit 180), (Obj.mk (Value.type "tuple") none (Data.seq (List.toArray [(Value.int 100 418), (Value.int 1 419)]) 0) (List.toArray []))) :: ((nat_lit 181), (Obj.mk (Value.type "tuple") none (Data.seq (List.toArray []) 0) (List.toArray []))) :: ((nat_lit 183), (Obj.mk (Value.type "tuple") none (Data.seq (List.toArray []) 0) (List.toArray []))) :: ((nat_lit 184), (Obj.mk (Value.type "tuple") none (Data.seq (List.toArray []) 0) (List.toArray []))) :: ((nat_lit 186), (Obj.mk (Value.type "code") none (Data.fields (List.toArray [(Value.str (Str.ofString "handed_down") 425), (Value.str (Str.ofString "handed_down") 426), (Value.str (Str.ofString "/claim/cut.py") 427), (Value.int 98 0), (Value.int 0 0), (Value.int 0 0), (Value.int 0 0), (Value.int 3 0), (Value.ref 181), (Value.bool Bool.true), (Value.int 181 0), (Value.ref 182), Value.none, (Value.ref 183), (Value.ref 184), (Value.ref 185), (Value.int 428 0), (Value.int 98 0), (Value.str (Str.ofString "/claim/cut.py") 429)])) (List.toArray []))) :: ((nat_lit 187), (Obj.mk (Value.type "function") none (Data.func (FuncData.mk (Str.ofString "handed_down") (Str.ofString "handed_down") ax25 (FuncBody.stmts bx25) sx25 3 [] Value.none Value.none Value.none (Value.str (Str.ofString "outlinemill.styles") 416) none (Value.ref 186) Value.none 0)) (List.toArray []))) :: ((nat_lit 188), (Obj.mk (Value.type "tuple") none (Data.seq (List.toArray []) 0) (List.toArray []))) :: ((nat_lit 190), (Obj.mk (Value.type "tuple") none (Data.seq (List.toArray []) 0) (List.toArray []))) :: ((nat_lit 191), (Obj.mk (Value.type "tuple") none (Data.seq (List.toArray []) 0) (List.toArray []))) :: ((nat_lit 193), (Obj.mk (Value.type "code") none (Data.fields (List.toArray [(Value.str (Str.ofString "not_handed_down") 431), (Value.str (Str.ofString "not_handed_down") 432), (Value.str (Str.ofString "/claim/cut.py") 433), (Value.int 100 0), (Value.int 0 0), (Value.int 0 0), (Value.int 0 0), (Value.int 3 0), (Value.ref 188), (Value.bool Bool.true), (Value.int 181 0), (Value.ref 189), Value.none, (Value.ref 190), (Value.ref 191), (Value.ref 192), (Value.int 434 0), (Value.int 100 0), (Value.str (Str.ofString "/claim/cut.py") 435)])) (List.toArray []))) :: ((nat_lit 194), (Obj.mk (Value.type "function") none (Data.func (FuncData.mk (Str.ofString "not_handed_down") (Str.ofString "not_handed_down") ax25 (FuncBody.stmts bx26) sx25 3 [] Value.none Value.none Value.none (Value.str (Str.ofString "outlinemill.styles") 416) none (Value.ref 193) Value.none 0)) (List.toArray []))) :: ((nat_lit 195), (Obj.mk (Value.type "tuple") none (Data.seq (List.toArray []) 0) (List.toArray []))) :: ((nat_lit 197), (Obj.mk (Value.type "tuple") none (Data.seq (List.toArray [(Value.str (Str.ofString "text") 440), (Value.str (Str.ofString "unit") 441)]) 0) (List.toArray []))) :: ((nat_lit 198), (Obj.mk (Value.type "tuple") none (Data.seq (List.toArray []) 0) (List.toArray []))) :: ((nat_lit 200), (Obj.mk (Value.type "code") none (Data.fields (List.toArray [(Value.str (Str.ofString "unit_of") 437), (Value.str (Str.ofString "unit_of") 438), (Value.str (Str.ofString "/claim/cut.py") 439), (Value.int 102 0), (Value.int 1 0), (Value.int 0 0), (Value.int 0 0), (Value.int 3 0), (Value.ref 195), (Value.bool Bool.true), (Value.int 181 0), (Value.ref 196), Value.none, (Value.ref 197), (Value.ref 198), (Value.ref 199), (Value.int 442 0), (Value.int 102 0), (Value.str (Str.ofString "/claim/cut.py") 443)])) (List.toArray []))) :: ((nat_lit 201), (Obj.mk (Value.type "function") none (Data.func (FuncData.mk (Str.ofString "unit_of") (Str.ofString "unit_of") ax27 (FuncBody.stmts bx27) sx27 3 [] Value.none Value.none Value.none (Value.str (Str.ofString "outlinemill.styles") 416) none (Value.ref 200) Value.none 0)) (List.toArray []))) :: ((nat_lit 202), (Obj.mk (Value.type "tuple") none (Data.seq (List.toArray [(Value.int 16 445), (Value.int 1 446)]) 0) (List.toArray []))) :: ((nat_lit 203), (Obj.mk (Value.type "tuple") none (Data.seq (List.toArray [(Value.ref 202)]) 0) (List.toArray []))) :: ((nat_lit 204), (Obj.mk (Value.type "tuple") none (Data.seq (List.toArray []) 0) (List.toArray []))) :: ((nat_lit 206), (Obj.mk (Value.type "tuple") none (Data.seq (List.toArray [(Value.str (Str.ofString "text") 450), (Value.str (Str.ofString "whole") 451), (Value.str (Str.ofString "font_size") 452), (Value.str (Str.ofString "number") 453), (Value.str (Str.ofString "unit") 454), (Value.str (Str.ofString "told") 455), (Value.str (Str.ofString "sizes") 456)]) 0) (List.toArray []))) :: ((nat_lit 207), (Obj.mk (Value.type "tuple") none (Data.seq (List.toArray []) 0) (List.toArray []))) :: ((nat_lit 209), (Obj.mk (Value.type "code") none (Data.fields (List.toArray [(Value.str (Str.ofString "length") 447), (Value.str (Str.ofString "length") 448), (Value.str (Str.ofString "/claim/cut.py") 449), (Value.int 108 0), (Value.int 3 0), (Value.int 0 0), (Value.int 0 0), (Value.int 3 0), (Value.ref 204), (Value.bool Bool.true), (Value.int 181 0), (Value.ref 205), Value.none, (Value.ref 206), (Value.ref 207), (Value.ref 208), (Value.int 457 0), (Value.int 108 0), (Value.str (Str.ofString "/claim/cut.py") 458)])) (List.toArray []))) :: ((nat_lit 210), (Obj.mk (Value.type "function") none (Data.func (FuncData.mk (Str.ofString "length") (Str.ofString "length") ax28 (FuncBody.stmts bx28) sx28 3 [] (Value.ref 203) Value.none Value.none (Value.str (Str.ofString "outlinemill.styles") 416) none (Value.ref 209) Value.none 0)) (List.toArray []))) :: ((nat_lit 211), (Obj.mk (Value.type "tuple") none (Data.seq (List.toArray []) 0) (List.toArray []))) :: ((nat_lit 213), (Obj.mk (Value.type "tuple") none (Data.seq (List.toArray [(Value.str (Str.ofString "number") 464)]) 0) (List.toArray []))) :: ((nat_lit 214), (Obj.mk (Value.type "tuple") none (Data.seq (List.toArray []) 0) (List.toArray []))) :: ((nat_lit 216), (Obj.mk (Value.type "code") none (Data.fields (List.toArray [(Value.str (Str.ofString "bounded") 461), (Value.str (Str.ofString "bounded") 462), (Value.str (Str.ofString "/claim/cut.py") 463), (Value.int 121 0), (Value.int 1 0), (Value.int 0 0), (Value.int 0 0), (Value.int 3 0), (Value.ref 211), (Value.bool Bool.true), (Value.int 181 0), (Value.ref 212), Value.none, (Value.ref 213), (Value.ref 214), (Value.ref 215), (Value.int 465 0), (Value.int 121 0), (Value.str (Str.ofString "/claim/cut.py") 466)])) (List.toArray []))) :: ((nat_lit 217), (Obj.mk (Value.type "function") none (Data.func (FuncData.mk (Str.ofString "bounded") (Str.ofString "bounded") ax30 (FuncBody.stmts bx30) sx30 3 [] Value.none Value.none Value.none (Value.str (Str.ofString "outlinemill.styles") 416) none (Value.ref 216) Value.none 0)) (List.toArray []))) :: ((nat_lit 225), (Obj.mk (Value.type "tuple") none (Data.seq (List.toArray [Value.none, Value.none]) 0) (List.toArray []))) :: ((nat_lit 226), (Obj.mk (Value.type "tuple") none (Data.seq (List.toArray []) 0) (List.toArray []))) :: ((nat_lit 228), (Obj.mk (Value.type "tuple") none (Data.seq (List.toArray [(Value.str (Str.ofString "self") 483), (Value.str (Str.ofString "values") 484), (Value.str (Str.ofString "size") 485), (Value.str (Str.ofString "sizes") 486)]) 0) (List.toArray []))) :: ((nat_lit 229), (Obj.mk (Value.type "tuple") none (Data.seq (List.toArray []) 0) (List.toArray []))) :: ((nat_lit 231), (Obj.mk (Value.type "code") none (Data.fields (List.toArray [(Value.str (Str.ofString "__init__") 480), (Value.str (Str.ofString "Look.__init__") 481), (Value.str (Str.ofString "/claim/cut.py") 482), (Value.int 127 0), (Value.int 4 0), (Value.int 0 0), (Value.int 0 0), (Value.int 3 0), (Value.ref 226), (Value.bool Bool.true), (Value.int 181 0), (Value.ref 227), Value.none, (Value.ref 228), (Value.ref 229), (Value.ref 230), (Value.int 487 0), (Value.int 127 0), (Value.str (Str.ofString "/claim/cut.py") 488)])) (List.toArray []))) :: ((nat_lit 232), (Obj.mk (Value.type "function") none (Data.func (FuncData.mk (Str.ofString "__init__") (Str.ofString "Look.__init__") ax31_0 (FuncBody.stmts bx31_0) sx31_0 3 [] (Value.ref 225) Value.none Value.none (Value.str (Str.ofString "outlinemill.styles") 416) none (Value.ref 231) Value.none 0)) (List.toArray []))) :: ((nat_lit 233), (Obj.mk (Value.type "tuple") none (Data.seq (List.toArray []) 0) (List.toArray []))) :: ((nat_lit 235), (Obj.mk (Value.type "tuple") none (Data.seq (List.toArray [(Value.str (Str.ofString "self") 493), (Value.str (Str.ofString "name") 494)]) 0) (List.toArray []))) :: ((nat_lit 236), (Obj.mk (Value.type "tuple") none (Data.seq (List.toArray []) 0) (List.toArray []))) :: ((nat_lit 238), (Obj.mk (Value.type "code") none (Data.fields (List.toArray [(Value.str (Str.ofString "text") 490), (Value.str (Str.ofString "Look.text") 491), (Value.str (Str.ofString "/claim/cut.py") 492), (Value.int 132 0), (Value.int 2 0), (Value.int 0 0), (Value.int 0 0), (Value.int 3 0), (Value.ref 233), (Value.bool Bool.true), (Value.int 181 0), (Value.ref 234), Value.none, (Value.ref 235), (Value.ref 236), (Value.ref 237), (Value.int 495 0), (Value.int 132 0), (Value.str (Str.ofString "/claim/cut.py") 496)])) (List.toArray []))) :: ((nat_lit 239), (Obj.mk (Value.type "function") none (Data.func (FuncData.mk (Str.ofString "text") (Str.ofString "Look.text") ax31_1 (FuncBody.stmts bx31_1) sx31_1 3 [] Value.none Value.none Value.none (Value.str (Str.ofString "outlinemill.styles") 416) none (Value.ref 238) Value.none 0)) (List.toArray []))) :: ((nat_lit 240), (Obj.mk (Value.type "tuple") none (Data.seq (List.toArray []) 0) (List.toArray []))) :: ((nat_lit 242), (Obj.mk (Value.type "tuple") none (Data.seq (List.toArray [(Value.str (Str.ofString "self") 501)]) 0) (List.toArray []))) :: ((nat_lit 243), (Obj.mk (Value.type "tuple") none (Data.seq (List.toArray []) 0) (List.toArray []))) :: ((nat_lit 245), (Obj.mk (Value.type "code") none (Data.fields (List.toArray [(Value.str (Str.ofString "font_size") 498), (Value.str (Str.ofString "Look.font_size") 499), (Value.str (Str.ofString "/claim/cut.py") 500), (Value.int 135 0), (Value.int 1 0), (Value.int 0 0), (Value.int 0 0), (Value.int 3 0), (Value.ref 240), (Value.bool Bool.true), (Value.int 181 0), (Value.ref 241), Value.none, (Value.ref 242), (Value.ref 243), (Value.ref 244), (Value.int 502 0), (Value.int 135 0), (Value.str (Str.ofString "/claim/cut.py") 503)])) (List.toArray []))) :: ((nat_lit 246), (Obj.mk (Value.type "function") none (Data.func (FuncData.mk (Str.ofString "font_size") (Str.ofString "Look.font_size") ax31_2 (FuncBody.stmts bx31_2) sx31_2 3 [] Value.none Value.none Value.none (Value.str (Str.ofString "outlinemill.styles") 416) none (Value.ref 245) Value.none 0)) (List.toArray []))) :: ((nat_lit 247), (Obj.mk (Value.type "tuple") none (Data.seq (List.toArray []) 0) (List.toArray []))) :: ((nat_lit 249), (Obj.mk (Value.type "tuple") none (Data.seq (List.toArray [(Value.str (Str.ofString "self") 508), (Value.str (Str.ofString "name") 509)]) 0) (List.toArray []))) :: ((nat_lit 250), (Obj.mk (Value.type "tuple") none (Data.seq (List.toArray []) 0) (List.toArray []))) :: ((nat_lit 252), (Obj.mk (Value.type "code") none (Data.fields (List.toArray [(Value.str (Str.ofString "size_for") 505), (Value.str (Str.ofString "Look.size_for") 506), (Value.str (Str.ofString "/claim/cut.py") 507), (Value.int 138 0), (Value.int 2 0), (Value.int 0 0), (Value.int 0 0), (Value.int 3 0), (Value.ref 247), (Value.bool Bool.true), (Value.int 181 0), (Value.ref 248), Value.none, (Value.ref 249), (Value.ref 250), (Value.ref 251), (Value.int 510 0), (Value.int 138 0), (Value.str (Str.ofString "/claim/cut.py") 511)])) (List.toArray []))) :: ((nat_lit 253), (Obj.mk (Value.type "function") none (Data.func (FuncData.mk (Str.ofString "size_for") (Str.ofString "Look.size_for") ax31_3 (FuncBody.stmts bx31_3) sx31_1 3 [] Value.none Value.none Value.none (Value.str (Str.ofString "outlinemill.styles") 416) none (Value.ref 252) Value.none 0)) (List.toArray []))) :: ((nat_lit 254), (Obj.mk (Value.type "tuple") none (Data.seq (List.toArray [(Value.int 1 513), (Value.int 1 514)]) 0) (List.toArray []))) :: ((nat_lit 255), (Obj.mk (Value.type "tuple") none (Data.seq (List.toArray [(Value.ref 254)]) 0) (List.toArray []))) :: ((nat_lit 256), (Obj.mk (Value.type "tuple") none (Data.seq (List.toArray []) 0) (List.toArray []))) :: ((nat_lit 258), (Obj.mk (Value.type "tuple") none (Data.seq (List.toArray [(Value.str (Str.ofString "self") 518), (Value.str (Str.ofString "name") 519), (Value.str (Str.ofString "whole") 520)]) 0) (List.toArray []))) :: ((nat_lit 259), (Obj.mk (Value.type "tuple") none (Data.seq (List.toArray []) 0) (List.toArray []))) :: ((nat_lit 261), (Obj.mk (Value.type "code") none (Data.fields (List.toArray [(Value.str (Str.ofString "length") 515), (Value.str (Str.ofString "Look.length") 516), (Value.str (Str.ofString "/claim/cut.py") 517), (Value.int 141 0), (Value.int 3 0), (Value.int 0 0), (Value.int 0 0), (Value.int 3 0), (Value.ref 256), (Value.bool Bool.true), (Value.int 181 0), (Value.ref 257), Value.none, (Value.ref 258), (Value.ref 259), (Value.ref 260), (Value.int 521 0), (Value.int 141 0), (Value.str (Str.ofString "/claim/cut.py") 522)])) (List.toArray []))) :: ((nat_lit 262), (Obj.mk (Value.type "function") none (Data.func (FuncData.mk (Str.ofString "length") (Str.ofString "Look.length") ax31_4 (FuncBody.stmts bx31_4) sx31_4 3 [] (Value.ref 255) Value.none Value.none (Value.str (Str.ofString "outlinemill.styles") 416) none (Value.ref 261) Value.none 0)) (List.toArray []))) :: ((nat_lit 263), (Obj.mk (Value.type "tuple") none (Data.seq (List.toArray [(Value.int 1 524), (Value.int 1 525)]) 0) (List.toArray []))) :: ((nat_lit 264), (Obj.mk (Value.type "tuple") none (Data.seq (List.toArray [(Value.ref 263)]) 0) (List.toArray []))) :: ((nat_lit 265), (Obj.mk (Value.type "tuple") none (Data.seq (List.toArray []) 0) (List.toArray []))) :: ((nat_lit 267), (Obj.mk (Value.type "tuple") none (Data.seq (List.toArray [(Value.str (Str.ofString "self") 529), (Value.str (Str.ofString "name") 530), (Value.str (Str.ofString "whole") 531)]) 0) (List.toArray []))) :: ((nat_lit 268), (Obj.mk (Value.type "tuple") none (Data.seq (List.toArray []) 0) (List.toArray []))) :: ((nat_lit 270), (Obj.mk (Value.type "code") none (Data.fields (List.toArray [(Value.str (Str.ofString "lengths") 526), (Value.str (Str.ofString "Look.lengths") 527), (Value.str (Str.ofString "/claim/cut.py") 528), (Value.int 144 0), (Value.int 3 0), (Value.int 0 0), (Value.int 0 0), (Value.int 3 0), (Value.ref 265), (Value.bool Bool.true), (Value.int 181 0), (Value.ref 266), Value.none, (Value.ref 267), (Value.ref 268), (Value.ref 269), (Value.int 532 0), (Value.int 144 0), (Value.str (Str.ofString "/claim/cut.py") 533)])) (List.toArray []))) :: ((nat_lit 271), (Obj.mk (Value.type "function") none (Data.func (FuncData.mk (Str.ofString "lengths") (Str.ofString "Look.lengths") ax31_5 (FuncBody.stmts bx31_5) sx31_5 3 [] (Value.ref 264) Value.none Value.none (Value.str (Str.ofString "outlinemill.styles") 416) none (Value.ref 270) Value.none 0)) (List.toArray []))) :: ((nat_lit 272), (Obj.mk (Value.type "tuple") none (Data.seq (List.toArray []) 0) (List.toArray []))) :: ((nat_lit 274), (Obj.mk (Value.type "tuple") none (Data.seq (List.toArray [(Value.str (Str.ofString "self") 538), (Value.str (Str.ofString "name") 539)]) 0) (List.toArray []))) :: ((nat_lit 275), (Obj.mk (Value.type "tuple") none (Data.seq (List.toArray []) 0) (List.toArray []))) :: ((nat_lit 277), (Obj.mk (Value.type "code") none (Data.fields (List.toArray [(Value.str (Str.ofString "number") 535), (Value.str (Str.ofString "Look.number") 536), (Value.str (Str.ofString "/claim/cut.py") 537), (Value.int 147 0), (Value.int 2 0), (Value.int 0 0), (Value.int 0 0), (Value.int 3 0), (Value.ref 272), (Value.bool Bool.true), (Value.int 181 0), (Value.ref 273), Value.none, (Value.ref 274), (Value.ref 275), (Value.ref 276), (Value.int 540 0), (Value.int 147 0), (Value.str (Str.ofString "/claim/cut.py") 541)])) (List.toArray []))) :: ((nat_lit 278), (Obj.mk (Value.type "function") none (Data.func (FuncData.mk (Str.ofString "number") (Str.ofString "Look.number") ax31_6 (FuncBody.stmts bx31_6) sx31_6 3 [] Value.none Value.none Value.none (Value.str (Str.ofString "outlinemill.styles") 416) none (Value.ref 277) Value.none 0)) (List.toArray []))) :: ((nat_lit 279), (Obj.mk (Value.type "tuple") none (Data.seq (List.toArray []) 0) (List.toArray []))) :: ((nat_lit 281), (Obj.mk (Value.type "tuple") none (Data.seq (List.toArray [(Value.str (Str.ofString "self") 546), (Value.str (Str.ofString "name") 547)]) 0) (List.toArray []))) :: ((nat_lit 282), (Obj.mk (Value.type "tuple") none (Data.seq (List.toArray []) 0) (List.toArray []))) :: ((nat_lit 284), (Obj.mk (Value.type "code") none (Data.fields (List.toArray [(Value.str (Str.ofString "opacity") 543), (Value.str (Str.ofString "Look.opacity") 544), (Value.str (Str.ofString "/claim/cut.py") 545), (Value.int 153 0), (Value.int 2 0), (Value.int 0 0), (Value.int 0 0), (Value.int 3 0), (Value.ref 279), (Value.bool Bool.true), (Value.int 181 0), (Value.ref 280), Value.none, (Value.ref 281), (Value.ref 282), (Value.ref 283), (Value.int 548 0), (Value.int 153 0), (Value.str (Str.ofString "/claim/cut.py") 549)])) (List.toArray []))) :: ((nat_lit 285), (Obj.mk (Value.type "function") none (Data.func (FuncData.mk (Str.ofString "opacity") (Str.ofString "Look.opacity") ax31_7 (FuncBody.stmts bx31_7) sx31_7 3 [] Value.none Value.none Value.none (Value.str (Str.ofString "outlinemill.styles") 416) none (Value.ref 284) Value.none 0)) (List.toArray []))) :: ((nat_lit 286), (Obj.mk (Value.type "tuple") none (Data.seq (List.toArray []) 0) (List.toArray []))) :: ((nat_lit 288), (Obj.mk (Value.type "tuple") none (Data.seq (List.toArray [(Value.str (Str.ofString "self") 554), (Value.str (Str.ofString "name") 555)]) 0) (List.toArray []))) :: ((nat_lit 289), (Obj.mk (Value.type "tuple") none (Data.seq (List.toArray []) 0) (List.toArray []))) :: ((nat_lit 291), (Obj.mk (Value.type "code") none (Data.fields (List.toArray [(Value.str (Str.ofString "paint") 551), (Value.str (Str.ofString "Look.paint") 552), (Value.str (Str.ofString "/claim/cut.py") 553), (Value.int 156 0), (Value.int 2 0), (Value.int 0 0), (Value.int 0 0), (Value.int 3 0), (Value.ref 286), (Value.bool Bool.true), (Value.int 181 0), (Value.ref 287), Value.none, (Value.ref 288), (Value.ref 289), (Value.ref 290), (Value.int 556 0), (Value.int 156 0), (Value.str (Str.ofString "/claim/cut.py") 557)])) (List.toArray []))) :: ((nat_lit 292), (Obj.mk (Value.type "function") none (Data.func (FuncData.mk (Str.ofString "paint") (Str.ofString "Look.paint") ax31_8 (FuncBody.stmts bx31_8) sx31_8 3 [] Value.none Value.none Value.none (Value.str (Str.ofString "outlinemill.styles") 416) none (Value.ref 291) Value.none 0)) (List.toArray []))) :: ((nat_lit 293), (Obj.mk (Value.type "tuple") none (Data.seq (List.toArray [(Value.str (Str.ofString "fill-rule") 559)]) 0) (List.toArray []))) :: ((nat_lit 294), (Obj.mk (Value.type "tuple") none (Data.seq (List.toArray []) 0) (List.toArray []))) :: ((nat_lit 296), (Obj.mk (Value.type "tuple") none (Data.seq (List.toArray [(Value.str (Str.ofString "self") 563), (Value.str (Str.ofString "name") 564), (Value.str (Str.ofString "told") 565)]) 0) (List.toArray []))) :: ((nat_lit 297), (Obj.mk (Value.type "tuple") none (Data.seq (List.toArray []) 0) (List.toArray []))) :: ((nat_lit 299), (Obj.mk (Value.type "code") none (Data.fields (List.toArray [(Value.str (Str.ofString "rule") 560), (Value.str (Str.ofString "Look.rule") 561), (Value.str (Str.ofString "/claim/cut.py") 562), (Value.int 159 0), (Value.int 2 0), (Value.int 0 0), (Value.int 0 0), (Value.int 3 0), (Value.ref 294), (Value.bool Bool.true), (Value.int 181 0), (Value.ref 295), Value.none, (Value.ref 296), (Value.ref 297), (Value.ref 298), (Value.int 566 0), (Value.int 159 0), (Value.str (Str.ofString "/claim/cut.py") 567)])) (List.toArray []))) :: ((nat_lit 300), (Obj.mk (Value.type "function") none (Data.func (FuncData.mk (Str.ofString "rule") (Str.ofString "Look.rule") ax31_9 (FuncBody.stmts bx31_9) sx31_9 3 [] (Value.ref 293) Value.none Value.none (Value.str (Str.ofString "outlinemill.styles") 416) none (Value.ref 299) Value.none 0)) (List.toArray []))) :: ((nat_lit 301), (Obj.mk (Value.type "tuple") none (Data.seq (List.toArray []) 0) (List.toArray []))) :: ((nat_lit 303), (Obj.mk (Value.type "tuple") none (Data.seq (List.toArray [(Value.str (Str.ofString "self") 572)]) 0) (List.toArray []))) :: ((nat_lit 304), (Obj.mk (Value.type "tuple") none (Data.seq (List.toArray []) 0) (List.toArray []))) :: ((nat_lit 306), (Obj.mk (Value.type "code") none (Data.fields (List.toArray [(Value.str (Str.ofString "is_displayed") 569), (Value.str (Str.ofString "Look.is_displayed") 570), (Value.str (Str.ofString "/claim/cut.py") 571), (Value.int 165 0), (Value.int 1 0), (Value.int 0 0), (Value.int 0 0), (Value.int 3 0), (Value.ref 301), (Value.bool Bool.true), (Value.int 181 0), (Value.ref 302), Value.none, (Value.ref 303), (Value.ref 304), (Value.ref 305), (Value.int 573 0), (Value.int 165 0), (Value.str (Str.ofString "/claim/cut.py") 574)])) (List.toArray []))) :: ((nat_lit 307), (Obj.mk (Value.type "function") none (Data.func (FuncData.mk (Str.ofString "is_displayed") (Str.ofString "Look.is_displayed") ax31_10 (FuncBody.stmts bx31_10) sx31_10 3 [] Value.none Value.none Value.none (Value.str (Str.ofString "outlinemill.styles") 416) none (Value.ref 306) Value.none 0)) (List.toArray []))) :: ((nat_lit 308), (Obj.mk (Value.type "tuple") none (Data.seq (List.toArray []) 0) (List.toArray []))) :: ((nat_lit 310), (Obj.mk (Value.type "tuple") none (Data.seq (List.toArray [(Value.str (Str.ofString "self") 579)]) 0) (List.toArray []))) :: ((nat_lit 311), (Obj.mk (Value.type "tuple") none (Data.seq (List.toArray []) 0) (List.toArray []))) :: ((nat_lit 313), (Obj.mk (Value.type "code") none (Data.fields (List.toArray [(Value.str (Str.ofString "is_visible") 576), (Value.str (Str.ofString "Look.is_visible") 577), (Value.str (Str.ofString "/claim/cut.py") 578), (Value.int 168 0), (Value.int 1 0), (Value.int 0 0), (Value.int 0 0), (Value.int 3 0), (Value.ref 308), (Value.bool Bool.true), (Value.int 181 0), (Value.ref 309), Value.none, (Value.ref 310), (Value.ref 311), (Value.ref 312), (Value.int 580 0), (Value.int 168 0), (Value.str (Str.ofString "/claim/cut.py") 581)])) (List.toArray []))) :: ((nat_lit 314), (Obj.mk (Value.type "function") none (Data.func (FuncData.mk (Str.ofString "is_visible") (Str.ofString "Look.is_visible") ax31_11 (FuncBody.stmts bx31_11) sx31_10 3 [] Value.none Value.none Value.none (Value.str (Str.ofString "outlinemill.styles") 416) none (Value.ref 313) Value.none 0)) (List.toArray []))) :: ((nat_lit 315), (Obj.mk (Value.type "tuple") none (Data.seq (List.toArray [(Value.str (Str.ofString "size") 583), (Value.str (Str.ofString "sizes") 584), (Value.str (Str.ofString "values") 585)]) 0) (List.toArray []))) :: ((nat_lit 316), (Obj.mk (Value.type "dict") none (Data.dict (List.toArray [(DictEntry.mk (PyData.keyHash P (Str.ofString "__module__")) (Value.str (Str.ofString "__module__") 475) (Value.str (Str.ofString "outlinemill.styles") 416)), (DictEntry.mk (PyData.keyHash P (Str.ofString "__firstlineno__")) (Value.str (Str.ofString "__firstlineno__") 479) (Value.int 125 478)), (DictEntry.mk (PyData.keyHash P (Str.ofString "__init__")) (Value.str (Str.ofString "__init__") 489) (Value.ref 232)), (DictEntry.mk (PyData.keyHash P (Str.ofString "text")) (Value.str (Str.ofString "text") 497) (Value.ref 239)), (DictEntry.mk (PyData.keyHash P (Str.ofString "font_size")) (Value.str (Str.ofString "font_size") 504) (Value.ref 246)), (DictEntry.mk (PyData.keyHash P (Str.ofString "size_for")) (Value.str (Str.ofString "size_for") 512) (Value.ref 253)), (DictEntry.mk (PyData.keyHash P (Str.ofString "length")) (Value.str (Str.ofString "length") 523) (Value.ref 262)), (DictEntry.mk (PyData.keyHash P (Str.ofString "lengths")) (Value.str (Str.ofString "lengths") 534) (Value.ref 271)), (DictEntry.mk (PyData.keyHash P (Str.ofString "number")) (Value.str (Str.ofString "number") 542) (Value.ref 278)), (DictEntry.mk (PyData.keyHash P (Str.ofString "opacity")) (Value.str (Str.ofString "opacity") 550) (Value.ref 285)), (DictEntry.mk (PyData.keyHash P (Str.ofString "paint")) (Value.str (Str.ofString "paint") 558) (Value.ref 292)), (DictEntry.mk (PyData.keyHash P (Str.ofString "rule")) (Value.str (Str.ofString "rule") 568) (Value.ref 300)), (DictEntry.mk (PyData.keyHash P (Str.ofString "is_displayed")) (Value.str (Str.ofString "is_displayed") 575) (Value.ref 307)), (DictEntry.mk (PyData.keyHash P (Str.ofString "is_visible")) (Value.str (Str.ofString "is_visible") 582) (Value.ref 314)), (DictEntry.mk (PyData.keyHash P (Str.ofString "__static_attributes__")) (Value.str (Str.ofString "__static_attributes__") 586) (Value.ref 315)), (DictEntry.mk (PyData.keyHash P (Str.ofString "__dict__")) (Value.str (Str.ofString "__dict__") 588) (Value.ref 318)), (DictEntry.mk (PyData.keyHash P (Str.ofString "__weakref__")) (Value.str (Str.ofString "__weakref__") 590) (Value.ref 319)), (DictEntry.mk (PyData.keyHash P (Str.ofString "__doc__")) (Value.str (Str.ofString "__doc__") 591) Value.none)]) 4) (List.toArray []))) :: ((nat_lit 317), (Obj.mk (Value.type "type") none (Data.cls (ClassData.mk (Str.ofString "Look") [(Value.type "object")] [(Value.ref 317), (Value.type "object")] 316 (Str.ofString "Look") Bool.true [] [] Bool.false none Bool.false)) (List.toArray [none, none, (Option.some (Value.str (Str.ofString "Look") 468)), (Option.some (Value.str (Str.ofString "Look") 476)), (Option.some (Value.builtin "object.__new__")), (Option.some (Value.bool Bool.true))]))) :: ((nat_lit 318), (Obj.mk (Value.type "getset_descriptor") none (Data.fields (List.toArray [(Value.str (Str.ofString "__dict__") 587), (Value.ref 317), (Value.builtin "function.__dict__"), (Value.builtin "function.__dict__#set")])) (List.toArray []))) :: ((nat_lit 319), (Obj.mk (Value.type "getset_descriptor") none (Data.fields (List.toArray [(Value.str (Str.ofString "__weakref__") 589), (Value.ref 317), (Value.builtin "ExceptionGroup.__weakref__"), Value.none])) (List.toArray []))) :: ((nat_lit 322), (Obj.mk (Value.type "tuple") none (Data.seq (List.toArray []) 0) (List.toArray []))) :: ((nat_lit 324), (Obj.mk (Value.type "tuple") none (Data.seq (List.toArray [(Value.str (Str.ofString "values") 597)]) 0) (List.toArray []))) :: ((nat_lit 325), (Obj.mk (Value.type "tuple") none (Data.seq (List.toArray []) 0) (List.toArray []))) :: ((nat_lit 327), (Obj.mk (Value.type "code") none (Data.fields (List.toArray [(Value.str (Str.ofString "first_look") 594), (Value.str (Str.ofString "first_look") 595), (Value.str (Str.ofString "/claim/cut.py") 596), (Value.int 170 0), (Value.int 0 0), (Value.int 0 0), (Value.int 0 0), (Value.int 3 0), (Value.ref 322), (Value.bool Bool.true), (Value.int 181 0), (Value.ref 323), Value.none, (Value.ref 324), (Value.ref 325), (Value.ref 326), (Value.int 598 0), (Value.int 170 0), (Value.str (Str.ofString "/claim/cut.py") 599)])) (List.toArray []))) :: ((nat_lit 328), (Obj.mk (Value.type "function") none (Data.func (FuncData.mk (Str.ofString "first_look") (Str.ofString "first_look") ax25 (FuncBody.stmts bx32) sx32 3 [] Value.none Value.none Value.none (Value.str (Str.ofString "outlinemill.styles") 416) none (Value.ref 327) Value.none 0)) (List.toArray []))) :: ((nat_lit 329), (Obj.mk (Value.type "tuple") none (Data.seq (List.toArray []) 0) (List.toArray []))) :: ((nat_lit 331), (Obj.mk (Value.type "tuple") none (Data.seq (List.toArray [(Value.str (Str.ofString "told") 604), (Value.str (Str.ofString "around") 605), (Value.str (Str.ofString "size") 606)]) 0) (List.toArray []))) :: ((nat_lit 332), (Obj.mk (Value.type "tuple") none (Data.seq (List.toArray []) 0) (List.toArray []))) :: ((nat_lit 334), (Obj.mk (Value.type "code") none (Data.fields (List.toArray [(Value.str (Str.ofString "own_font_size") 601), (Value.str (Str.ofString "own_font_size") 602), (Value.str (Str.ofString "/claim/cut.py") 603), (Value.int 174 0), (Value.int 2 0), (Value.int 0 0), (Value.int 0 0), (Value.int 3 0), (Value.ref 329), (Value.bool Bool.true), (Value.int 181 0), (Value.ref 330), Value.none, (Value.ref 331), (Value.ref 332), (Value.ref 333), (Value.int 607 0), (Value.int 174 0), (Value.str (Str.ofString "/claim/cut.py") 608)])) (List.toArray []))) :: ((nat_lit 335), (Obj.mk (Value.type "function") none (Data.func (FuncData.mk (Str.ofString "own_font_size") (Str.ofString "own_font_size") ax33 (FuncBody.stmts bx33) sx33 3 [] Value.none Value.none Value.none (Value.str (Str.ofString "outlinemill.styles") 416) none (Value.ref 334) Value.none 0)) (List.toArray []))) :: ((nat_lit 336), (Obj.mk (Value.type "tuple") none (Data.seq (List.toArray []) 0) (List.toArray []))) :: ((nat_lit 338), (Obj.mk (Value.type "tuple") none (Data.seq (List.toArray [(Value.str (Str.ofString "script") 615), (Value.str (Str.ofString "cell") 616), (Value.str (Str.ofString "great") 617)]) 0) (List.toArray []))) :: ((nat_lit 339), (Obj.mk (Value.type "tuple") none (Data.seq (List.toArray []) 0) (List.toArray []))) :: ((nat_lit 341), (Obj.mk (Value.type "code") none (Data.fields (List.toArray [(Value.str (Str.ofString "_law_pool") 612), (Value.str (Str.ofString "_law_pool") 613), (Value.str (Str.ofString "/claim/cut.py") 614), (Value.int 182 0), (Value.int 1 0), (Value.int 0 0), (Value.int 0 0), (Value.int 3 0), (Value.ref 336), (Value.bool Bool.true), (Value.int 181 0), (Value.ref 337), Value.none, (Value.ref 338), (Value.ref 339), (Value.ref 340), (Value.int 618 0), (Value.int 182 0), (Value.str (Str.ofString "/claim/cut.py") 619)])) (List.toArray []))) :: ((nat_lit 342), (Obj.mk (Value.type "function") none (Data.func (FuncData.mk (Str.ofString "_law_pool") (Str.ofString "_law_pool") ax35 (FuncBody.stmts bx35) sx35 3 [] Value.none Value.none Value.none (Value.str (Str.ofString "law_xm0732_01") 610) none (Value.ref 341) Value.none 0)) (List.toArray []))) :: ((nat_lit 343), (Obj.mk (Value.type "tuple") none (Data.seq (List.toArray []) 0) (List.toArray []))) :: ((nat_lit 345), (Obj.mk (Value.type "tuple") none (Data.seq (List.toArray [(Value.str (Str.ofString "source") 624), (Value.str (Str.ofString "top") 625), (Value.str (Str.ofString "figure") 626)]) 0) (List.toArray []))) :: ((nat_lit 346), (Obj.mk (Value.type "tuple") none (Data.seq (List.toArray []) 0) (List.toArray []))) :: ((nat_lit 348), (Obj.mk (Value.type "code") none (Data.fields (List.toArray [(Value.str (Str.ofString "_law_take") 621), (Value.str (Str.ofString "_law_take") 622), (Value.str (Str.ofString "/claim/cut.py") 623), (Value.int 186 0), (Value.int 2 0), (Value.int 0 0), (Value.int 0 0), (Value.int 3 0), (Value.ref 343), (Value.bool Bool.true), (Value.int 181 0), (Value.ref 344), Value.none, (Value.ref 345), (Value.ref 346), (Value.ref 347), (Value.int 627 0), (Value.int 186 0), (Value.str (Str.ofString "/claim/cut.py") 628)])) (List.toArray []))) :: ((nat_lit 349), (Obj.mk (Value.type "function") none (Data.func (FuncData.mk (Str.ofString "_law_take") (Str.ofString "_law_take") ax36 (FuncBody.stmts bx36) sx36 3 [] Value.none Value.none Value.none (Value.str (Str.ofString "law_xm0732_01") 610) none (Value.ref 348) Value.none 0)) (List.toArray []))) :: ((nat_lit 350), (Obj.mk (Value.type "tuple") none (Data.seq (List.toArray []) 0) (List.toArray []))) :: ((nat_lit 352), (Obj.mk (Value.type "tuple") none (Data.seq (List.toArray [(Value.str (Str.ofString "source") 633), (Value.str (Str.ofString "things") 634)]) 0) (List.toArray []))) :: ((nat_lit 353), (Obj.mk (Value.type "tuple") none (Data.seq (List.toArray []) 0) (List.toArray []))) :: ((nat_lit 355), (Obj.mk (Value.type "code") none (Data.fields (List.toArray [(Value.str (Str.ofString "_law_one") 630), (Value.str (Str.ofString "_law_one") 631), (Value.str (Str.ofString "/claim/cut.py") 632), (Value.int 193 0), (Value.int 2 0), (Value.int 0 0), (Value.int 0 0), (Value.int 3 0), (Value.ref 350), (Value.bool Bool.true), (Value.int 181 0), (Value.ref 351), Value.none, (Value.ref 352), (Value.ref 353), (Value.ref 354), (Value.int 635 0), (Value.int 193 0), (Value.str (Str.ofString "/claim/cut.py") 636)])) (List.toArray []))) :: ((nat_lit 356), (Obj.mk (Value.type "function") none (Data.func (FuncData.mk (Str.ofString "_law_one") (Str.ofString "_law_one") ax37 (FuncBody.stmts bx37) sx37 3 [] Value.none Value.none Value.none (Value.str (Str.ofString "law_xm0732_01") 610) none (Value.ref 355) Value.none 0)) (List.toArray []))) :: ((nat_lit 357), (Obj.mk (Value.type "tuple") none (Data.seq (List.toArray []) 0) (List.toArray []))) :: ((nat_lit 359), (Obj.mk (Value.type "tuple") none (Data.seq (List.toArray [(Value.str (Str.ofString "top") 641), (Value.str (Str.ofString "bottom") 642), (Value.str (Str.ofString "one") 643), (Value.str (Str.ofString "other") 644)]) 0) (List.toArray []))) :: ((nat_lit 360), (Obj.mk (Value.type "tuple") none (Data.seq (List.toArray []) 0) (List.toArray []))) :: ((nat_lit 362), (Obj.mk (Value.type "code") none (Data.fields (List.toArray [(Value.str (Str.ofString "_law_lowest") 638), (Value.str (Str.ofString "_law_lowest") 639), (Value.str (Str.ofString "/claim/cut.py") 640), (Value.int 195 0), (Value.int 2 0), (Value.int 0 0), (Value.int 0 0), (Value.int 3 0), (Value.ref 357), (Value.bool Bool.true), (Value.int 181 0), (Value.ref 358), Value.none, (Value.ref 359), (Value.ref 360), (Value.ref 361), (Value.int 645 0), (Value.int 195 0), (Value.str (Str.ofString "/claim/cut.py") 646)])) (List.toArray []))) :: ((nat_lit 363), (Obj.mk (Value.type "function") none (Data.func (FuncData.mk (Str.ofString "_law_lowest") (Str.ofString "_law_lowest") ax38 (FuncBody.stmts bx38) sx38 3 [] Value.none Value.none Value.none (Value.str (Str.ofString "law_xm0732_01") 610) none (Value.ref 362) Value.none 0)) (List.toArray []))) :: ((nat_lit 364), (Obj.mk (Value.type "tuple") none (Data.seq (List.toArray []) 0) (List.toArray []))) :: ((nat_lit 366), (Obj.mk (Value.type "tuple") none (Data.seq (List.toArray [(Value.str (Str.ofString "text") 651), (Value.str (Str.ofString "around") 652), (Value.str (Str.ofString "fault") 653)]) 0) (List.toArray []))) :: ((nat_lit 367), (Obj.mk (Value.type "tuple") none (Data.seq (List.toArray []) 0) (List.toArray []))) :: ((nat_lit 369), (Obj.mk (Value.type "code") none (Data.fields (List.toArray [(Value.str (Str.ofString "_law_answer") 648), (Value.str (Str.ofString "_law_answer") 649), (Value.str (Str.ofString "/claim/cut.py") 650), (Value.int 200 0), (Value.int 2 0), (Value.int 0 0), (Value.int 0 0), (Value.int 3 0), (Value.ref 364), (Value.bool Bool.true), (Value.int 181 0), (Value.ref 365), Value.none, (Value.ref 366), (Value.ref 367), (Value.ref 368), (Value.int 654 0), (Value.int 200 0), (Value.str (Str.ofString "/claim/cut.py") 655)])) (List.toArray []))) :: ((nat_lit 370), (Obj.mk (Value.type "function") none (Data.func (FuncData.mk (Str.ofString "_law_answer") (Str.ofString "_law_answer") ax39 (FuncBody.stmts bx39) sx39 3 [] Value.none Value.none Value.none (Value.str (Str.ofString "law_xm0732_01") 610) none (Value.ref 369) Value.none 0)) (List.toArray []))) :: ((nat_lit 371), (Obj.mk (Value.type "tuple") none (Data.seq (List.toArray []) 0) (List.toArray []))) :: ((nat_lit 373), (Obj.mk (Value.type "tuple") none (Data.seq (List.toArray [(Value.str (Str.ofString "top") 660), (Value.str (Str.ofString "bottom") 661), (Value.str (Str.ofString "size") 662), (Value.str (Str.ofString "parts") 663), (Value.str (Str.ofString "rest") 664)]) 0) (List.toArray []))) :: ((nat_lit 374), (Obj.mk (Value.type "tuple") none (Data.seq (List.toArray []) 0) (List.toArray []))) :: ((nat_lit 376), (Obj.mk (Value.type "code") none (Data.fields (List.toArray [(Value.str (Str.ofString "_law_due") 657), (Value.str (Str.ofString "_law_due") 658), (Value.str (Str.ofString "/claim/cut.py") 659), (Value.int 205 0), (Value.int 2 0), (Value.int 0 0), (Value.int 0 0), (Value.int 3 0), (Value.ref 371), (Value.bool Bool.true), (Value.int 181 0), (Value.ref 372), Value.none, (Value.ref 373), (Value.ref 374), (Value.ref 375), (Value.int 665 0), (Value.int 205 0), (Value.str (Str.ofString "/claim/cut.py") 666)])) (List.toArray []))) :: ((nat_lit 377), (Obj.mk (Value.type "function") none (Data.func (FuncData.mk (Str.ofString "_law_due") (Str.ofString "_law_due") ax40 (FuncBody.stmts bx40) sx40 3 [] Value.none Value.none Value.none (Value.str (Str.ofString "law_xm0732_01") 610) none (Value.ref 376) Value.none 0)) (List.toArray []))) :: ((nat_lit 378), (Obj.mk (Value.type "tuple") none (Data.seq (List.toArray []) 0) (List.toArray []))) :: ((nat_lit 380), (Obj.mk (Value.type "tuple") none (Data.seq (List.toArray [(Value.str (Str.ofString "source") 671), (Value.str (Str.ofString "figures") 672), (Value.str (Str.ofString "places") 673), (Value.str (Str.ofString "small") 674), (Value.str (Str.ofString "great") 675), (Value.str (Str.ofString "power") 676), (Value.str (Str.ofString "sign") 677), (Value.str (Str.ofString "digits") 678), (Value.str (Str.ofString "text") 679), (Value.str (Str.ofString "size") 680)]) 0) (List.toArray []))) :: ((nat_lit 381), (Obj.mk (Value.type "tuple") none (Data.seq (List.toArray []) 0) (List.toArray []))) :: ((nat_lit 383), (Obj.mk (Value.type "code") none (Data.fields (List.toArray [(Value.str (Str.ofString "_law_number") 668), (Value.str (Str.ofString "_law_number") 669), (Value.str (Str.ofString "/claim/cut.py") 670), (Value.int 215 0), (Value.int 1 0), (Value.int 0 0), (Value.int 0 0), (Value.int 3 0), (Value.ref 378), (Value.bool Bool.true), (Value.int 181 0), (Value.ref 379), Value.none, (Value.ref 380), (Value.ref 381), (Value.ref 382), (Value.int 681 0), (Value.int 215 0), (Value.str (Str.ofString "/claim/cut.py") 682)])) (List.toArray []))) :: ((nat_lit 384), (Obj.mk (Value.type "function") none (Data.func (FuncData.mk (Str.ofString "_law_number") (Str.ofString "_law_number") ax41 (FuncBody.stmts bx41) sx41 3 [] Value.none Value.none Value.none (Value.str (Str.ofString "law_xm0732_01") 610) none (Value.ref 383) Value.none 0)) (List.toArray []))) :: ((nat_lit 385), (Obj.mk (Value.type "tuple") none (Data.seq (List.toArray []) 0) (List.toArray []))) :: ((nat_lit 387), (Obj.mk (Value.type "tuple") none (Data.seq (List.toArray [(Value.str (Str.ofString "source") 687), (Value.str (Str.ofString "parts") 688), (Value.str (Str.ofString "size") 689), (Value.str (Str.ofString "told") 690)]) 0) (List.toArray []))) :: ((nat_lit 388), (Obj.mk (Value.type "tuple") none (Data.seq (List.toArray []) 0) (List.toArray []))) :: ((nat_lit 390), (Obj.mk (Value.type "code") none (Data.fields (List.toArray [(Value.str (Str.ofString "_law_around") 684), (Value.str (Str.ofString "_law_around") 685), (Value.str (Str.ofString "/claim/cut.py") 686), (Value.int 226 0), (Value.int 1 0), (Value.int 0 0), (Value.int 0 0), (Value.int 3 0), (Value.ref 385), (Value.bool Bool.true), (Value.int 181 0), (Value.ref 386), Value.none, (Value.ref 387), (Value.ref 388), (Value.ref 389), (Value.int 691 0), (Value.int 226 0), (Value.str (Str.ofString "/claim/cut.py") 692)])) (List.toArray []))) :: ((nat_lit 391), (Obj.mk (Value.type "function") none (Data.func (FuncData.mk (Str.ofString "_law_around") (Str.ofString "_law_around") ax42 (FuncBody.stmts bx42) sx42 3 [] Value.none Value.none Value.none (Value.str (Str.ofString "law_xm0732_01") 610) none (Value.ref 390) Value.none 0)) (List.toArray []))) :: ((nat_lit 392), (Obj.mk (Value.type "tuple") none (Data.seq (List.toArray []) 0) (List.toArray []))) :: ((nat_lit 394), (Obj.mk (Value.type "tuple") none (Data.seq (List.toArray [(Value.str (Str.ofString "source") 697)]) 0) (List.toArray []))) :: ((nat_lit 395), (Obj.mk (Value.type "tuple") none (Data.seq (List.toArray []) 0) (List.toArray []))) :: ((nat_lit 397), (Obj.mk (Value.type "code") none (Data.fields (List.toArray [(Value.str (Str.ofString "_law_unit") 694), (Value.str (Str.ofString "_law_unit") 695), (Value.str (Str.ofString "/claim/cut.py") 696), (Value.int 231 0), (Value.int 1 0), (Value.int 0 0), (Value.int 0 0), (Value.int 3 0), (Value.ref 392), (Value.bool Bool.true), (Value.int 181 0), (Value.ref 393), Value.none, (Value.ref 394), (Value.ref 395), (Value.ref 396), (Value.int 698 0), (Value.int 231 0), (Value.str (Str.ofString "/claim/cut.py") 699)])) (List.toArray []))) :: ((nat_lit 398), (Obj.mk (Value.type "function") none (Data.func (FuncData.mk (Str.ofString "_law_unit") (Str.ofString "_law_unit") ax43 (FuncBody.stmts bx43) sx43 3 [] Value.none Value.none Value.none (Value.str (Str.ofString "law_xm0732_01") 610) none (Value.ref 397) Value.none 0)) (List.toArray []))) :: ((nat_lit 399), (Obj.mk (Value.type "tuple") none (Data.seq (List.toArray []) 0) (List.toArray []))) :: ((nat_lit 401), (Obj.mk (Value.type "tuple") none (Data.seq (List.toArray [(Value.str (Str.ofString "source") 704), (Value.str (Str.ofString "text") 705), (Value.str (Str.ofString "top") 706), (Value.str (Str.ofString "bottom") 707), (Value.str (Str.ofString "unit") 708), (Value.str (Str.ofString "many") 709), (Value.str (Str.ofString "parts") 710), (Value.str (Str.ofString "around") 711), (Value.str (Str.ofString "size") 712), (Value.str (Str.ofString "gap") 713)]) 0) (List.toArray []))) :: ((nat_lit 402), (Obj.mk (Value.type "tuple") none (Data.seq (List.toArray []) 0) (List.toArray []))) :: ((nat_lit 404), (Obj.mk (Value.type "code") none (Data.fields (List.toArray [(Value.str (Str.ofString "_law_is_right") 701), (Value.str (Str.ofString "_law_is_right") 702), (Value.str (Str.ofString "/claim/cut.py") 703), (Value.int 233 0), (Value.int 1 0), (Value.int 0 0), (Value.int 0 0), (Value.int 3 0), (Value.ref 399), (Value.bool Bool.true), (Value.int 181 0), (Value.ref 400), Value.none, (Value.ref 401), (Value.ref 402), (Value.ref 403), (Value.int 714 0), (Value.int 233 0), (Value.str (Str.ofString "/claim/cut.py") 715)])) (List.toArray []))) :: ((nat_lit 405), (Obj.mk (Value.type "function") none (Data.func (FuncData.mk (Str.ofString "_law_is_right") (Str.ofString "_law_is_right") ax44 (FuncBody.stmts bx44) sx44 3 [] Value.none Value.none Value.none (Value.str (Str.ofString "law_xm0732_01") 610) none (Value.ref 404) Value.none 0)) (List.toArray []))) :: ((nat_lit 406), (Obj.mk (Value.type "tuple") none (Data.seq (List.toArray []) 0) (List.toArray []))) :: ((nat_lit 408), (Obj.mk (Value.type "tuple") none (Data.seq (List.toArray [(Value.str (Str.ofString "script") 720), (Value.str (Str.ofString "source") 721), (Value.str (Str.ofString "none") 722), (Value.str (Str.ofString "wrong") 723)]) 0) (List.toArray []))) :: ((nat_lit 409), (Obj.mk (Value.type "tuple") none (Data.seq (List.toArray []) 0) (List.toArray []))) :: ((nat_lit 411), (Obj.mk (Value.type "code") none (Data.fields (List.toArray [(Value.str (Str.ofString "law") 717), (Value.str (Str.ofString "law") 718), (Value.str (Str.ofString "/claim/cut.py") 719), (Value.int 243 0), (Value.int 1 0), (Value.int 0 0), (Value.int 0 0), (Value.int 3 0), (Value.ref 406), (Value.bool Bool.true), (Value.int 181 0), (Value.ref 407), Value.none, (Value.ref 408), (Value.ref 409), (Value.ref 410), (Value.int 724 0), (Value.int 243 0), (Value.str (Str.ofString "/claim/cut.py") 725)])) (List.toArray []))) :: ((nat_lit 412), (Obj.mk (Value.type "function") none (Data.func (FuncData.mk (Str.ofString "law") (Str.ofString "law") ax45 (FuncBody.stmts bx45) sx45 3 [] Value.none Value.none Value.none (Value.str (Str.ofString "law_xm0732_01") 610) none (Value.ref 411) Value.none 0)) (List.toArray []))) :: []) : Frag)) _ _ _ _ _ _ _ _ _ _ _ _ _ _ _ _ _ _ _ _ _ _ _ _ _ _ _ _ _ _ _ _ _ _ _ _ _ _ _ _ _ _ _ _ _ _ _ _ _ _ _ _ _ _ _ _ _ _ _ _ _ _ _ _ _ _ _ _ _ _ _ _ _ _ _ _ _ _ _ _ _ _ _ _ _ _ _ _ _ _ _ _ _ _ _ _ _ _ _ _ _ _ _ _ _ _ _ _ _ _ _ _ _ _ _ _ _ _ _ _ _ _ _ _ _ _ _ _ _ _ _ _ _ _ _ _ _ _ _ _ _ _ _ _ _ _ _ _ _ _ _ _ _ _ _ _ _ _ _ _ _ _ _ _ _ _ _ _ _ _ _ _ _ _ _ _ _ _ _ _ _ _ _ _ _ _ _ _ _ _ _ _ _ _ _ _ _ _ _ _ _ _ _ _ _ _ _ _ _ _ _ _ _ _ _ _ _ _ _ _ _ _ _ _ _ _ _ _ _ _ _ _ _ _ _ _ _ _ _ _ _ _ _ _ _ _ _ _ _ _ _ _ _ _ _ _ _ _ _ _ _ _ _ _ _ _ _ _ _ _ _ _ _ _ _ _ _ _ _ _ _ _ _ _ _ _ _ _ _ _ _ _ _ _ _ _ _ _ _ _ _ _ _ _ _ _ _ _ _ _ _ _ _ _ _ _ _ _ _ _ _ _ _ _ _ _ _ _ _ _ _ _ _ _ _ _ _ _ _ _ _ _ _ _ _ _ _ _ _ _ _ _ _ _ _ _ _ _ _ _ _ _ _ _ _ _ _ _ _ _ _ _ _ _ _ _ _ _ _ _ _ _ _ _ _ _ _ _ _ _ _ _ _ _ _ _ _ _ _ _ _ _ _ _ _ _ _ _ _ _ _ _ _ _ _ _ _ _ _ _ _ _ _ _ _ _ _ _ _ _ _ _ _ _ _ _ _ _ _ _ _ _ _ _ _ _ _ _ _ _ _ _ _ _ _ _ _ _ _ _ _ _ _ _ _ _ _ _ _ _ _ _ _ _ _ _ _ _ _ _ _ _ _ _ _ _ _ _ _ _ rfl rfl rfl rfl rfl rfl rfl rfl rfl rfl rfl rfl rfl rfl rfl rfl rfl rfl rfl rfl rfl rfl rfl rfl rfl rfl rfl rfl rfl rfl rfl rfl
noncomputable abbrev cB : Code := .body (behindTheImports pw) hd.env_41
abbrev p0 : Pos := ⟨0, 0, 0, 0⟩
abbrev p1 : Pos := ⟨243, 0, 251, 68⟩
abbrev an : Option Value := some (.ref 6)
theorem hd_pre_q (w : World) (os : OsState) : PySem.W.Fast.tw15667345088766844465 PySem.W.Fast.tw14364793385576792824 pw w (nat_lit 11) an (nat_lit 12)
    (Shared.mk (boot_heap w.params) (Array.mk []) boot_drawn boot_toks os) (topStub pw) =
    some (Shared.mk (hd.heap_46 w.params) (Array.mk []) {} (nat_lit 187) os, Thread.mk (PySem.W.Fast.tw11892475500146522536 PySem.W.Fast.tw14364793385576792824 cB) cB p0 [topFrame p0]) := by kernel_rfl
theorem hd_block_q (w : World) (os : OsState) : PySem.W.Fast.tw14374325043358763698 PySem.W.Fast.tw14364793385576792824 pw w (nat_lit 11) an (nat_lit 1) (nat_lit 1)
    (Shared.mk (hd.heap_46 w.params) (Array.mk []) {} (nat_lit 187) os) (blockOf (behindTheImports pw) hd.env_41 cB p0 [topFrame p0]) =
    some (Flow.next, SharedT.abs (SharedT.mk (hd.tree_47 w.params) (nat_lit 15) {} (Array.mk []) {} (nat_lit 187) os), cB, p0) := by kernel_rfl
noncomputable def sl (a n : Nat) : List Stmt := (pw.main.body.drop a).take n
theorem hd_body : sl 0 4 ++ (sl 4 10 ++ (sl 14 7 ++ (sl 21 10 ++ (sl 31 1 ++ (sl 32 14 ++ []))))) = behindTheImports pw := by kernel_rfl
theorem hd_p1_q (w : World) (os : OsState) : PySem.W.Fast.tw10110043849684766642 PySem.W.Fast.tw14364793385576792824 pw w (nat_lit 11) an (nat_lit 1) (nat_lit 480)
    (SharedT.mk (hd.tree_47 w.params) (nat_lit 15) {} (Array.mk []) {} (nat_lit 187) os) (piecesOf (sl 0 4) hd.env_41 cB p0 [topFrame p0]) =
    some (Flow.next, (SharedT.mk (hd.tree_93 w.params) (nat_lit 54) {} (Array.mk []) {} (nat_lit 241) os), cB, (⟨9, 0, 10, 8⟩ : Pos)) := by kernel_rfl
theorem hd_p1 (w : World) (os : OsState) : segRunT treeTable pw w (nat_lit 11) an (nat_lit 1) (nat_lit 480)
    (SharedT.mk (hd.tree_47 w.params) (nat_lit 15) {} (Array.mk []) {} (nat_lit 187) os) (piecesOf (sl 0 4) hd.env_41 cB p0 [topFrame p0]) =
    some (Flow.next, (SharedT.mk (hd.tree_93 w.params) (nat_lit 54) {} (Array.mk []) {} (nat_lit 241) os), cB, (⟨9, 0, 10, 8⟩ : Pos)) := by
  rewrite [PySem.W.Fast.te10110043849684766642, PySem.W.Fast.te14364793385576792824]; exact hd_p1_q w os
theorem hd_p2_q (w : World) (os : OsState) : PySem.W.Fast.tw10110043849684766642 PySem.W.Fast.tw14364793385576792824 pw w (nat_lit 11) an (nat_lit 1) (nat_lit 372)
    (SharedT.mk (hd.tree_93 w.params) (nat_lit 54) {} (Array.mk []) {} (nat_lit 241) os) (piecesOf (sl 4 10) hd.env_41 cB (⟨9, 0, 10, 8⟩ : Pos) [topFrame p0]) =
    some (Flow.next, (SharedT.mk (hd.tree_131 w.params) (nat_lit 89) {} (Array.mk []) {} (nat_lit 300) os), cB, (⟨31, 0, 32, 45⟩ : Pos)) := by kernel_rfl
theorem hd_p2 (w : World) (os : OsState) : segRunT treeTable pw w (nat_lit 11) an (nat_lit 1) (nat_lit 372)
    (SharedT.mk (hd.tree_93 w.params) (nat_lit 54) {} (Array.mk []) {} (nat_lit 241) os) (piecesOf (sl 4 10) hd.env_41 cB (⟨9, 0, 10, 8⟩ : Pos) [topFrame p0]) =
    some (Flow.next, (SharedT.mk (hd.tree_131 w.params) (nat_lit 89) {} (Array.mk []) {} (nat_lit 300) os), cB, (⟨31, 0, 32, 45⟩ : Pos)) := by
  rewrite [PySem.W.Fast.te10110043849684766642, PySem.W.Fast.te14364793385576792824]; exact hd_p2_q w os
theorem hd_p3_q (w : World) (os : OsState) : PySem.W.Fast.tw10110043849684766642 PySem.W.Fast.tw14364793385576792824 pw w (nat_lit 11) an (nat_lit 1) (nat_lit 500)
    (SharedT.mk (hd.tree_131 w.params) (nat_lit 89) {} (Array.mk []) {} (nat_lit 300) os) (piecesOf (sl 14 7) hd.env_41 cB (⟨31, 0, 32, 45⟩ : Pos) [topFrame p0]) =
    some (Flow.next, (SharedT.mk (hd.tree_219 w.params) (nat_lit 173) {} (Array.mk []) {} (nat_lit 402) os), cB, (⟨72, 0, 78, 65⟩ : Pos)) := by kernel_rfl
theorem hd_p3 (w : World) (os : OsState) : segRunT treeTable pw w (nat_lit 11) an (nat_lit 1) (nat_lit 500)
    (SharedT.mk (hd.tree_131 w.params) (nat_lit 89) {} (Array.mk []) {} (nat_lit 300) os) (piecesOf (sl 14 7) hd.env_41 cB (⟨31, 0, 32, 45⟩ : Pos) [topFrame p0]) =
    some (Flow.next, (SharedT.mk (hd.tree_219 w.params) (nat_lit 173) {} (Array.mk []) {} (nat_lit 402) os), cB, (⟨72, 0, 78, 65⟩ : Pos)) := by
  rewrite [PySem.W.Fast.te10110043849684766642, PySem.W.Fast.te14364793385576792824]; exact hd_p3_q w os
theorem hd_p4_q (w : World) (os : OsState) : PySem.W.Fast.tw10110043849684766642 PySem.W.Fast.tw14364793385576792824 pw w (nat_lit 11) an (nat_lit 1) (nat_lit 238)
    (SharedT.mk (hd.tree_219 w.params) (nat_lit 173) {} (Array.mk []) {} (nat_lit 402) os) (piecesOf (sl 21 10) hd.env_41 cB (⟨72, 0, 78, 65⟩ : Pos) [topFrame p0]) =
    some (Flow.next, (SharedT.mk (hd.tree_266 w.params) (nat_lit 218) {} (Array.mk []) {} (nat_lit 468) os), cB, (⟨121, 0, 124, 60⟩ : Pos)) := by kernel_rfl
theorem hd_p4 (w : World) (os : OsState) : segRunT treeTable pw w (nat_lit 11) an (nat_lit 1) (nat_lit 238)
    (SharedT.mk (hd.tree_219 w.params) (nat_lit 173) {} (Array.mk []) {} (nat_lit 402) os) (piecesOf (sl 21 10) hd.env_41 cB (⟨72, 0, 78, 65⟩ : Pos) [topFrame p0]) =
    some (Flow.next, (SharedT.mk (hd.tree_266 w.params) (nat_lit 218) {} (Array.mk []) {} (nat_lit 468) os), cB, (⟨121, 0, 124, 60⟩ : Pos)) := by
  rewrite [PySem.W.Fast.te10110043849684766642, PySem.W.Fast.te14364793385576792824]; exact hd_p4_q w os
theorem hd_p5_q (w : World) (os : OsState) : PySem.W.Fast.tw10110043849684766642 PySem.W.Fast.tw14364793385576792824 pw w (nat_lit 11) an (nat_lit 1) (nat_lit 592)
    (SharedT.mk (hd.tree_266 w.params) (nat_lit 218) {} (Array.mk []) {} (nat_lit 468) os) (piecesOf (sl 31 1) hd.env_41 cB (⟨121, 0, 124, 60⟩ : Pos) [topFrame p0]) =
    some (Flow.next, (SharedT.mk (hd.tree_372 w.params) (nat_lit 322) {} (Array.mk []) {} (nat_lit 594) os), cB, (⟨125, 0, 169, 16⟩ : Pos)) := by kernel_rfl
theorem hd_p5 (w : World) (os : OsState) : segRunT treeTable pw w (nat_lit 11) an (nat_lit 1) (nat_lit 592)
    (SharedT.mk (hd.tree_266 w.params) (nat_lit 218) {} (Array.mk []) {} (nat_lit 468) os) (piecesOf (sl 31 1) hd.env_41 cB (⟨121, 0, 124, 60⟩ : Pos) [topFrame p0]) =
    some (Flow.next, (SharedT.mk (hd.tree_372 w.params) (nat_lit 322) {} (Array.mk []) {} (nat_lit 594) os), cB, (⟨125, 0, 169, 16⟩ : Pos)) := by
  rewrite [PySem.W.Fast.te10110043849684766642, PySem.W.Fast.te14364793385576792824]; exact hd_p5_q w os
theorem hd_p6_q (w : World) (os : OsState) : PySem.W.Fast.tw10110043849684766642 PySem.W.Fast.tw14364793385576792824 pw w (nat_lit 11) an (nat_lit 1) (nat_lit 427)
    (SharedT.mk (hd.tree_372 w.params) (nat_lit 322) {} (Array.mk []) {} (nat_lit 594) os) (piecesOf (sl 32 14) hd.env_41 cB (⟨125, 0, 169, 16⟩ : Pos) [topFrame p0]) =
    some (Flow.next, (SharedT.mk (hd.tree_467 w.params) (nat_lit 413) {} (Array.mk []) {} (nat_lit 727) os), cB, p1) := by kernel_rfl
theorem hd_p6 (w : World) (os : OsState) : segRunT treeTable pw w (nat_lit 11) an (nat_lit 1) (nat_lit 427)
    (SharedT.mk (hd.tree_372 w.params) (nat_lit 322) {} (Array.mk []) {} (nat_lit 594) os) (piecesOf (sl 32 14) hd.env_41 cB (⟨125, 0, 169, 16⟩ : Pos) [topFrame p0]) =
    some (Flow.next, (SharedT.mk (hd.tree_467 w.params) (nat_lit 413) {} (Array.mk []) {} (nat_lit 727) os), cB, p1) := by
  rewrite [PySem.W.Fast.te10110043849684766642, PySem.W.Fast.te14364793385576792824]; exact hd_p6_q w os
theorem hd_fin_q (w : World) (os : OsState) : PySem.W.Fast.tw14082659384304107361 PySem.W.Fast.tw14364793385576792824 pw w (nat_lit 11) an (nat_lit 2)
    (SharedT.abs (SharedT.mk (hd.tree_467 w.params) (nat_lit 413) {} (Array.mk []) {} (nat_lit 727) os)) (Thread.mk (doneF .next) cB p1 [topFrame p0]) =
    some (Shared.mk (hd.heap_468 w.params) (Array.mk []) {} (nat_lit 727) os) := by kernel_rfl
theorem hd_pre (w : World) (os : OsState) : topGo treeTable pw w (nat_lit 11) an (nat_lit 12)
    (Shared.mk (boot_heap w.params) (Array.mk []) boot_drawn boot_toks os) (topStub pw) =
    some (Shared.mk (hd.heap_46 w.params) (Array.mk []) {} (nat_lit 187) os, Thread.mk (denote treeTable cB) cB p0 [topFrame p0]) := by
  rewrite [PySem.W.Fast.te15667345088766844465, PySem.W.Fast.te14364793385576792824, PySem.W.Fast.te11892475500146522536]; exact hd_pre_q w os
theorem hd_block (w : World) (os : OsState) : segRun treeTable pw w (nat_lit 11) an (nat_lit 1) (nat_lit 1)
    (Shared.mk (hd.heap_46 w.params) (Array.mk []) {} (nat_lit 187) os) (blockOf (behindTheImports pw) hd.env_41 cB p0 [topFrame p0]) =
    some (Flow.next, SharedT.abs (SharedT.mk (hd.tree_47 w.params) (nat_lit 15) {} (Array.mk []) {} (nat_lit 187) os), cB, p0) := by
  rewrite [PySem.W.Fast.te14374325043358763698, PySem.W.Fast.te14364793385576792824]; exact hd_block_q w os
theorem hd_fin (w : World) (os : OsState) : topRun treeTable pw w (nat_lit 11) an (nat_lit 2)
    (SharedT.abs (SharedT.mk (hd.tree_467 w.params) (nat_lit 413) {} (Array.mk []) {} (nat_lit 727) os)) (Thread.mk (doneF .next) cB p1 [topFrame p0]) =
    some (Shared.mk (hd.heap_468 w.params) (Array.mk []) {} (nat_lit 727) os) := by
  rewrite [PySem.W.Fast.te14082659384304107361, PySem.W.Fast.te14364793385576792824]; exact hd_fin_q w os
theorem hd_run (w : World) (os : OsState) : topRun treeTable pw w (nat_lit 11) an (12 + (1 + (480 + (372 + (500 + (238 + (592 + (427 + 2))))))))
    (Shared.mk (boot_heap w.params) (Array.mk []) boot_drawn boot_toks os) (topStub pw) = some (Shared.mk (hd.heap_468 w.params) (Array.mk []) {} (nat_lit 727) os) := by
  refine go_top (hd_pre w os) (piece_block (hd_block w os) ?_)
  have k := piece_app (segRun_of (hd_p1 w os)) (piece_app (segRun_of (hd_p2 w os)) (piece_app (segRun_of (hd_p3 w os)) (piece_app (segRun_of (hd_p4 w os)) (piece_app (segRun_of (hd_p5 w os)) (piece_app (rest := []) (segRun_of (hd_p6 w os)) (piece_nil (env := hd.env_41) (hd_fin w os)))))))
  rw [hd_body] at k
  exact k
theorem hd_size (w : World) : ((boot_heap w.params).isNs mainGlobals && (Array.mk [] : Array GenState).size == 0, (boot_heap w.params).objs.size, (boot_heap w.params).nsMap mainGlobals "__annotations__") = (true, (nat_lit 11), an) := by kernel_rfl
theorem hd_open : ∀ w : World, (fencedOpening treeTable pw w 5332).map (fun s => (s.heap, s.gens, s.drawn, s.toks)) = some (boot_heap w.params, Array.mk [], boot_drawn, boot_toks) :=
  boot_open (p := pw) (by kernel_rfl) (by decide) (by intro s; kernel_rfl)
abbrev loose6 : List Str := [Str.ofString "MOST_VALUE", Str.ofString "fraction", Str.ofString "MOST_SIZE", Str.ofString "length", Str.ofString "length_styles", Str.ofString "Look"]
abbrev vals2 : List (Str × WData) := [(Str.ofString "MOST_VALUE", WData.int 1000000000000000000000000000000000000000000000000000000000000), (Str.ofString "MOST_SIZE", WData.int 100000000000000000000000000000000000000000000000000)]
noncomputable abbrev rW : RowW := OpenRow.toRowW PySem.Challenge.rw_xm0732_01.row
noncomputable abbrev asK : List Addr := nat_lit 2 :: nat_lit 3 :: nat_lit 15 :: nat_lit 17 :: nat_lit 18 :: nat_lit 20 :: nat_lit 21 :: nat_lit 22 :: nat_lit 29 :: nat_lit 31 :: nat_lit 32 :: nat_lit 34 :: nat_lit 35 :: nat_lit 36 :: nat_lit 37 :: nat_lit 38 :: nat_lit 39 :: nat_lit 42 :: nat_lit 49 :: nat_lit 50 :: nat_lit 51 :: nat_lit 54 :: nat_lit 61 :: nat_lit 62 :: nat_lit 63 :: nat_lit 66 :: nat_lit 67 :: nat_lit 69 :: nat_lit 70 :: nat_lit 72 :: nat_lit 73 :: nat_lit 74 :: nat_lit 75 :: nat_lit 77 :: nat_lit 78 :: nat_lit 80 :: nat_lit 81 :: nat_lit 82 :: nat_lit 84 :: nat_lit 85 :: nat_lit 87 :: nat_lit 88 :: nat_lit 89 :: nat_lit 91 :: nat_lit 92 :: nat_lit 94 :: nat_lit 95 :: nat_lit 96 :: nat_lit 98 :: nat_lit 99 :: nat_lit 101 :: nat_lit 102 :: nat_lit 103 :: nat_lit 105 :: nat_lit 106 :: nat_lit 108 :: nat_lit 109 :: nat_lit 110 :: nat_lit 112 :: nat_lit 113 :: nat_lit 115 :: nat_lit 116 :: nat_lit 124 :: nat_lit 126 :: nat_lit 127 :: nat_lit 129 :: nat_lit 130 :: nat_lit 131 :: nat_lit 133 :: nat_lit 134 :: nat_lit 136 :: nat_lit 137 :: nat_lit 138 :: nat_lit 140 :: nat_lit 141 :: nat_lit 143 :: nat_lit 144 :: nat_lit 145 :: nat_lit 147 :: nat_lit 148 :: nat_lit 150 :: nat_lit 151 :: nat_lit 152 :: nat_lit 153 :: nat_lit 154 :: nat_lit 155 :: nat_lit 156 :: nat_lit 159 :: nat_lit 161 :: nat_lit 162 :: nat_lit 164 :: nat_lit 165 :: nat_lit 166 :: nat_lit 168 :: nat_lit 169 :: nat_lit 171 :: nat_lit 172 :: nat_lit 173 :: nat_lit 175 :: nat_lit 176 :: nat_lit 178 :: nat_lit 179 :: nat_lit 180 :: nat_lit 181 :: nat_lit 183 :: nat_lit 184 :: nat_lit 186 :: nat_lit 187 :: nat_lit 188 :: nat_lit 190 :: nat_lit 191 :: nat_lit 193 :: nat_lit 194 :: nat_lit 195 :: nat_lit 197 :: nat_lit 198 :: nat_lit 200 :: nat_lit 201 :: nat_lit 202 :: nat_lit 203 :: nat_lit 204 :: nat_lit 206 :: nat_lit 207 :: nat_lit 209 :: nat_lit 210 :: nat_lit 211 :: nat_lit 213 :: nat_lit 214 :: nat_lit 216 :: nat_lit 217 :: nat_lit 225 :: nat_lit 226 :: nat_lit 228 :: nat_lit 229 :: nat_lit 231 :: nat_lit 232 :: nat_lit 233 :: nat_lit 235 :: nat_lit 236 :: nat_lit 238 :: nat_lit 239 :: nat_lit 240 :: nat_lit 242 :: nat_lit 243 :: nat_lit 245 :: nat_lit 246 :: nat_lit 247 :: nat_lit 249 :: nat_lit 250 :: nat_lit 252 :: nat_lit 253 :: nat_lit 254 :: nat_lit 255 :: nat_lit 256 :: nat_lit 258 :: nat_lit 259 :: nat_lit 261 :: nat_lit 262 :: nat_lit 263 :: nat_lit 264 :: nat_lit 265 :: nat_lit 267 :: nat_lit 268 :: nat_lit 270 :: nat_lit 271 :: nat_lit 272 :: nat_lit 274 :: nat_lit 275 :: nat_lit 277 :: nat_lit 278 :: nat_lit 279 :: nat_lit 281 :: nat_lit 282 :: nat_lit 284 :: nat_lit 285 :: nat_lit 286 :: nat_lit 288 :: nat_lit 289 :: nat_lit 291 :: nat_lit 292 :: nat_lit 293 :: nat_lit 294 :: nat_lit 296 :: nat_lit 297 :: nat_lit 299 :: nat_lit 300 :: nat_lit 301 :: nat_lit 303 :: nat_lit 304 :: nat_lit 306 :: nat_lit 307 :: nat_lit 308 :: nat_lit 310 :: nat_lit 311 :: nat_lit 313 :: nat_lit 314 :: nat_lit 315 :: nat_lit 316 :: nat_lit 317 :: nat_lit 318 :: nat_lit 319 :: nat_lit 322 :: nat_lit 324 :: nat_lit 325 :: nat_lit 327 :: nat_lit 328 :: nat_lit 329 :: nat_lit 331 :: nat_lit 332 :: nat_lit 334 :: nat_lit 335 :: nat_lit 336 :: nat_lit 338 :: nat_lit 339 :: nat_lit 341 :: nat_lit 342 :: nat_lit 343 :: nat_lit 345 :: nat_lit 346 :: nat_lit 348 :: nat_lit 349 :: nat_lit 350 :: nat_lit 352 :: nat_lit 353 :: nat_lit 355 :: nat_lit 356 :: nat_lit 357 :: nat_lit 359 :: nat_lit 360 :: nat_lit 362 :: nat_lit 363 :: nat_lit 364 :: nat_lit 366 :: nat_lit 367 :: nat_lit 369 :: nat_lit 370 :: nat_lit 371 :: nat_lit 373 :: nat_lit 374 :: nat_lit 376 :: nat_lit 377 :: nat_lit 378 :: nat_lit 380 :: nat_lit 381 :: nat_lit 383 :: nat_lit 384 :: nat_lit 385 :: nat_lit 387 :: nat_lit 388 :: nat_lit 390 :: nat_lit 391 :: nat_lit 392 :: nat_lit 394 :: nat_lit 395 :: nat_lit 397 :: nat_lit 398 :: nat_lit 399 :: nat_lit 401 :: nat_lit 402 :: nat_lit 404 :: nat_lit 405 :: nat_lit 406 :: nat_lit 408 :: nat_lit 409 :: nat_lit 411 :: nat_lit 412 :: []
noncomputable abbrev HK : Hook := kHook hd.heap_39 asK (fun _ => by kernel_rfl)
noncomputable abbrev xt6 : Shared → Bool := fun s => xlAt hd.view_39 vals2 s && recOk (RowW.records rW) s
theorem hd_look1 (w : World) (os : OsState) : (staticsOk (importedModules pw.main.body) (boot_heap w.params) (hd.heap_468 w.params) && namesBound pw (hd.heap_468 w.params) &&
    gensDone (Shared.mk (hd.heap_468 w.params) (Array.mk []) {} (nat_lit 727) os) && laidKept (boot_heap w.params) (hd.heap_468 w.params)) = true := by kernel_rfl
theorem hd_look2_q (w : World) (os : OsState) : PySem.W.Fast.tw4187177175401517315 hd.view_39 loose6 (importedModules pw.main.body) xt6 true (Shared.mk (hd.heap_468 w.params) (Array.mk []) {} (nat_lit 727) os) = openGood hd.view_39 loose6 := by kernel_rfl
theorem hd_look2 (w : World) (os : OsState) : openSeen hd.view_39 loose6 (importedModules pw.main.body) xt6 true (Shared.mk (hd.heap_468 w.params) (Array.mk []) {} (nat_lit 727) os) = openGood hd.view_39 loose6 := by
  rewrite [PySem.W.Fast.te4187177175401517315]; exact hd_look2_q w os
theorem hd_look3 (w : World) (os : OsState) : Hook.obs HK (Shared.mk (hd.heap_468 w.params) (Array.mk []) {} (nat_lit 727) os) = Hook.val HK w := by kernel_rfl
theorem hd_left : LeftO pw hd.view_39 loose6 xt6 (Hook.obs HK) (Hook.val HK) 5332 :=
  LeftO.of_pieces hd_open hd_size hd_run (by decide) (fun w => funext fun os => Prod.ext (hd_look1 w os) (Prod.ext (hd_look2 w os) (hd_look3 w os)))
theorem hd_looks : looksOpen pw = true := by
  unfold looksOpen
  rewrite [PySem.W.Fast.te8326940854005059898, PySem.W.Fast.te8377067652309620493, PySem.W.Fast.te17119622794617984870]
  kernel_rfl
theorem hd_row : PySem.Challenge.rw_xm0732_01.row.wellSaid = true := by
  unfold OpenRow.wellSaid OpenRow.partSaid
  rewrite [show looksOpen PySem.Challenge.rw_xm0732_01.row.prog = true from hd_looks]
  kernel_rfl
theorem hd_said : PySem.Challenge.rw_xm0732_01.wellSaid = true := by
  unfold OpenLaw.wellSaid
  rewrite [hd_row, PySem.W.Fast.te8326940854005059898, PySem.W.Fast.te17119622794617984870, PySem.W.Fast.te6984425678791042302, PySem.W.Fast.named_eq]
  kernel_rfl
theorem hd_i : importsNone hd.view_39 = true := by
  rewrite [PySem.W.Fast.te2458874890965802552]; kernel_rfl
theorem hd_n : namesOk hd.view_39 (looseW hd.view_39 [Str.ofString "MOST_VALUE", Str.ofString "fraction", Str.ofString "MOST_SIZE", Str.ofString "length", Str.ofString "length_styles", Str.ofString "Look"]) (namesW hd.view_39 [Str.ofString "MOST_VALUE", Str.ofString "fraction", Str.ofString "MOST_SIZE", Str.ofString "length", Str.ofString "length_styles", Str.ofString "Look"]) = true := by
  rewrite [PySem.W.Fast.te17448422675489707002]; kernel_rfl
end SHh
theorem let_mX {P : (Str → Option Value) → Prop} {m : Str → Option Value} (h : let mm9 := m; P mm9) : P m := h
theorem let_AX {P : Around → Prop} {A : Around} (h : let AA9 := A; P AA9) : P A := h
section SB0
theorem ne_of_allLt {d : Addr} {l : List (Addr × Obj)} (h : ∀ p ∈ l, p.1 < d) : ∀ p ∈ l, p.1 ≠ d := fun p hp => Nat.ne_of_lt (h p hp)
/-- a contract: the call of the def at f with vs over the ledger news comes back with a value r and a ledger news' as Ok says -/
def Ctr (f : Addr) (dn : Nat) (news : List (Addr × Obj)) (vs : List Value) (Ok : List (Addr × Obj) → Value → Prop) : Prop :=
  ∀ (w : World) (mean : ExcName → Option Value) (mg mb : Str → Option Value) (dp un : Nat) (gd : Option (List Code)) (cn : Str) (cs : Scope) (a : Addr) (ccd : Value) (cl : List (Str × Addr)) (outer : List Env) (A₀ : Around) (base h₀ : Heap) (L : Addr)
    (m : Str → Option Value) (s : Shared) (Q E : Value → Shared → Prop),
    Below A₀ base outer h₀ → Fr h₀ L s.heap m → (hd.heap_39 w.params).In h₀ → News h₀ L s.heap news →
    Top hd.view_39 (looseW hd.view_39 [Str.ofString "MOST_VALUE", Str.ofString "fraction", Str.ofString "MOST_SIZE", Str.ofString "length", Str.ofString "length_styles", Str.ofString "Look"]) mean mg mb h₀ →
    cs.kind = .function → dp + dn < recursionLimit → un + 8 * dn < cLine →
    (∀ r h' tk' news', Fr h₀ L h' m → News h₀ L h' news' → Ok news' r → Q r { s with heap := h', toks := tk' }) →
    wpAny (model PySem.Challenge.rw_xm0732_01.row.prog w) (ktrTop dp un gd cn cs L a ccd cl outer) (call (.ref f) vs) Q E s

theorem Ctr.use {f : Addr} {dn : Nat} {news : List (Addr × Obj)} {vs : List Value} {Ok : List (Addr × Obj) → Value → Prop}
    {w : World} {mean : ExcName → Option Value} {mg mb : Str → Option Value} {dp un : Nat} {gd : Option (List Code)} {cn : Str} {cs : Scope} {a : Addr} {ccd : Value} {cl : List (Str × Addr)} {outer : List Env} {A₀ : Around} {base h₀ : Heap} {L : Addr}
    {m : Str → Option Value} {s : Shared} {Q E : Value → Shared → Prop} (C : Ctr f dn news vs Ok)
    (B : Below A₀ base outer h₀) (F : Fr h₀ L s.heap m) (X : (hd.heap_39 w.params).In h₀) (N : News h₀ L s.heap news)
    (T : Top hd.view_39 (looseW hd.view_39 [Str.ofString "MOST_VALUE", Str.ofString "fraction", Str.ofString "MOST_SIZE", Str.ofString "length", Str.ofString "length_styles", Str.ofString "Look"]) mean mg mb h₀)
    (hk : cs.kind = .function) (hd : dp + dn < recursionLimit) (hu : un + 8 * dn < cLine)
    (ret : ∀ r h' tk' news', Fr h₀ L h' m → News h₀ L h' news' → Ok news' r → Q r { s with heap := h', toks := tk' }) :
    wpAny (model PySem.Challenge.rw_xm0732_01.row.prog w) (ktrTop dp un gd cn cs L a ccd cl outer) (call (.ref f) vs) Q E s :=
  C w mean mg mb dp un gd cn cs a ccd cl outer A₀ base h₀ L m s Q E B F X N T hk hd hu ret


abbrev tup2 (a b : Int) (t u : Tok) (c : Nat) : Obj := { cls := .type "tuple", data := .seq #[.int a t, .int b u] c }
def OkI (news : List (Addr × Obj)) (v : Int) (n : List (Addr × Obj)) (r : Value) : Prop := n = news ∧ ∃ t, r = .int v t
theorem OkI.out {news n : List (Addr × Obj)} {v : Int} {r : Value} (h : OkI news v n r) : news = n ∧ ∃ t, .int v t = r := let ⟨a, t, b⟩ := h; ⟨a.symm, t, b.symm⟩
def OkT (news : List (Addr × Obj)) (a b : Int) (n : List (Addr × Obj)) (r : Value) : Prop := ∃ D t u c, r = .ref D ∧ n = (D, tup2 a b t u c) :: news ∧ ∀ p ∈ news, p.1 < D
theorem OkT.out {news n : List (Addr × Obj)} {a b : Int} {r : Value} (h : OkT news a b n r) : ∃ D t u c, (D, { cls := .type "tuple", data := .seq #[.int a t, .int b u] c }) :: news = n ∧ .ref D = r ∧ ∀ p ∈ news, p.1 < D := let ⟨D, t, u, c, x, y, z⟩ := h; ⟨D, t, u, c, y.symm, x.symm, z⟩

section
variable {h₀ h' : Heap} {L D : Addr} {m : Str → Option Value} {news news' : List (Addr × Obj)} {s : Shared} {Q : Value → Shared → Prop} {a b a' b' : Int} {t u : Tok} {c tk' : Nat}
theorem okI_end (hret : ∀ r h' tk' news', Fr h₀ L h' m → News h₀ L h' news' → OkI news a news' r → Q r { s with heap := h', toks := tk' })
    (F : Fr h₀ L h' m) (N : News h₀ L h' news') (hs : ∀ p ∈ news, p ∈ news') (ha : a' = a) : Q (.int a' t) { s with heap := h', toks := tk' } := by
  subst ha
  exact hret _ _ _ _ F (cb_drop N hs) ⟨rfl, _, rfl⟩
theorem okT_end (hret : ∀ r h' tk' news', Fr h₀ L h' m → News h₀ L h' news' → OkT news a b news' r → Q r { s with heap := h', toks := tk' })
    (F : Fr h₀ L h' m) (N : News h₀ L h' news') (hm : (D, tup2 a' b' t u c) ∈ news') (hs : ∀ p ∈ news, p ∈ news') (hl : ∀ p ∈ news, p.1 < D) (ha : a' = a) (hb : b' = b) : Q (.ref D) { s with heap := h', toks := tk' } := by
  subst ha
  subst hb
  refine hret _ _ _ ((D, tup2 a' b' t u c) :: news) F (fun p hp => ?_) ⟨_, _, _, _, rfl, rfl, hl⟩
  rcases List.mem_cons.mp hp with rfl | hp
  · exact N _ hm
  · exact N p (hs p hp)
end
/-- at most k bits -/
def Sm (k : Nat) (x : Int) : Prop := x.natAbs < 2 ^ k
theorem bits_of_sm {k : Nat} {x : Int} (h : Sm k x) : Builtin.Int.intBits x ≤ k := by
  unfold Sm at h
  unfold Builtin.Int.intBits
  split
  · exact Nat.zero_le _
  · rename_i hx
    have : x.natAbs ≠ 0 := by
      intro e
      exact hx (by simpa using e)
    have := (Nat.log2_lt this).mpr h
    omega
theorem Sm.ok {j k : Nat} {x y : Int} (h : Sm j x) (h' : Sm k y) (hj : j ≤ 2 ^ 20 := by decide) (hk : k ≤ 2 ^ 20 := by decide) : IntMulOk x y :=
  IntMulOk.of_bits (Nat.le_trans (bits_of_sm h) hj) (Nat.le_trans (bits_of_sm h') hk)
theorem Sm.mul {j k : Nat} {x y : Int} (h : Sm j x) (h' : Sm k y) : Sm (j + k) (x * y) := by
  unfold Sm at *
  rw [Int.natAbs_mul, Nat.pow_add]
  exact Nat.mul_lt_mul'' h h'
theorem Sm.mono {j k : Nat} {x : Int} (h : Sm j x) (hk : j ≤ k := by decide) : Sm k x := Nat.lt_of_lt_of_le h (Nat.pow_le_pow_right (by decide) hk)
theorem Sm.le {k : Nat} {x y : Int} (h : Sm k x) (hy : y.natAbs ≤ x.natAbs) : Sm k y := Nat.lt_of_le_of_lt hy h
theorem dv_of_sm {x y : Int} (h : Sm 8000 y) : Builtin.divisionGoesByPylong x y = false := by
  refine PyProof.noPylong_of_log2 ?_
  by_cases hy : y.natAbs = 0
  · rw [hy]; decide
  · exact Nat.lt_trans ((Nat.log2_lt hy).mpr h) (by decide)

theorem mark : PySem.Challenge.rw_xm0732_01 = PySem.Challenge.rw_xm0732_01 ∧ hd.heap_39 = hd.heap_39 := ⟨rfl, rfl⟩
theorem mark_use {P : Prop} (h : PySem.Challenge.rw_xm0732_01 = PySem.Challenge.rw_xm0732_01 ∧ hd.heap_39 = hd.heap_39 → P) : P := h mark

theorem cd_start (one other : Int) : 0 ≤ (if one < 0 then -one else one) ∧ Nat.gcd (if one < 0 then -one else one).natAbs other.toNat = Nat.gcd one.natAbs other.toNat := by
  constructor
  · split <;> omega
  · congr 1; split <;> omega
theorem fmod_toNat {a b : Int} (ha : 0 ≤ a) (hb : 0 < b) : (Int.fmod a b).toNat = a.natAbs % b.toNat := by
  rw [Int.fmod_eq_emod_of_nonneg _ (Int.le_of_lt hb)]
  obtain ⟨n, rfl⟩ := Int.eq_ofNat_of_zero_le ha
  obtain ⟨k, rfl⟩ := Int.eq_ofNat_of_zero_le (Int.le_of_lt hb)
  simp only [Int.natAbs_natCast, Int.toNat_natCast]
  norm_cast
theorem cd_turn {a b : Int} {g : Nat} (h : 0 ≤ a ∧ Nat.gcd a.natAbs b.toNat = g) (hb : 0 < b) : 0 ≤ b ∧ Nat.gcd b.natAbs (Int.fmod a b).toNat = g := by
  refine ⟨Int.le_of_lt hb, ?_⟩
  rw [fmod_toNat h.1 hb, ← h.2]
  have : b.natAbs = b.toNat := by omega
  rw [this, Nat.gcd_comm a.natAbs, Nat.gcd_rec b.toNat a.natAbs, Nat.gcd_comm]
theorem cd_less {a b : Int} {g : Nat} (h : 0 ≤ a ∧ Nat.gcd a.natAbs b.toNat = g) (hb : 0 < b) : (Int.fmod a b).toNat < b.toNat := by
  rw [fmod_toNat h.1 hb]
  exact Nat.mod_lt _ (by omega)
theorem cd_end {a b : Int} {g : Nat} (h : 0 ≤ a ∧ Nat.gcd a.natAbs b.toNat = g) (hb : ¬ 0 < b) : a = (g : Int) := by
  have : b.toNat = 0 := by omega
  rw [this, Nat.gcd_zero_right] at h
  omega
theorem ct_common (one other : Int) (t1 t2 : Tok) (news : List (Addr × Obj)) :
    Ctr 73 2 news [.int one t1, .int other t2] (OkI news (Nat.gcd one.natAbs other.toNat : Int)) := by
  (k_with_none; refine mark_use ?_; k_fill; intro _; unfold Ctr; intro w_q mean_q mg_q mb_q dp_q un_q gd_q cn_q cs_q a_q ccd_q cl_q outer_q A_q base_q h_q L_q m_q s_q Q_q E_q B_q F_q X_q N T_q hk_q hdp_q hun_q hret; refine wpAny_call ?_; k_dflt (refine' code_def ?k1 ?k2 ?k3 ?k4 ?k5 ?kA ?kF ?kK ?k6 ?k7 ?k8 ?k9 ?kB ?_ ?c2 ?c3 ?c4 ?c5; (case kA => exact rfl); (case kF => exact rfl); (case kK => assumption); (case k1 => k_asm); (case k2 => k_asm); (case k3 => k_asm); (case k4 => k_asm); (case k5 => k_asm); (case k6 => k_is); (case k7 => k_is); (case k8 => ktr_room); (case k9 => first | exact BindsTo.of_eq rfl | exact binds_K (by k_in) rfl (by k_is) rfl rfl rfl); (case c5 => decide); (case kB => exact locs rfl); (case c2 => exact rfl); (case c3 => exact rfl); (case c4 => exact rfl); k_whole; intro g_r L_r h_r FG_r F_r N_r B_r X_r T_r; (try dsimp only); (try k_lift B_r); (try k_fold)))
  k_with "exec While Compare cons nil" => k_while (fun _ a b => 0 ≤ a ∧ Nat.gcd a.natAbs b.toNat = Nat.gcd one.natAbs other.toNat) (fun _ _ b => b.toNat) "first" "second"
  k_with "state" => first | exact cd_start _ _ | exact cd_turn ⟨by assumption, by assumption⟩ (by assumption)
  k_with "measure" => exact cd_less ⟨by assumption, by assumption⟩ (by assumption)
  k_steps
  all_goals exact hret _ _ _ _ (by k_asm) (cb_drop (by assumption) (by kcj_all)) ⟨rfl, _, congrArg (fun x => Value.int x _) (cd_end ⟨by assumption, by assumption⟩ (by assumption))⟩
end SB0
local macro_rules | `(tactic| walk_at "ite") => `(tactic| first | with_reducible refine PyProof.Rows.ite_tt ?_ | with_reducible refine PyProof.Rows.ite_ff ?_)
local macro_rules | `(tactic| k_mem) => `(tactic| assumption)
local macro_rules | `(tactic| walk_at $s:str) => `(tactic| k_extra $s)
local macro_rules | `(tactic| k_all) => `(tactic| first | assumption | exact ne_of_allLt (by assumption))
section SB1
/-- the gcd that the text takes -/
def gd (t b : Int) : Int := (Nat.gcd t.natAbs b.toNat : Int)
theorem gd_pos (t : Int) {b : Int} (hb : 0 < b) : 0 < gd t b := by
  unfold gd
  have := Nat.gcd_pos_of_pos_right t.natAbs (show 0 < b.toNat by omega)
  omega
theorem gd_sm {k : Nat} (t : Int) {b : Int} (hb : 0 < b) (h : Sm k b) : Sm k (gd t b) := by
  refine h.le ?_
  unfold gd
  rw [Int.natAbs_natCast]
  have := Nat.le_of_dvd (show 0 < b.toNat by omega) (Nat.gcd_dvd_right t.natAbs b.toNat)
  omega
theorem ct_common' (one other : Int) (t1 t2 : Tok) (news : List (Addr × Obj)) : Ctr 73 2 news [.int one t1, .int other t2] (OkI news (gd one other)) := ct_common one other t1 t2 news
theorem ct_fraction (top bottom : Int) (hb : 0 < bottom) (hs : Sm 8000 bottom) (t1 t2 : Tok) (news : List (Addr × Obj)) :
    Ctr 81 3 news [.int top t1, .int bottom t2] (OkT news (Int.fdiv top (gd top bottom)) (Int.fdiv bottom (gd top bottom))) := by
  (k_with_none; (k_with "binaryOp FloorDiv int int" => (refine floordiv_int (by first | assumption | omega) ?_ (Or.inl (dv_of_sm (by assumption))))); refine mark_use ?_; k_fill; intro _; unfold Ctr; intro w_q mean_q mg_q mb_q dp_q un_q gd_q cn_q cs_q a_q ccd_q cl_q outer_q A_q base_q h_q L_q m_q s_q Q_q E_q B_q F_q X_q N T_q hk_q hdp_q hun_q hret; refine wpAny_call ?_; k_dflt (refine' code_def ?k1 ?k2 ?k3 ?k4 ?k5 ?kA ?kF ?kK ?k6 ?k7 ?k8 ?k9 ?kB ?_ ?c2 ?c3 ?c4 ?c5; (case kA => exact rfl); (case kF => exact rfl); (case kK => assumption); (case k1 => k_asm); (case k2 => k_asm); (case k3 => k_asm); (case k4 => k_asm); (case k5 => k_asm); (case k6 => k_is); (case k7 => k_is); (case k8 => ktr_room); (case k9 => first | exact BindsTo.of_eq rfl | exact binds_K (by k_in) rfl (by k_is) rfl rfl rfl); (case c5 => decide); (case kB => exact locs rfl); (case c2 => exact rfl); (case c3 => exact rfl); (case c4 => exact rfl); k_whole; intro g_r L_r h_r FG_r F_r N_r B_r X_r T_r; (try dsimp only); (try k_lift B_r); (try k_fold)))
  have hg : gd top bottom ≠ 0 := Int.ne_of_gt (gd_pos top hb)
  have hg2 := gd_sm top hb hs
  k_with "call ref" => (k_here; (k_dflt (refine' Ctr.use (ct_common' _ _ _ _ _) ?k1 ?k2 ?k3 ?k4 ?k5 ?kK ?kd ?ku ?_; (case k1 => k_asm); (case k2 => k_asm); (case k3 => k_asm); (case k4 => k_asm); (case k5 => k_asm); (case kK => first | exact rfl | assumption); (case kd => ktr_room); (case ku => ktr_units); k_whole)); intro r9 h9 tk9 n9 F9 N9 ho9; first | (obtain ⟨e9, t9, q9⟩ := OkI.out ho9; clear ho9; subst e9; subst q9; (try dsimp only); (try k_fold)) | (obtain ⟨D9, t9, u9, c9, e9, q9, l9⟩ := OkT.out ho9; clear ho9; subst q9; subst e9; (try k_lt l9); (try dsimp only); (try k_sweep); (try k_fold)))
  k_steps
  all_goals first | (exfalso; omega) | (refine' okI_end hret ?e1 ?e2 ?e3 ?e4; (case e1 => k_asm); (case e2 => first | with_reducible assumption | assumption); (case e3 => (intro p hp; repeat (first | exact hp | refine List.Mem.tail _ ?_))); (case e4 => first | rfl | assumption | ((repeat' split) <;> omega) | (simp; done))) | (refine' okT_end hret ?e1 ?e2 ?e3 ?e4 ?e5 ?e6 ?e7; (case e1 => k_asm); (case e2 => first | with_reducible assumption | assumption); (case e3 => k_mem); (case e4 => (intro p hp; repeat (first | exact hp | refine List.Mem.tail _ ?_))); (case e5 => exact ktn_ltOf (by first | exact (And.right (by with_reducible assumption)) | exact (And.right (And.right (by with_reducible assumption))) | exact (And.right (And.right (And.right (by with_reducible assumption)))) | exact (And.right (And.right (And.right (And.right (by with_reducible assumption))))) | exact (And.right (And.right (And.right (And.right (And.right (by with_reducible assumption)))))) | exact (And.right (And.right (And.right (And.right (And.right (And.right (by with_reducible assumption))))))) | exact (And.right (And.right (And.right (And.right (And.right (And.right (And.right (by with_reducible assumption)))))))) | exact (And.right (And.right (And.right (And.right (And.right (And.right (And.right (And.right (by with_reducible assumption))))))))) | exact (And.right (And.right (And.right (And.right (And.right (And.right (And.right (And.right (And.right (by with_reducible assumption)))))))))) | exact (And.right (And.right (And.right (And.right (And.right (And.right (And.right (And.right (And.right (And.right (by with_reducible assumption))))))))))) | exact (And.right (And.right (And.right (And.right (And.right (And.right (And.right (And.right (And.right (And.right (And.right (by with_reducible assumption)))))))))))) | exact (And.right (And.right (And.right (And.right (And.right (And.right (And.right (And.right (And.right (And.right (And.right (And.right (by with_reducible assumption))))))))))))) | exact (And.right (And.right (And.right (And.right (And.right (And.right (And.right (And.right (And.right (And.right (And.right (And.right (And.right (by with_reducible assumption)))))))))))))) | exact (And.right (And.right (And.right (And.right (And.right (And.right (And.right (And.right (And.right (And.right (And.right (And.right (And.right (And.right (by with_reducible assumption))))))))))))))) | ktn_lt)); (case e6 => rfl); (case e7 => rfl))
/-- lowest terms -/
def loT (t b : Int) : Int := Int.fdiv t (gd t b)
def loB (t b : Int) : Int := Int.fdiv b (gd t b)
theorem ct_fraction' (top bottom : Int) (hb : 0 < bottom) (hs : Sm 8000 bottom) (t1 t2 : Tok) (news : List (Addr × Obj)) :
    Ctr 81 3 news [.int top t1, .int bottom t2] (OkT news (loT top bottom) (loB top bottom)) := ct_fraction top bottom hb hs t1 t2 news
theorem ct_times (a0 a1 b0 b1 : Int) (x y : Addr) (t1 t2 t3 t4 : Tok) (c d : Nat) (hb : 0 < a1 * b1) (hs : Sm 8000 (a1 * b1)) (m0 : IntMulOk a0 b0) (m1 : IntMulOk a1 b1) (news : List (Addr × Obj))
    (hx : (x, tup2 a0 a1 t1 t2 c) ∈ news) (hy : (y, tup2 b0 b1 t3 t4 d) ∈ news) :
    Ctr 88 4 news [.ref x, .ref y] (OkT news (loT (a0 * b0) (a1 * b1)) (loB (a0 * b0) (a1 * b1))) := by
  (k_with_none; (k_with "binaryOp FloorDiv int int" => (refine floordiv_int (by first | assumption | omega) ?_ (Or.inl (dv_of_sm (by assumption))))); refine mark_use ?_; k_fill; intro _; unfold Ctr; intro w_q mean_q mg_q mb_q dp_q un_q gd_q cn_q cs_q a_q ccd_q cl_q outer_q A_q base_q h_q L_q m_q s_q Q_q E_q B_q F_q X_q N T_q hk_q hdp_q hun_q hret; refine wpAny_call ?_; k_dflt (refine' code_def ?k1 ?k2 ?k3 ?k4 ?k5 ?kA ?kF ?kK ?k6 ?k7 ?k8 ?k9 ?kB ?_ ?c2 ?c3 ?c4 ?c5; (case kA => exact rfl); (case kF => exact rfl); (case kK => assumption); (case k1 => k_asm); (case k2 => k_asm); (case k3 => k_asm); (case k4 => k_asm); (case k5 => k_asm); (case k6 => k_is); (case k7 => k_is); (case k8 => ktr_room); (case k9 => first | exact BindsTo.of_eq rfl | exact binds_K (by k_in) rfl (by k_is) rfl rfl rfl); (case c5 => decide); (case kB => exact locs rfl); (case c2 => exact rfl); (case c3 => exact rfl); (case c4 => exact rfl); k_whole; intro g_r L_r h_r FG_r F_r N_r B_r X_r T_r; (try dsimp only); (try k_lift B_r); (try k_fold)))
  k_with "call ref" => (k_here; (k_dflt (refine' Ctr.use (ct_fraction' _ _ hb hs _ _ _) ?k1 ?k2 ?k3 ?k4 ?k5 ?kK ?kd ?ku ?_; (case k1 => k_asm); (case k2 => k_asm); (case k3 => k_asm); (case k4 => k_asm); (case k5 => k_asm); (case kK => first | exact rfl | assumption); (case kd => ktr_room); (case ku => ktr_units); k_whole)); intro r9 h9 tk9 n9 F9 N9 ho9; first | (obtain ⟨e9, t9, q9⟩ := OkI.out ho9; clear ho9; subst e9; subst q9; (try dsimp only); (try k_fold)) | (obtain ⟨D9, t9, u9, c9, e9, q9, l9⟩ := OkT.out ho9; clear ho9; subst q9; subst e9; (try k_lt l9); (try dsimp only); (try k_sweep); (try k_fold)))
  k_steps
  all_goals first | (exfalso; omega) | (refine' okI_end hret ?e1 ?e2 ?e3 ?e4; (case e1 => k_asm); (case e2 => first | with_reducible assumption | assumption); (case e3 => (intro p hp; repeat (first | exact hp | refine List.Mem.tail _ ?_))); (case e4 => first | rfl | assumption | ((repeat' split) <;> omega) | (simp; done))) | (refine' okT_end hret ?e1 ?e2 ?e3 ?e4 ?e5 ?e6 ?e7; (case e1 => k_asm); (case e2 => first | with_reducible assumption | assumption); (case e3 => k_mem); (case e4 => (intro p hp; repeat (first | exact hp | refine List.Mem.tail _ ?_))); (case e5 => exact ktn_ltOf (by first | exact (And.right (by with_reducible assumption)) | exact (And.right (And.right (by with_reducible assumption))) | exact (And.right (And.right (And.right (by with_reducible assumption)))) | exact (And.right (And.right (And.right (And.right (by with_reducible assumption))))) | exact (And.right (And.right (And.right (And.right (And.right (by with_reducible assumption)))))) | exact (And.right (And.right (And.right (And.right (And.right (And.right (by with_reducible assumption))))))) | exact (And.right (And.right (And.right (And.right (And.right (And.right (And.right (by with_reducible assumption)))))))) | exact (And.right (And.right (And.right (And.right (And.right (And.right (And.right (And.right (by with_reducible assumption))))))))) | exact (And.right (And.right (And.right (And.right (And.right (And.right (And.right (And.right (And.right (by with_reducible assumption)))))))))) | exact (And.right (And.right (And.right (And.right (And.right (And.right (And.right (And.right (And.right (And.right (by with_reducible assumption))))))))))) | exact (And.right (And.right (And.right (And.right (And.right (And.right (And.right (And.right (And.right (And.right (And.right (by with_reducible assumption)))))))))))) | exact (And.right (And.right (And.right (And.right (And.right (And.right (And.right (And.right (And.right (And.right (And.right (And.right (by with_reducible assumption))))))))))))) | exact (And.right (And.right (And.right (And.right (And.right (And.right (And.right (And.right (And.right (And.right (And.right (And.right (And.right (by with_reducible assumption)))))))))))))) | exact (And.right (And.right (And.right (And.right (And.right (And.right (And.right (And.right (And.right (And.right (And.right (And.right (And.right (And.right (by with_reducible assumption))))))))))))))) | ktn_lt)); (case e6 => rfl); (case e7 => rfl))
theorem ct_divided (a0 a1 : Int) (x : Addr) (t1 t2 : Tok) (c : Nat) (hb : 0 < a1 * 100) (hs : Sm 8000 (a1 * 100)) (news : List (Addr × Obj))
    (hx : (x, tup2 a0 a1 t1 t2 c) ∈ news) :
    Ctr 95 4 news [.ref x, .ref 180] (OkT news (loT (a0 * 1) (a1 * 100)) (loB (a0 * 1) (a1 * 100))) := by
  (k_with_none; (k_with "binaryOp FloorDiv int int" => (refine floordiv_int (by first | assumption | omega) ?_ (Or.inl (dv_of_sm (by assumption))))); refine mark_use ?_; k_fill; intro _; unfold Ctr; intro w_q mean_q mg_q mb_q dp_q un_q gd_q cn_q cs_q a_q ccd_q cl_q outer_q A_q base_q h_q L_q m_q s_q Q_q E_q B_q F_q X_q N T_q hk_q hdp_q hun_q hret; refine wpAny_call ?_; k_dflt (refine' code_def ?k1 ?k2 ?k3 ?k4 ?k5 ?kA ?kF ?kK ?k6 ?k7 ?k8 ?k9 ?kB ?_ ?c2 ?c3 ?c4 ?c5; (case kA => exact rfl); (case kF => exact rfl); (case kK => assumption); (case k1 => k_asm); (case k2 => k_asm); (case k3 => k_asm); (case k4 => k_asm); (case k5 => k_asm); (case k6 => k_is); (case k7 => k_is); (case k8 => ktr_room); (case k9 => first | exact BindsTo.of_eq rfl | exact binds_K (by k_in) rfl (by k_is) rfl rfl rfl); (case c5 => decide); (case kB => exact locs rfl); (case c2 => exact rfl); (case c3 => exact rfl); (case c4 => exact rfl); k_whole; intro g_r L_r h_r FG_r F_r N_r B_r X_r T_r; (try dsimp only); (try k_lift B_r); (try k_fold)))
  k_with "call ref" => (k_here; (k_dflt (refine' Ctr.use (ct_fraction' _ _ hb hs _ _ _) ?k1 ?k2 ?k3 ?k4 ?k5 ?kK ?kd ?ku ?_; (case k1 => k_asm); (case k2 => k_asm); (case k3 => k_asm); (case k4 => k_asm); (case k5 => k_asm); (case kK => first | exact rfl | assumption); (case kd => ktr_room); (case ku => ktr_units); k_whole)); intro r9 h9 tk9 n9 F9 N9 ho9; first | (obtain ⟨e9, t9, q9⟩ := OkI.out ho9; clear ho9; subst e9; subst q9; (try dsimp only); (try k_fold)) | (obtain ⟨D9, t9, u9, c9, e9, q9, l9⟩ := OkT.out ho9; clear ho9; subst q9; subst e9; (try k_lt l9); (try dsimp only); (try k_sweep); (try k_fold)))
  k_steps
  all_goals first | (exfalso; omega) | (refine' okI_end hret ?e1 ?e2 ?e3 ?e4; (case e1 => k_asm); (case e2 => first | with_reducible assumption | assumption); (case e3 => (intro p hp; repeat (first | exact hp | refine List.Mem.tail _ ?_))); (case e4 => first | rfl | assumption | ((repeat' split) <;> omega) | (simp; done))) | (refine' okT_end hret ?e1 ?e2 ?e3 ?e4 ?e5 ?e6 ?e7; (case e1 => k_asm); (case e2 => first | with_reducible assumption | assumption); (case e3 => k_mem); (case e4 => (intro p hp; repeat (first | exact hp | refine List.Mem.tail _ ?_))); (case e5 => exact ktn_ltOf (by first | exact (And.right (by with_reducible assumption)) | exact (And.right (And.right (by with_reducible assumption))) | exact (And.right (And.right (And.right (by with_reducible assumption)))) | exact (And.right (And.right (And.right (And.right (by with_reducible assumption))))) | exact (And.right (And.right (And.right (And.right (And.right (by with_reducible assumption)))))) | exact (And.right (And.right (And.right (And.right (And.right (And.right (by with_reducible assumption))))))) | exact (And.right (And.right (And.right (And.right (And.right (And.right (And.right (by with_reducible assumption)))))))) | exact (And.right (And.right (And.right (And.right (And.right (And.right (And.right (And.right (by with_reducible assumption))))))))) | exact (And.right (And.right (And.right (And.right (And.right (And.right (And.right (And.right (And.right (by with_reducible assumption)))))))))) | exact (And.right (And.right (And.right (And.right (And.right (And.right (And.right (And.right (And.right (And.right (by with_reducible assumption))))))))))) | exact (And.right (And.right (And.right (And.right (And.right (And.right (And.right (And.right (And.right (And.right (And.right (by with_reducible assumption)))))))))))) | exact (And.right (And.right (And.right (And.right (And.right (And.right (And.right (And.right (And.right (And.right (And.right (And.right (by with_reducible assumption))))))))))))) | exact (And.right (And.right (And.right (And.right (And.right (And.right (And.right (And.right (And.right (And.right (And.right (And.right (And.right (by with_reducible assumption)))))))))))))) | exact (And.right (And.right (And.right (And.right (And.right (And.right (And.right (And.right (And.right (And.right (And.right (And.right (And.right (And.right (by with_reducible assumption))))))))))))))) | ktn_lt)); (case e6 => rfl); (case e7 => rfl))
end SB1
section SB2
theorem ct_sign_of (a0 a1 : Int) (x : Addr) (t1 t2 : Tok) (c : Nat) (news : List (Addr × Obj)) (hx : (x, tup2 a0 a1 t1 t2 c) ∈ news) :
    Ctr 102 2 news [.ref x] (OkI news (if 0 < a0 then 1 else if a0 < 0 then -1 else 0)) := by
  (k_with_none; (k_with "binaryOp FloorDiv int int" => (refine floordiv_int (by first | assumption | omega) ?_ (Or.inl (dv_of_sm (by assumption))))); refine mark_use ?_; k_fill; intro _; unfold Ctr; intro w_q mean_q mg_q mb_q dp_q un_q gd_q cn_q cs_q a_q ccd_q cl_q outer_q A_q base_q h_q L_q m_q s_q Q_q E_q B_q F_q X_q N T_q hk_q hdp_q hun_q hret; refine wpAny_call ?_; k_dflt (refine' code_def ?k1 ?k2 ?k3 ?k4 ?k5 ?kA ?kF ?kK ?k6 ?k7 ?k8 ?k9 ?kB ?_ ?c2 ?c3 ?c4 ?c5; (case kA => exact rfl); (case kF => exact rfl); (case kK => assumption); (case k1 => k_asm); (case k2 => k_asm); (case k3 => k_asm); (case k4 => k_asm); (case k5 => k_asm); (case k6 => k_is); (case k7 => k_is); (case k8 => ktr_room); (case k9 => first | exact BindsTo.of_eq rfl | exact binds_K (by k_in) rfl (by k_is) rfl rfl rfl); (case c5 => decide); (case kB => exact locs rfl); (case c2 => exact rfl); (case c3 => exact rfl); (case c4 => exact rfl); k_whole; intro g_r L_r h_r FG_r F_r N_r B_r X_r T_r; (try dsimp only); (try k_lift B_r); (try k_fold)))
  k_steps
  all_goals first | (exfalso; omega) | (refine' okI_end hret ?e1 ?e2 ?e3 ?e4; (case e1 => k_asm); (case e2 => first | with_reducible assumption | assumption); (case e3 => (intro p hp; repeat (first | exact hp | refine List.Mem.tail _ ?_))); (case e4 => first | rfl | assumption | ((repeat' split) <;> omega) | (simp; done))) | (refine' okT_end hret ?e1 ?e2 ?e3 ?e4 ?e5 ?e6 ?e7; (case e1 => k_asm); (case e2 => first | with_reducible assumption | assumption); (case e3 => k_mem); (case e4 => (intro p hp; repeat (first | exact hp | refine List.Mem.tail _ ?_))); (case e5 => exact ktn_ltOf (by first | exact (And.right (by with_reducible assumption)) | exact (And.right (And.right (by with_reducible assumption))) | exact (And.right (And.right (And.right (by with_reducible assumption)))) | exact (And.right (And.right (And.right (And.right (by with_reducible assumption))))) | exact (And.right (And.right (And.right (And.right (And.right (by with_reducible assumption)))))) | exact (And.right (And.right (And.right (And.right (And.right (And.right (by with_reducible assumption))))))) | exact (And.right (And.right (And.right (And.right (And.right (And.right (And.right (by with_reducible assumption)))))))) | exact (And.right (And.right (And.right (And.right (And.right (And.right (And.right (And.right (by with_reducible assumption))))))))) | exact (And.right (And.right (And.right (And.right (And.right (And.right (And.right (And.right (And.right (by with_reducible assumption)))))))))) | exact (And.right (And.right (And.right (And.right (And.right (And.right (And.right (And.right (And.right (And.right (by with_reducible assumption))))))))))) | exact (And.right (And.right (And.right (And.right (And.right (And.right (And.right (And.right (And.right (And.right (And.right (by with_reducible assumption)))))))))))) | exact (And.right (And.right (And.right (And.right (And.right (And.right (And.right (And.right (And.right (And.right (And.right (And.right (by with_reducible assumption))))))))))))) | exact (And.right (And.right (And.right (And.right (And.right (And.right (And.right (And.right (And.right (And.right (And.right (And.right (And.right (by with_reducible assumption)))))))))))))) | exact (And.right (And.right (And.right (And.right (And.right (And.right (And.right (And.right (And.right (And.right (And.right (And.right (And.right (And.right (by with_reducible assumption))))))))))))))) | ktn_lt)); (case e6 => rfl); (case e7 => rfl))
theorem ct_compare (a0 a1 : Int) (x : Addr) (t1 t2 : Tok) (c : Nat) (news : List (Addr × Obj)) (hx : (x, tup2 a0 a1 t1 t2 c) ∈ news) (m0 : IntMulOk a0 1) (m1 : IntMulOk 0 a1) :
    Ctr 109 4 news [.ref x, .ref 66] (OkI news (if 0 < a0 then 1 else if a0 < 0 then -1 else 0)) := by
  (k_with_none; (k_with "binaryOp FloorDiv int int" => (refine floordiv_int (by first | assumption | omega) ?_ (Or.inl (dv_of_sm (by assumption))))); refine mark_use ?_; k_fill; intro _; unfold Ctr; intro w_q mean_q mg_q mb_q dp_q un_q gd_q cn_q cs_q a_q ccd_q cl_q outer_q A_q base_q h_q L_q m_q s_q Q_q E_q B_q F_q X_q N T_q hk_q hdp_q hun_q hret; refine wpAny_call ?_; k_dflt (refine' code_def ?k1 ?k2 ?k3 ?k4 ?k5 ?kA ?kF ?kK ?k6 ?k7 ?k8 ?k9 ?kB ?_ ?c2 ?c3 ?c4 ?c5; (case kA => exact rfl); (case kF => exact rfl); (case kK => assumption); (case k1 => k_asm); (case k2 => k_asm); (case k3 => k_asm); (case k4 => k_asm); (case k5 => k_asm); (case k6 => k_is); (case k7 => k_is); (case k8 => ktr_room); (case k9 => first | exact BindsTo.of_eq rfl | exact binds_K (by k_in) rfl (by k_is) rfl rfl rfl); (case c5 => decide); (case kB => exact locs rfl); (case c2 => exact rfl); (case c3 => exact rfl); (case c4 => exact rfl); k_whole; intro g_r L_r h_r FG_r F_r N_r B_r X_r T_r; (try dsimp only); (try k_lift B_r); (try k_fold)))
  k_with "call ref" => (k_here; (with_reducible show wpAny _ _ (call (Value.ref 102) _) _ _ _); (k_dflt (refine' Ctr.use (ct_sign_of _ _ _ _ _ _ _ ?hm) ?k1 ?k2 ?k3 ?k4 ?k5 ?kK ?kd ?ku ?_; (case k1 => k_asm); (case k2 => k_asm); (case k3 => k_asm); (case k4 => first | k_asm | exact cb_drop (by assumption) (by kcj_all)); (case k5 => k_asm); (case kK => first | exact rfl | assumption); (case kd => ktr_room); (case ku => ktr_units); (case hm => k_mem); k_whole)); intro r9 h9 tk9 n9 F9 N9 ho9; (obtain ⟨e9, t9, q9⟩ := OkI.out ho9); clear ho9; subst e9; subst q9; (try dsimp only); (try k_sweep); (try k_fold))
  k_steps
  all_goals first | (exfalso; omega) | (refine' okI_end hret ?e1 ?e2 ?e3 ?e4; (case e1 => k_asm); (case e2 => first | with_reducible assumption | assumption); (case e3 => (intro p hp; repeat (first | exact hp | refine List.Mem.tail _ ?_))); (case e4 => first | rfl | assumption | ((repeat' split) <;> omega) | (simp; done))) | (refine' okT_end hret ?e1 ?e2 ?e3 ?e4 ?e5 ?e6 ?e7; (case e1 => k_asm); (case e2 => first | with_reducible assumption | assumption); (case e3 => k_mem); (case e4 => (intro p hp; repeat (first | exact hp | refine List.Mem.tail _ ?_))); (case e5 => exact ktn_ltOf (by first | exact (And.right (by with_reducible assumption)) | exact (And.right (And.right (by with_reducible assumption))) | exact (And.right (And.right (And.right (by with_reducible assumption)))) | exact (And.right (And.right (And.right (And.right (by with_reducible assumption))))) | exact (And.right (And.right (And.right (And.right (And.right (by with_reducible assumption)))))) | exact (And.right (And.right (And.right (And.right (And.right (And.right (by with_reducible assumption))))))) | exact (And.right (And.right (And.right (And.right (And.right (And.right (And.right (by with_reducible assumption)))))))) | exact (And.right (And.right (And.right (And.right (And.right (And.right (And.right (And.right (by with_reducible assumption))))))))) | exact (And.right (And.right (And.right (And.right (And.right (And.right (And.right (And.right (And.right (by with_reducible assumption)))))))))) | exact (And.right (And.right (And.right (And.right (And.right (And.right (And.right (And.right (And.right (And.right (by with_reducible assumption))))))))))) | exact (And.right (And.right (And.right (And.right (And.right (And.right (And.right (And.right (And.right (And.right (And.right (by with_reducible assumption)))))))))))) | exact (And.right (And.right (And.right (And.right (And.right (And.right (And.right (And.right (And.right (And.right (And.right (And.right (by with_reducible assumption))))))))))))) | exact (And.right (And.right (And.right (And.right (And.right (And.right (And.right (And.right (And.right (And.right (And.right (And.right (And.right (by with_reducible assumption)))))))))))))) | exact (And.right (And.right (And.right (And.right (And.right (And.right (And.right (And.right (And.right (And.right (And.right (And.right (And.right (And.right (by with_reducible assumption))))))))))))))) | ktn_lt)); (case e6 => rfl); (case e7 => rfl))
theorem ct_rounded (a0 a1 : Int) (x : Addr) (t1 t2 : Tok) (c : Nat) (news : List (Addr × Obj)) (hx : (x, tup2 a0 a1 t1 t2 c) ∈ news) (hb : 0 < 2 * a1) (hs : Sm 8000 (2 * a1)) :
    Ctr 116 2 news [.ref x] (OkI news (Int.fdiv (2 * a0 + a1) (2 * a1))) := by
  (k_with_none; (k_with "binaryOp FloorDiv int int" => (refine floordiv_int (by first | assumption | omega) ?_ (Or.inl (dv_of_sm (by assumption))))); refine mark_use ?_; k_fill; intro _; unfold Ctr; intro w_q mean_q mg_q mb_q dp_q un_q gd_q cn_q cs_q a_q ccd_q cl_q outer_q A_q base_q h_q L_q m_q s_q Q_q E_q B_q F_q X_q N T_q hk_q hdp_q hun_q hret; refine wpAny_call ?_; k_dflt (refine' code_def ?k1 ?k2 ?k3 ?k4 ?k5 ?kA ?kF ?kK ?k6 ?k7 ?k8 ?k9 ?kB ?_ ?c2 ?c3 ?c4 ?c5; (case kA => exact rfl); (case kF => exact rfl); (case kK => assumption); (case k1 => k_asm); (case k2 => k_asm); (case k3 => k_asm); (case k4 => k_asm); (case k5 => k_asm); (case k6 => k_is); (case k7 => k_is); (case k8 => ktr_room); (case k9 => first | exact BindsTo.of_eq rfl | exact binds_K (by k_in) rfl (by k_is) rfl rfl rfl); (case c5 => decide); (case kB => exact locs rfl); (case c2 => exact rfl); (case c3 => exact rfl); (case c4 => exact rfl); k_whole; intro g_r L_r h_r FG_r F_r N_r B_r X_r T_r; (try dsimp only); (try k_lift B_r); (try k_fold)))
  k_steps
  all_goals first | (exfalso; omega) | (refine' okI_end hret ?e1 ?e2 ?e3 ?e4; (case e1 => k_asm); (case e2 => first | with_reducible assumption | assumption); (case e3 => (intro p hp; repeat (first | exact hp | refine List.Mem.tail _ ?_))); (case e4 => first | rfl | assumption | ((repeat' split) <;> omega) | (simp; done))) | (refine' okT_end hret ?e1 ?e2 ?e3 ?e4 ?e5 ?e6 ?e7; (case e1 => k_asm); (case e2 => first | with_reducible assumption | assumption); (case e3 => k_mem); (case e4 => (intro p hp; repeat (first | exact hp | refine List.Mem.tail _ ?_))); (case e5 => exact ktn_ltOf (by first | exact (And.right (by with_reducible assumption)) | exact (And.right (And.right (by with_reducible assumption))) | exact (And.right (And.right (And.right (by with_reducible assumption)))) | exact (And.right (And.right (And.right (And.right (by with_reducible assumption))))) | exact (And.right (And.right (And.right (And.right (And.right (by with_reducible assumption)))))) | exact (And.right (And.right (And.right (And.right (And.right (And.right (by with_reducible assumption))))))) | exact (And.right (And.right (And.right (And.right (And.right (And.right (And.right (by with_reducible assumption)))))))) | exact (And.right (And.right (And.right (And.right (And.right (And.right (And.right (And.right (by with_reducible assumption))))))))) | exact (And.right (And.right (And.right (And.right (And.right (And.right (And.right (And.right (And.right (by with_reducible assumption)))))))))) | exact (And.right (And.right (And.right (And.right (And.right (And.right (And.right (And.right (And.right (And.right (by with_reducible assumption))))))))))) | exact (And.right (And.right (And.right (And.right (And.right (And.right (And.right (And.right (And.right (And.right (And.right (by with_reducible assumption)))))))))))) | exact (And.right (And.right (And.right (And.right (And.right (And.right (And.right (And.right (And.right (And.right (And.right (And.right (by with_reducible assumption))))))))))))) | exact (And.right (And.right (And.right (And.right (And.right (And.right (And.right (And.right (And.right (And.right (And.right (And.right (And.right (by with_reducible assumption)))))))))))))) | exact (And.right (And.right (And.right (And.right (And.right (And.right (And.right (And.right (And.right (And.right (And.right (And.right (And.right (And.right (by with_reducible assumption))))))))))))))) | ktn_lt)); (case e6 => rfl); (case e7 => rfl))
end SB2
section SB3
abbrev rdD (h1 h2 : Int) (k1 k2 : Tok) (x : Str) (tx : Tok) (p : Int) (tp : Tok) : Obj := dictOf [⟨h1, .str "text" k1, .str x tx⟩, ⟨h2, .str "at" k2, .int p tp⟩] 2
def OkB (news : List (Addr × Obj)) (v : Bool) (n : List (Addr × Obj)) (r : Value) : Prop := n = news ∧ r = .bool v
theorem OkB.out {news n : List (Addr × Obj)} {v : Bool} {r : Value} (h : OkB news v n r) : news = n ∧ .bool v = r := let ⟨a, b⟩ := h; ⟨a.symm, b.symm⟩
theorem okB_end {h₀ h' : Heap} {L : Addr} {m : Str → Option Value} {news news' : List (Addr × Obj)} {s : Shared} {Q : Value → Shared → Prop} {a a' : Bool} {tk' : Nat}
    (hret : ∀ r h' tk' news', Fr h₀ L h' m → News h₀ L h' news' → OkB news a news' r → Q r { s with heap := h', toks := tk' })
    (F : Fr h₀ L h' m) (N : News h₀ L h' news') (hs : ∀ p ∈ news, p ∈ news') (ha : a' = a) : Q (.bool a') { s with heap := h', toks := tk' } := by
  subst ha
  exact hret _ _ _ _ F (cb_drop N hs) ⟨rfl, rfl⟩
/-- the sign at p is one of sg's -/
def isOf (x : Str) (p : Nat) (sg : Str) : Bool := match x.cps[p]? with
  | some c => decide (c ∈ sg.cps.toList)
  | none => false
theorem isOf_out {x sg : Str} {p : Int} (hp : 0 ≤ p) (h : ¬ p < (x.length : Int)) : decide (p < (x.length : Int)) = isOf x p.toNat sg := by
  have : x.cps[p.toNat]? = none := by
    apply Array.getElem?_eq_none
    have : x.cps.size = x.length := rfl
    omega
  unfold isOf
  rw [this, decide_eq_false h]
theorem item_nat {x : Str} {p : Int} (hp : 0 ≤ p) (h : p < (x.length : Int)) : ∃ c, x.cps[p.toNat]? = some c ∧ Txt.item x p = ⟨#[c]⟩ := by
  have hl : p.toNat < x.cps.size := by
    have : x.cps.size = x.length := rfl
    omega
  refine ⟨x.cps[p.toNat], Array.getElem?_eq_getElem hl, ?_⟩
  have hj : seqIndex? p x.length = some p.toNat := by
    unfold seqIndex?
    simp [show ¬ p < 0 from by omega, hp, h]
  unfold Txt.item Txt.charAt
  rw [hj, Option.bind_some, Array.getElem?_eq_getElem hl]
  rfl
theorem isOf_in {x sg : Str} {p : Int} (hp : 0 ≤ p) (h : p < (x.length : Int)) : (!(Builtin.Str.occurrences sg (Txt.item x p) 0 sg.length 1).isEmpty) = isOf x p.toNat sg := by
  obtain ⟨c, h1, h2⟩ := item_nat hp h
  unfold isOf
  rw [h2, h1]
  exact StrLaws.found_one sg c
theorem ct_is_one_of (r d : Addr) (h1 h2 : Int) (k1 k2 : Tok) (x : Str) (tx : Tok) (p : Int) (tp : Tok) (sg : Str) (ts : Tok) (news : List (Addr × Obj)) (hr : (r, instObj 154 d) ∈ news) (hd : (d, rdD h1 h2 k1 k2 x tx p tp) ∈ news)
   (hp : 0 ≤ p) (hx : x.length ≤ 1000) :
    Ctr 137 2 news [.ref r, .str sg ts] (OkB news (isOf x p.toNat sg)) := by
  (k_with_none; (k_with "binaryOp FloorDiv int int" => (refine floordiv_int (by first | assumption | omega) ?_ (Or.inl (dv_of_sm (by assumption))))); refine mark_use ?_; k_fill; intro _; unfold Ctr; intro w_q mean_q mg_q mb_q dp_q un_q gd_q cn_q cs_q a_q ccd_q cl_q outer_q A_q base_q h_q L_q m_q s_q Q_q E_q B_q F_q X_q N T_q hk_q hdp_q hun_q hret; refine wpAny_call ?_; k_dflt (refine' code_def ?k1 ?k2 ?k3 ?k4 ?k5 ?kA ?kF ?kK ?k6 ?k7 ?k8 ?k9 ?kB ?_ ?c2 ?c3 ?c4 ?c5; (case kA => exact rfl); (case kF => exact rfl); (case kK => assumption); (case k1 => k_asm); (case k2 => k_asm); (case k3 => k_asm); (case k4 => k_asm); (case k5 => k_asm); (case k6 => k_is); (case k7 => k_is); (case k8 => ktr_room); (case k9 => first | exact BindsTo.of_eq rfl | exact binds_K (by k_in) rfl (by k_is) rfl rfl rfl); (case c5 => decide); (case kB => exact locs rfl); (case c2 => exact rfl); (case c3 => exact rfl); (case c4 => exact rfl); k_whole; intro g_r L_r h_r FG_r F_r N_r B_r X_r T_r; (try dsimp only); (try k_lift B_r); (try k_fold)))
  k_with "subscriptTail" => ((with_reducible show wpAny _ _ (subscriptTail _ _ (Value.str _ _) (Value.int _ _)) _ _ _); (refine KXi.item rfl (by omega) (by omega) (by omega) ?_); intro kxiE)
  k_steps
  all_goals (refine' okB_end hret ?e1 ?e2 ?e3 ?e4; (case e1 => k_asm); (case e2 => assumption); (case e3 => kcj_all); (case e4 => first | exact isOf_in hp (by assumption) | exact isOf_out hp (by assumption)))
end SB3
section SB4
def OkR (r d : Addr) (h1 h2 : Int) (k1 k2 : Tok) (x : Str) (tx : Tok) (rest : List (Addr × Obj)) (p : Int) (v : Str) (nw : List (Addr × Obj)) (y : Value) : Prop :=
  ∃ tp t, nw = (r, instObj 154 d) :: (d, rdD h1 h2 k1 k2 x tx p tp) :: rest ∧ y = .str v t
theorem OkR.out {r d : Addr} {h1 h2 : Int} {k1 k2 : Tok} {x : Str} {tx : Tok} {rest : List (Addr × Obj)} {p : Int} {v : Str} {nw : List (Addr × Obj)} {y : Value} (h : OkR r d h1 h2 k1 k2 x tx rest p v nw y) :
  ∃ tp t, (r, instObj 154 d) :: (d, rdD h1 h2 k1 k2 x tx p tp) :: rest = nw ∧ .str v t = y := let ⟨a, b, c, e⟩ := h; ⟨a, b, c.symm, e.symm⟩
theorem okR_end {h₀ h' : Heap} {L : Addr} {m : Str → Option Value} {news' : List (Addr × Obj)} {s : Shared} {Q : Value → Shared → Prop} {tk' : Nat}
    {r d : Addr} {h1 h2 : Int} {k1 k2 : Tok} {x : Str} {tx : Tok} {rest : List (Addr × Obj)} {p p' : Int} {v v' : Str} {tp t : Tok}
    (hret : ∀ r₀ h' tk' news', Fr h₀ L h' m → News h₀ L h' news' → OkR r d h1 h2 k1 k2 x tx rest p v news' r₀ → Q r₀ { s with heap := h', toks := tk' })
    (F : Fr h₀ L h' m) (N : News h₀ L h' news') (hr : (r, instObj 154 d) ∈ news') (hd : (d, rdD h1 h2 k1 k2 x tx p' tp) ∈ news') (hs : ∀ q ∈ rest, q ∈ news') (hp : p' = p) (ha : v' = v) : Q (.str v' t) { s with heap := h', toks := tk' } := by
  subst ha
  subst hp
  refine hret _ _ _ ((r, instObj 154 d) :: (d, rdD h1 h2 k1 k2 x tx p' tp) :: rest) F (fun q hq => ?_) ⟨_, _, rfl, rfl⟩
  rcases List.mem_cons.mp hq with rfl | hq
  · exact N _ hr
  · rcases List.mem_cons.mp hq with rfl | hq
    · exact N _ hd
    · exact N _ (hs _ hq)
theorem isOf_lt {x sg : Str} {p : Int} (hp : 0 ≤ p) (h : isOf x p.toNat sg = true) : p < (x.length : Int) := by
  have e : x.cps.size = x.length := rfl
  by_cases hl : p.toNat < x.cps.size
  · omega
  · unfold isOf at h
    rw [Array.getElem?_eq_none (by omega)] at h
    cases h
/-- what skip gives, and where it leaves the reader -/
def skV (x : Str) (p : Int) (sg : Str) : Str := if isOf x p.toNat sg = true then Txt.item x p else Str.ofString ""
def skP (x : Str) (p : Int) (sg : Str) : Int := if isOf x p.toNat sg = true then p + 1 else p
theorem ct_skip (r d : Addr) (h1 h2 : Int) (k1 k2 : Tok) (x : Str) (tx : Tok) (p : Int) (tp : Tok) (sg : Str) (ts : Tok) (rest : List (Addr × Obj))
   (hp : 0 ≤ p) (hx : x.length ≤ 1000) (hrd : @LT.lt Nat _ d r) (hdr : ∀ q ∈ rest, q.1 ≠ d) :
    Ctr 144 4 ((r, instObj 154 d) :: (d, rdD h1 h2 k1 k2 x tx p tp) :: rest) [.ref r, .str sg ts] (OkR r d h1 h2 k1 k2 x tx rest (skP x p sg) (skV x p sg)) := by
  (k_with_none; (k_with "binaryOp FloorDiv int int" => (refine floordiv_int (by first | assumption | omega) ?_ (Or.inl (dv_of_sm (by assumption))))); refine mark_use ?_; k_fill; intro _; unfold Ctr; intro w_q mean_q mg_q mb_q dp_q un_q gd_q cn_q cs_q a_q ccd_q cl_q outer_q A_q base_q h_q L_q m_q s_q Q_q E_q B_q F_q X_q N T_q hk_q hdp_q hun_q hret; refine wpAny_call ?_; k_dflt (refine' code_def ?k1 ?k2 ?k3 ?k4 ?k5 ?kA ?kF ?kK ?k6 ?k7 ?k8 ?k9 ?kB ?_ ?c2 ?c3 ?c4 ?c5; (case kA => exact rfl); (case kF => exact rfl); (case kK => assumption); (case k1 => k_asm); (case k2 => k_asm); (case k3 => k_asm); (case k4 => k_asm); (case k5 => k_asm); (case k6 => k_is); (case k7 => k_is); (case k8 => ktr_room); (case k9 => first | exact BindsTo.of_eq rfl | exact binds_K (by k_in) rfl (by k_is) rfl rfl rfl); (case c5 => decide); (case kB => exact locs rfl); (case c2 => exact rfl); (case c3 => exact rfl); (case c4 => exact rfl); k_whole; intro g_r L_r h_r FG_r F_r N_r B_r X_r T_r; (try dsimp only); (try k_lift B_r); (try k_fold); (try ((refine let_AX (P := fun AA9 => wpAny _ AA9 _ _ _ _) ?_); intro AA9))))
  k_with "subscriptTail" => ((with_reducible show wpAny _ _ (subscriptTail _ _ (Value.str _ _) (Value.int _ _)) _ _ _); (refine KXi.item rfl (by omega) (by omega) (by omega) ?_); intro kxiE)
  k_with "subscriptTail" => ((with_reducible show wpAny _ _ (subscriptTail _ _ (Value.str _ _) (Value.int _ _)) _ _ _); (have h9 := isOf_lt hp (by assumption)); (refine KXi.item rfl (by omega) (by omega) (by omega) ?_); intro kxiE)
  k_with "call ref" => (k_here; (with_reducible show wpAny _ _ (call (Value.ref 137) _) _ _ _); (k_dflt (refine' Ctr.use (ct_is_one_of _ _ _ _ _ _ _ _ _ _ _ _ _ ?hr ?hd hp hx) ?k1 ?k2 ?k3 ?k4 ?k5 ?kK ?kd ?ku ?_; (case k1 => k_asm); (case k2 => k_asm); (case k3 => k_asm); (case k4 => first | k_asm | exact cb_drop (by assumption) (by kcj_all)); (case k5 => k_asm); (case kK => first | exact rfl | assumption); (case kd => ktr_room); (case ku => ktr_units); (case hr => k_mem); (case hd => k_mem); k_whole)); intro r9 h9 tk9 n9 F9 N9 ho9; (obtain ⟨e9, q9⟩ := OkB.out ho9); clear ho9; subst e9; subst q9; (try dsimp only); (try k_sweep); (try k_fold))
  k_with "execs cons" => ((with_reducible refine wpAny_execs_cons ?_); (try dsimp only); (try ((rename Fr _ _ _ _ => FF9); (revert FF9); (refine let_mX (P := fun mm9 => Fr _ _ _ mm9 → _) ?_); intro mm9 FF9)); (try k_fold))
  k_steps
  all_goals (refine' okR_end hret ?e1 ?e2 ?e3 ?e4 ?e5 ?e6 ?e7; (case e1 => k_asm); (case e2 => assumption); (case e3 => k_mem); (case e4 => k_mem); (case e5 => kcj_all); (case e6 => (unfold skP; simp [*])); (case e7 => (unfold skV; simp [*])))
/-- how many figures stand at p -/
def isDg (c : Nat) : Bool := decide (c ∈ (Str.ofString "0123456789").cps.toList)
def dgE (x : Str) (p : Int) : Int := p + (((x.cps.toList.drop p.toNat).takeWhile isDg).length : Int)
theorem dgE_step {x : Str} {p : Int} (hp : 0 ≤ p) (h : isOf x p.toNat (Str.ofString "0123456789") = true) : dgE x (p + 1) = dgE x p := by
  have hl := isOf_lt hp h
  have e : x.cps.toList.length = x.length := by rw [Array.length_toList]; rfl
  unfold dgE
  have e1 : (p + 1).toNat = p.toNat + 1 := by omega
  have e2 : x.cps.toList.drop p.toNat = x.cps.toList[p.toNat]'(by omega) :: x.cps.toList.drop (p.toNat + 1) := List.drop_eq_getElem_cons (by omega)
  have e3 : isDg (x.cps.toList[p.toNat]'(by omega)) = true := by
    unfold isOf at h
    rw [Array.getElem?_eq_getElem (by rw [← Array.length_toList]; omega)] at h
    unfold isDg
    simpa using h
  rw [e1, e2, List.takeWhile_cons, if_pos e3, List.length_cons]
  omega
theorem dgE_end {x : Str} {p : Int} (h : isOf x p.toNat (Str.ofString "0123456789") = false) : dgE x p = p := by
  unfold dgE
  by_cases hl : p.toNat < x.cps.size
  · have e2 : x.cps.toList.drop p.toNat = x.cps.toList[p.toNat]'(by rw [Array.length_toList]; omega) :: x.cps.toList.drop (p.toNat + 1) := List.drop_eq_getElem_cons (by rw [Array.length_toList]; omega)
    have e3 : ¬ isDg (x.cps.toList[p.toNat]'(by rw [Array.length_toList]; omega)) = true := by
      unfold isOf at h
      rw [Array.getElem?_eq_getElem hl] at h
      unfold isDg
      simpa using h
    rw [e2, List.takeWhile_cons, if_neg e3]
    simp
  · rw [List.drop_eq_nil_of_le (by rw [Array.length_toList]; omega)]
    simp
theorem ct_digits (r d : Addr) (h1 h2 : Int) (k1 k2 : Tok) (x : Str) (tx : Tok) (p : Int) (tp : Tok) (rest : List (Addr × Obj))
   (hp : 0 ≤ p) (hx : x.length ≤ 1000) (hrd : @LT.lt Nat _ d r) (hdr : ∀ q ∈ rest, q.1 ≠ d) :
    Ctr 151 4 ((r, instObj 154 d) :: (d, rdD h1 h2 k1 k2 x tx p tp) :: rest) [.ref r] (OkR r d h1 h2 k1 k2 x tx rest (dgE x p) (Txt.slice x (some p) (some (dgE x p)))) := by
  (k_with_none; (k_with "binaryOp FloorDiv int int" => (refine floordiv_int (by first | assumption | omega) ?_ (Or.inl (dv_of_sm (by assumption))))); refine mark_use ?_; k_fill; intro _; unfold Ctr; intro w_q mean_q mg_q mb_q dp_q un_q gd_q cn_q cs_q a_q ccd_q cl_q outer_q A_q base_q h_q L_q m_q s_q Q_q E_q B_q F_q X_q N T_q hk_q hdp_q hun_q hret; refine wpAny_call ?_; k_dflt (refine' code_def ?k1 ?k2 ?k3 ?k4 ?k5 ?kA ?kF ?kK ?k6 ?k7 ?k8 ?k9 ?kB ?_ ?c2 ?c3 ?c4 ?c5; (case kA => exact rfl); (case kF => exact rfl); (case kK => assumption); (case k1 => k_asm); (case k2 => k_asm); (case k3 => k_asm); (case k4 => k_asm); (case k5 => k_asm); (case k6 => k_is); (case k7 => k_is); (case k8 => ktr_room); (case k9 => first | exact BindsTo.of_eq rfl | exact binds_K (by k_in) rfl (by k_is) rfl rfl rfl); (case c5 => decide); (case kB => exact locs rfl); (case c2 => exact rfl); (case c3 => exact rfl); (case c4 => exact rfl); k_whole; intro g_r L_r h_r FG_r F_r N_r B_r X_r T_r; (try dsimp only); (try k_lift B_r); (try k_fold); (try ((refine let_AX (P := fun AA9 => wpAny _ AA9 _ _ _ _) ?_); intro AA9))))
  k_with "call ref" => (k_here; (with_reducible show wpAny _ _ (call (Value.ref 137) _) _ _ _); (k_dflt (refine' Ctr.use (ct_is_one_of _ _ _ _ _ _ _ _ _ _ _ _ _ ?hr ?hd ?hq hx) ?k1 ?k2 ?k3 ?k4 ?k5 ?kK ?kd ?ku ?_; (case k1 => k_asm); (case k2 => k_asm); (case k3 => k_asm); (case k4 => first | k_asm | exact cb_drop (by assumption) (by kcj_all)); (case k5 => k_asm); (case kK => first | exact rfl | assumption); (case kd => ktr_room); (case ku => ktr_units); (case hr => k_mem); (case hd => k_mem); (case hq => omega); k_whole)); intro r9 h9 tk9 n9 F9 N9 ho9; (obtain ⟨e9, q9⟩ := OkB.out ho9); clear ho9; subst e9; subst q9; (try dsimp only); (try k_sweep); (try k_fold))
  k_with "exec While" => ((rename Fr _ _ _ _ => lF'); (rename News _ _ _ _ => lN'); (with_unfolding_all refine' ksw_while (σ := Int × Tok) (fun c => (r, instObj 154 d) :: (d, rdD h1 h2 k1 k2 x tx c.1 c.2) :: rest) (fun _ => []) (fun _ => True) [] (fun c => p ≤ c.1 ∧ dgE x c.1 = dgE x p) (fun c => (x.length - c.1).toNat) (p, tp) lF' ?kn ?kf ?kk ?kp ?_); (case kn => exact lN'); (case kf => trivial); (case kk => exact fun _ h => nomatch h); (case kp => exact ⟨Int.le_refl _, rfl⟩); rintro ⟨c, tc⟩ kU kH kTk kFacts ⟨kI1, kI2⟩ kFr kNews; clear lF' lN'; (try dsimp only [kstB] at kFr); dsimp only at kI1 kI2 kNews; (try dsimp only); (try k_fold))
  k_with "execs cons" => ((with_reducible refine wpAny_execs_cons ?_); (try dsimp only); (try ((rename Fr _ _ _ _ => FF9); (revert FF9); (refine let_mX (P := fun mm9 => Fr _ _ _ mm9 → _) ?_); intro mm9 FF9)); (try k_fold))
  k_steps
  · have hlt := isOf_lt (p := c) (by omega) (by assumption)
    refine' ksw_end (_, _) ?a ?b ?c ?d ?e ?f ?g ?h
    case a => assumption
    case b => assumption
    case c => kcj_all
    case d => trivial
    case e => exact fun _ h => nomatch h
    case f => exact fun _ _ _ => rfl
    case g => exact ⟨by omega, (dgE_step (by omega) (by assumption)).trans kI2⟩
    case h => (dsimp only; omega)
  · have hc := (dgE_end (x := x) (p := c) (by first | assumption | exact Bool.eq_false_iff.mpr (by assumption))).symm.trans kI2
    refine' okR_end hret ?e1 ?e2 ?e3 ?e4 ?e5 ?e6 ?e7; (case e1 => k_asm); (case e2 => assumption); (case e3 => k_mem); (case e4 => k_mem); (case e5 => kcj_all); (case e6 => exact hc); (case e7 => rw [hc])
end SB4
section SB5
def figs (x : Str) : Prop := ∀ c ∈ x.cps.toList, 48 ≤ c ∧ c ≤ 57
def whZ (l : List Int) : Int := l.foldl (fun a c => a * 10 + (c - 48)) 0
theorem whZ_snoc (l : List Int) (c : Int) : whZ (l ++ [c]) = whZ l * 10 + (c - 48) := by
  unfold whZ
  rw [List.foldl_append]
  rfl
theorem figs_at {x : Str} (h : figs x) {pre post : List Int} {n : Nat} (e : KStt.codes x = pre ++ (n : Int) :: post) : 48 ≤ n ∧ n ≤ 57 := by
  have hm : (n : Int) ∈ KStt.codes x := by rw [e]; simp
  unfold KStt.codes at hm
  obtain ⟨c, hc, hcn⟩ := List.mem_map.mp hm
  have := h c hc
  omega
theorem occ_dg {c : Nat} (h : 48 ≤ c ∧ c ≤ 57) : Builtin.Str.occurrences (Str.ofString "0123456789") ⟨#[c]⟩ 0 (Str.ofString "0123456789").length 1 = [c - 48] := by
  obtain ⟨h1, h2⟩ := h
  have : c = 48 ∨ c = 49 ∨ c = 50 ∨ c = 51 ∨ c = 52 ∨ c = 53 ∨ c = 54 ∨ c = 55 ∨ c = 56 ∨ c = 57 := by omega
  rcases this with rfl | rfl | rfl | rfl | rfl | rfl | rfl | rfl | rfl | rfl <;> decide +kernel
theorem index_dg {prog : Program} {w : World} {A : Around} {E : Value → Shared → Prop} {s : Shared} {c : Nat} {t u : Tok} {Q : Value → Shared → Prop} (hc : 48 ≤ c ∧ c ≤ 57) (h : Q (.int ((c : Int) - 48) s.toks) { s with toks := s.toks + 1 }) :
    wpAny (model prog w) A (call (.builtin "str.index") [.str (Str.ofString "0123456789") t, .str ⟨#[c]⟩ u]) Q E s := by
  refine SC.index (occ_dg hc) ?_
  rw [show ((c - 48 : Nat) : Int) = (c : Int) - 48 from by omega]
  exact h
theorem ct_whole_of (x : Str) (tx : Tok) (hx : figs x) (news : List (Addr × Obj)) :
    Ctr 165 2 news [.str x tx] (OkI news (whZ (KStt.codes x))) := by
  (k_with_none; (k_with "binaryOp FloorDiv int int" => (refine floordiv_int (by first | assumption | omega) ?_ (Or.inl (dv_of_sm (by assumption))))); refine mark_use ?_; k_fill; intro _; unfold Ctr; intro w_q mean_q mg_q mb_q dp_q un_q gd_q cn_q cs_q a_q ccd_q cl_q outer_q A_q base_q h_q L_q m_q s_q Q_q E_q B_q F_q X_q N T_q hk_q hdp_q hun_q hret; refine wpAny_call ?_; k_dflt (refine' code_def ?k1 ?k2 ?k3 ?k4 ?k5 ?kA ?kF ?kK ?k6 ?k7 ?k8 ?k9 ?kB ?_ ?c2 ?c3 ?c4 ?c5; (case kA => exact rfl); (case kF => exact rfl); (case kK => assumption); (case k1 => k_asm); (case k2 => k_asm); (case k3 => k_asm); (case k4 => k_asm); (case k5 => k_asm); (case k6 => k_is); (case k7 => k_is); (case k8 => ktr_room); (case k9 => first | exact BindsTo.of_eq rfl | exact binds_K (by k_in) rfl (by k_is) rfl rfl rfl); (case c5 => decide); (case kB => exact locs rfl); (case c2 => exact rfl); (case c3 => exact rfl); (case c4 => exact rfl); k_whole; intro g_r L_r h_r FG_r F_r N_r B_r X_r T_r; (try dsimp only); (try k_lift B_r); (try k_fold)))
  k_with "call builtin:str.index" => refine index_dg (figs_at hx (by assumption)) ?_
  k_with "pyIter str" => k_state (fun pre n => n = whZ pre) "number"
  k_with "state" => first | rfl | (rw [whZ_snoc]; simp [*]; done)
  k_steps
  all_goals first | (exfalso; omega) | (refine' okI_end hret ?e1 ?e2 ?e3 ?e4; (case e1 => k_asm); (case e2 => first | with_reducible assumption | assumption); (case e3 => (intro p hp; repeat (first | exact hp | refine List.Mem.tail _ ?_))); (case e4 => first | rfl | assumption | ((repeat' split) <;> omega) | (simp; done))) | (refine' okT_end hret ?e1 ?e2 ?e3 ?e4 ?e5 ?e6 ?e7; (case e1 => k_asm); (case e2 => first | with_reducible assumption | assumption); (case e3 => k_mem); (case e4 => (intro p hp; repeat (first | exact hp | refine List.Mem.tail _ ?_))); (case e5 => exact ktn_ltOf (by first | exact (And.right (by with_reducible assumption)) | exact (And.right (And.right (by with_reducible assumption))) | exact (And.right (And.right (And.right (by with_reducible assumption)))) | exact (And.right (And.right (And.right (And.right (by with_reducible assumption))))) | exact (And.right (And.right (And.right (And.right (And.right (by with_reducible assumption)))))) | exact (And.right (And.right (And.right (And.right (And.right (And.right (by with_reducible assumption))))))) | exact (And.right (And.right (And.right (And.right (And.right (And.right (And.right (by with_reducible assumption)))))))) | exact (And.right (And.right (And.right (And.right (And.right (And.right (And.right (And.right (by with_reducible assumption))))))))) | exact (And.right (And.right (And.right (And.right (And.right (And.right (And.right (And.right (And.right (by with_reducible assumption)))))))))) | exact (And.right (And.right (And.right (And.right (And.right (And.right (And.right (And.right (And.right (And.right (by with_reducible assumption))))))))))) | exact (And.right (And.right (And.right (And.right (And.right (And.right (And.right (And.right (And.right (And.right (And.right (by with_reducible assumption)))))))))))) | exact (And.right (And.right (And.right (And.right (And.right (And.right (And.right (And.right (And.right (And.right (And.right (And.right (by with_reducible assumption))))))))))))) | exact (And.right (And.right (And.right (And.right (And.right (And.right (And.right (And.right (And.right (And.right (And.right (And.right (And.right (by with_reducible assumption)))))))))))))) | exact (And.right (And.right (And.right (And.right (And.right (And.right (And.right (And.right (And.right (And.right (And.right (And.right (And.right (And.right (by with_reducible assumption))))))))))))))) | ktn_lt)); (case e6 => rfl); (case e7 => rfl))
end SB5
section SB6
theorem eq_str_is {prog : Program} {w : World} {A : Around} {E : Value → Shared → Prop} {s : Shared} {x y : Str} {t u : Tok} {Q : Value → Shared → Prop} {b : Bool} (hb : (x == y) = b) (h : Q (.bool b) s) :
    wpAny (model prog w) A (compareOp .Eq (.str x t) (.str y u)) Q E s := by
  subst hb
  exact eq_str h
def OkRI (r d : Addr) (h1 h2 : Int) (k1 k2 : Tok) (x : Str) (tx : Tok) (rest : List (Addr × Obj)) (p : Int) (v : Int) (nw : List (Addr × Obj)) (y : Value) : Prop :=
  ∃ tp t, nw = (r, instObj 154 d) :: (d, rdD h1 h2 k1 k2 x tx p tp) :: rest ∧ y = .int v t
theorem OkRI.out {r d : Addr} {h1 h2 : Int} {k1 k2 : Tok} {x : Str} {tx : Tok} {rest : List (Addr × Obj)} {p : Int} {v : Int} {nw : List (Addr × Obj)} {y : Value} (h : OkRI r d h1 h2 k1 k2 x tx rest p v nw y) :
  ∃ tp t, (r, instObj 154 d) :: (d, rdD h1 h2 k1 k2 x tx p tp) :: rest = nw ∧ .int v t = y := let ⟨a, b, c, e⟩ := h; ⟨a, b, c.symm, e.symm⟩
theorem okRI_end {h₀ h' : Heap} {L : Addr} {m : Str → Option Value} {news' : List (Addr × Obj)} {s : Shared} {Q : Value → Shared → Prop} {tk' : Nat}
    {r d : Addr} {h1 h2 : Int} {k1 k2 : Tok} {x : Str} {tx : Tok} {rest : List (Addr × Obj)} {p p' : Int} {v v' : Int} {tp t : Tok}
    (hret : ∀ r₀ h' tk' news', Fr h₀ L h' m → News h₀ L h' news' → OkRI r d h1 h2 k1 k2 x tx rest p v news' r₀ → Q r₀ { s with heap := h', toks := tk' })
    (F : Fr h₀ L h' m) (N : News h₀ L h' news') (hr : (r, instObj 154 d) ∈ news') (hd : (d, rdD h1 h2 k1 k2 x tx p' tp) ∈ news') (hs : ∀ q ∈ rest, q ∈ news') (hp : p' = p) (ha : v' = v) : Q (.int v' t) { s with heap := h', toks := tk' } := by
  subst ha
  subst hp
  refine hret _ _ _ ((r, instObj 154 d) :: (d, rdD h1 h2 k1 k2 x tx p' tp) :: rest) F (fun q hq => ?_) ⟨_, _, rfl, rfl⟩
  rcases List.mem_cons.mp hq with rfl | hq
  · exact N _ hr
  · rcases List.mem_cons.mp hq with rfl | hq
    · exact N _ hd
    · exact N _ (hs _ hq)
theorem skP_nonneg {x sg : Str} {p : Int} (h : 0 ≤ p) : 0 ≤ skP x p sg := by
  unfold skP
  split <;> omega
theorem dgE_ge (x : Str) (p : Int) : p ≤ dgE x p := by
  unfold dgE
  omega
abbrev eE : Str := Str.ofString "eE"
abbrev pm : Str := Str.ofString "+-"
/-- the figures of an exponent that begins at p, and where they begin -/
def exB (x : Str) (p : Int) : Int := skP x (skP x p eE) pm
def exD (x : Str) (p : Int) : Str := Txt.slice x (some (exB x p)) (some (dgE x (exB x p)))
def exP (x : Str) (p : Int) : Int := if isOf x p.toNat eE = true then dgE x (exB x p) else p
def exV (x : Str) (p : Int) : Int := if isOf x p.toNat eE = true then (if (skV x (skP x p eE) pm == Str.ofString "-") = true then -(whZ (KStt.codes (exD x p))) else whZ (KStt.codes (exD x p))) else 0
structure ExOk (x : Str) (p : Int) : Prop where
  ne : (exD x p == Str.ofString "") = false
  len : (exD x p).length ≤ 9
  le : whZ (KStt.codes (exD x p)) ≤ 300
  figs : figs (exD x p)
theorem skV_ne {x sg : Str} {p : Int} (h : isOf x p.toNat sg = true) : (skV x p sg == Str.ofString "") = false := by
  unfold skV
  rw [if_pos h]
  have : (Txt.item x p).length = 1 := rfl
  cases q : (Txt.item x p == Str.ofString "") with
  | false => rfl
  | true =>
    have e := eq_of_beq q
    rw [e] at this
    cases this
theorem skV_no {x sg : Str} {p : Int} (h : isOf x p.toNat sg = false) : (skV x p sg == Str.ofString "") = true := by
  unfold skV
  rw [if_neg (by rw [h]; decide)]
  simp
theorem ct_ex_none (r d : Addr) (h1 h2 : Int) (k1 k2 : Tok) (x : Str) (tx : Tok) (p : Int) (tp : Tok) (rest : List (Addr × Obj))
   (hp : 0 ≤ p) (hx : x.length ≤ 1000) (hrd : @LT.lt Nat _ d r) (hdr : ∀ q ∈ rest, q.1 ≠ d) (hn : isOf x p.toNat eE = false) :
    Ctr 172 6 ((r, instObj 154 d) :: (d, rdD h1 h2 k1 k2 x tx p tp) :: rest) [.ref r] (OkRI r d h1 h2 k1 k2 x tx rest (exP x p) (exV x p)) := by
  (k_with_none; (k_with "binaryOp FloorDiv int int" => (refine floordiv_int (by first | assumption | omega) ?_ (Or.inl (dv_of_sm (by assumption))))); refine mark_use ?_; k_fill; intro _; unfold Ctr; intro w_q mean_q mg_q mb_q dp_q un_q gd_q cn_q cs_q a_q ccd_q cl_q outer_q A_q base_q h_q L_q m_q s_q Q_q E_q B_q F_q X_q N T_q hk_q hdp_q hun_q hret; refine wpAny_call ?_; k_dflt (refine' code_def ?k1 ?k2 ?k3 ?k4 ?k5 ?kA ?kF ?kK ?k6 ?k7 ?k8 ?k9 ?kB ?_ ?c2 ?c3 ?c4 ?c5; (case kA => exact rfl); (case kF => exact rfl); (case kK => assumption); (case k1 => k_asm); (case k2 => k_asm); (case k3 => k_asm); (case k4 => k_asm); (case k5 => k_asm); (case k6 => k_is); (case k7 => k_is); (case k8 => ktr_room); (case k9 => first | exact BindsTo.of_eq rfl | exact binds_K (by k_in) rfl (by k_is) rfl rfl rfl); (case c5 => decide); (case kB => exact locs rfl); (case c2 => exact rfl); (case c3 => exact rfl); (case c4 => exact rfl); k_whole; intro g_r L_r h_r FG_r F_r N_r B_r X_r T_r; (try dsimp only); (try k_lift B_r); (try k_fold); (try ((refine let_AX (P := fun AA9 => wpAny _ AA9 _ _ _ _) ?_); intro AA9))))
  have e1 := skV_no hn
  k_with "call ref" => (k_here; (with_reducible show wpAny _ _ (call (Value.ref 144) _) _ _ _); (k_dflt (refine' Ctr.use (ct_skip _ _ _ _ _ _ x _ _ _ _ _ rest ?hq hx hrd hdr) ?k1 ?k2 ?k3 ?k4 ?k5 ?kK ?kd ?ku ?_; (case k1 => k_asm); (case k2 => k_asm); (case k3 => k_asm); (case k4 => first | k_asm | exact cb_drop (by assumption) (by kcj_all)); (case k5 => k_asm); (case kK => first | exact rfl | assumption); (case kd => ktr_room); (case ku => ktr_units); (case hq => omega); k_whole)); intro r9 h9 tk9 n9 F9 N9 ho9; (obtain ⟨tp9, t9, e9, q9⟩ := OkR.out ho9); clear ho9; subst e9; subst q9; (try dsimp only); (try k_sweep); (try k_fold))
  k_with "compareOp Eq str str" => (refine eq_str_is (by assumption) ?_)
  k_with "execs cons" => ((with_reducible refine wpAny_execs_cons ?_); (try dsimp only); (try ((rename Fr _ _ _ _ => FF9); (revert FF9); (refine let_mX (P := fun mm9 => Fr _ _ _ mm9 → _) ?_); intro mm9 FF9)))
  (repeat' (first | (k_unfold; (try dsimp only)) | (k_end; wrow_close) | (walk1; (try k_fold)) | (dsimp only; walk1; (try k_fold)) | (leave1; (try dsimp only)) | fail "no step"))
  all_goals (refine' okRI_end hret ?e1 ?e2 ?e3 ?e4 ?e5 ?e6 ?e7; (case e1 => k_asm); (case e2 => assumption); (case e3 => k_mem); (case e4 => k_mem); (case e5 => kcj_all); (case e6 => (unfold exP skP; simp [hn])); (case e7 => (unfold exV; simp [hn])))
theorem ct_ex_some (r d : Addr) (h1 h2 : Int) (k1 k2 : Tok) (x : Str) (tx : Tok) (p : Int) (tp : Tok) (rest : List (Addr × Obj))
   (hp : 0 ≤ p) (hx : x.length ≤ 1000) (hrd : @LT.lt Nat _ d r) (hdr : ∀ q ∈ rest, q.1 ≠ d) (hn : isOf x p.toNat eE = true) (hok : ExOk x p) :
    Ctr 172 6 ((r, instObj 154 d) :: (d, rdD h1 h2 k1 k2 x tx p tp) :: rest) [.ref r] (OkRI r d h1 h2 k1 k2 x tx rest (exP x p) (exV x p)) := by
  (k_with_none; (k_with "binaryOp FloorDiv int int" => (refine floordiv_int (by first | assumption | omega) ?_ (Or.inl (dv_of_sm (by assumption))))); refine mark_use ?_; k_fill; intro _; unfold Ctr; intro w_q mean_q mg_q mb_q dp_q un_q gd_q cn_q cs_q a_q ccd_q cl_q outer_q A_q base_q h_q L_q m_q s_q Q_q E_q B_q F_q X_q N T_q hk_q hdp_q hun_q hret; refine wpAny_call ?_; k_dflt (refine' code_def ?k1 ?k2 ?k3 ?k4 ?k5 ?kA ?kF ?kK ?k6 ?k7 ?k8 ?k9 ?kB ?_ ?c2 ?c3 ?c4 ?c5; (case kA => exact rfl); (case kF => exact rfl); (case kK => assumption); (case k1 => k_asm); (case k2 => k_asm); (case k3 => k_asm); (case k4 => k_asm); (case k5 => k_asm); (case k6 => k_is); (case k7 => k_is); (case k8 => ktr_room); (case k9 => first | exact BindsTo.of_eq rfl | exact binds_K (by k_in) rfl (by k_is) rfl rfl rfl); (case c5 => decide); (case kB => exact locs rfl); (case c2 => exact rfl); (case c3 => exact rfl); (case c4 => exact rfl); k_whole; intro g_r L_r h_r FG_r F_r N_r B_r X_r T_r; (try dsimp only); (try k_lift B_r); (try k_fold); (try ((refine let_AX (P := fun AA9 => wpAny _ AA9 _ _ _ _) ?_); intro AA9))))
  have e1 := skV_ne hn
  have p1 := skP_nonneg (x := x) (sg := eE) hp
  have p2 := skP_nonneg (x := x) (sg := pm) p1
  have f1 := hok.figs
  have f2 := hok.len
  have f3 := hok.le
  have f4 := hok.ne
  simp only [exD, exB, eE, pm] at f1 f2 f3 f4
  k_with "call ref" => (k_here; (with_reducible show wpAny _ _ (call (Value.ref 165) _) _ _ _); (k_dflt (refine' Ctr.use (ct_whole_of _ _ f1 _) ?k1 ?k2 ?k3 ?k4 ?k5 ?kK ?kd ?ku ?_; (case k1 => k_asm); (case k2 => k_asm); (case k3 => k_asm); (case k4 => first | k_asm | exact cb_drop (by assumption) (by kcj_all)); (case k5 => k_asm); (case kK => first | exact rfl | assumption); (case kd => ktr_room); (case ku => ktr_units); k_whole)); intro r9 h9 tk9 n9 F9 N9 ho9; (obtain ⟨e9, t9, q9⟩ := OkI.out ho9); clear ho9; subst e9; subst q9; (try dsimp only); (try k_sweep); (try k_fold))
  k_with "call ref" => (k_here; (with_reducible show wpAny _ _ (call (Value.ref 144) _) _ _ _); (k_dflt (refine' Ctr.use (ct_skip _ _ _ _ _ _ x _ _ _ _ _ rest ?hq hx hrd hdr) ?k1 ?k2 ?k3 ?k4 ?k5 ?kK ?kd ?ku ?_; (case k1 => k_asm); (case k2 => k_asm); (case k3 => k_asm); (case k4 => first | k_asm | exact cb_drop (by assumption) (by kcj_all)); (case k5 => k_asm); (case kK => first | exact rfl | assumption); (case kd => ktr_room); (case ku => ktr_units); (case hq => assumption); k_whole)); intro r9 h9 tk9 n9 F9 N9 ho9; (obtain ⟨tp9, t9, e9, q9⟩ := OkR.out ho9); clear ho9; subst e9; subst q9; (try dsimp only); (try k_sweep); (try k_fold))
  k_with "call ref" => (k_here; (with_reducible show wpAny _ _ (call (Value.ref 151) _) _ _ _); (k_dflt (refine' Ctr.use (ct_digits _ _ _ _ _ _ x _ _ _ rest ?hq hx hrd hdr) ?k1 ?k2 ?k3 ?k4 ?k5 ?kK ?kd ?ku ?_; (case k1 => k_asm); (case k2 => k_asm); (case k3 => k_asm); (case k4 => first | k_asm | exact cb_drop (by assumption) (by kcj_all)); (case k5 => k_asm); (case kK => first | exact rfl | assumption); (case kd => ktr_room); (case ku => ktr_units); (case hq => assumption); k_whole)); intro r9 h9 tk9 n9 F9 N9 ho9; (obtain ⟨tp9, t9, e9, q9⟩ := OkR.out ho9); clear ho9; subst e9; subst q9; (try dsimp only); (try k_sweep); (try k_fold))
  k_with "compareOp Eq str str" => (refine eq_str_is (by assumption) ?_)
  k_with "execs cons" => ((with_reducible refine wpAny_execs_cons ?_); (try dsimp only); (try ((rename Fr _ _ _ _ => FF9); (revert FF9); (refine let_mX (P := fun mm9 => Fr _ _ _ mm9 → _) ?_); intro mm9 FF9)))
  (repeat' (first | (k_unfold; (try dsimp only)) | (k_end; wrow_close) | (walk1; (try k_fold)) | (dsimp only; walk1; (try k_fold)) | (leave1; (try dsimp only)) | fail "no step"))
  all_goals (refine' okRI_end hret ?e1 ?e2 ?e3 ?e4 ?e5 ?e6 ?e7; (case e1 => k_asm); (case e2 => assumption); (case e3 => k_mem); (case e4 => k_mem); (case e5 => kcj_all); (case e6 => (unfold exP exB; rw [if_pos hn])); (case e7 => (unfold exV exD exB; rw [if_pos hn]; first | rw [if_pos (by assumption)] | rw [if_neg (by simp only [*]; decide)] | rw [if_neg (by assumption)])))
theorem ct_read_exponent (r d : Addr) (h1 h2 : Int) (k1 k2 : Tok) (x : Str) (tx : Tok) (p : Int) (tp : Tok) (rest : List (Addr × Obj))
   (hp : 0 ≤ p) (hx : x.length ≤ 1000) (hrd : @LT.lt Nat _ d r) (hdr : ∀ q ∈ rest, q.1 ≠ d) (hok : isOf x p.toNat eE = true → ExOk x p) :
    Ctr 172 6 ((r, instObj 154 d) :: (d, rdD h1 h2 k1 k2 x tx p tp) :: rest) [.ref r] (OkRI r d h1 h2 k1 k2 x tx rest (exP x p) (exV x p)) := by
  cases h : isOf x p.toNat eE with
  | false => exact ct_ex_none r d h1 h2 k1 k2 x tx p tp rest hp hx hrd hdr h
  | true => exact ct_ex_some r d h1 h2 k1 k2 x tx p tp rest hp hx hrd hdr h (hok h)
end SB6
section SB7A
def OkN (x : Str) (tx : Tok) (news : List (Addr × Obj)) (n : List (Addr × Obj)) (y : Value) : Prop :=
  ∃ r d h1 h2 k1 k2 tp, n = (r, instObj 154 d) :: (d, rdD h1 h2 k1 k2 x tx 0 tp) :: news ∧ y = .ref r ∧ @LT.lt Nat _ d r ∧ ∀ p ∈ news, p.1 < d
theorem OkN.out {x : Str} {tx : Tok} {news n : List (Addr × Obj)} {y : Value} (h : OkN x tx news n y) : ∃ r d h1 h2 k1 k2 tp, (r, instObj 154 d) :: (d, rdD h1 h2 k1 k2 x tx 0 tp) :: news = n ∧ .ref r = y ∧ @LT.lt Nat _ d r ∧ ∀ p ∈ news, p.1 < d :=
  let ⟨r, d, a, b, c, e, f, x, y, z⟩ := h; ⟨r, d, a, b, c, e, f, x.symm, y.symm, z⟩
theorem ct_NumberText (x : Str) (tx : Tok) (news : List (Addr × Obj)) : Ctr 154 3 news [.str x tx] (OkN x tx news) := by
  k_with_none; (k_with "binaryOp FloorDiv int int" => (refine floordiv_int (by first | assumption | omega) ?_ (Or.inl (dv_of_sm (by assumption))))); refine mark_use ?_; k_fill; intro _; unfold Ctr; intro w mean mg mb dp un gd cn cs a ccd cl outer A₀ base h₀ L m s Q E B F X N T hk hdp hun hret
  k_dflt (refine' call_cls ?k1 ?k2 ?k3 ?k4 ?k5 ?k6 ?_; (case k1 => k_asm); (case k2 => k_asm); (case k3 => k_asm); (case k4 => k_is); (case k5 => k_is); (case k6 => k_is); k_whole; intro x' d' h' F' N' l1 l2; (try k_lt l1); (try k_lt2 l2); (refine' code_def ?k1 ?k2 ?k3 ?k4 ?k5 ?kA ?kF ?kK ?k6 ?k7 ?k8 ?k9 ?kB ?_ ?c2 ?c3 ?c4 ?c5; (case kA => exact rfl); (case kF => exact rfl); (case kK => first | exact rfl | assumption); (case k1 => k_asm); (case k2 => k_asm); (case k3 => k_asm); (case k4 => k_asm); (case k5 => k_asm); (case k6 => k_is); (case k7 => k_is); (case k8 => ktr_room); (case k9 => first | exact BindsTo.of_eq rfl | exact binds_K (by k_in) rfl (by k_is) rfl rfl rfl); (case c5 => decide); (case kB => exact locs rfl); (case c2 => exact rfl); (case c3 => exact rfl); (case c4 => exact rfl); k_whole; intro g' L' h' FG' F' N' B' X' T'; (try dsimp only); (try k_lift B'); (try k_fold)))
  k_steps
  all_goals exact hret _ _ _ _ (by k_asm) (by assumption) ⟨_, _, _, _, _, _, _, rfl, rfl, l2, l1⟩
end SB7A
section SB7
theorem neq_str_is {prog : Program} {w : World} {A : Around} {E : Value → Shared → Prop} {s : Shared} {x y : Str} {t u : Tok} {Q : Value → Shared → Prop} {b : Bool} (hb : (x == y) = b) (h : Q (.bool (!b)) s) :
    wpAny (model prog w) A (compareOp .NotEq (.str x t) (.str y u)) Q E s := by
  subst hb
  exact ne_str h
theorem pow10_is {prog : Program} {w : World} {A : Around} {E : Value → Shared → Prop} {s : Shared} {n v : Int} {t u : Tok} {Q : Value → Shared → Prop} (hn : 0 ≤ n) (hn2 : n ≤ 1000000) (hv : (10 : Int) ^ n.toNat = v) (h : Q (.int v s.toks) { s with toks := s.toks + 1 }) :
    wpAny (model prog w) A (binaryOp .Pow (.int 10 t) (.int n u)) Q E s := by
  subst hv
  exact pow_int_small hn hn2 (by decide) h
theorem mul_is {prog : Program} {w : World} {A : Around} {E : Value → Shared → Prop} {s : Shared} {a b v : Int} {t u : Tok} {Q : Value → Shared → Prop} (hv : a * b = v) (hm : IntMulOk a b) (h : Q (.int v s.toks) { s with toks := s.toks + 1 }) :
    wpAny (model prog w) A (binaryOp .Mult (.int a t) (.int b u)) Q E s := by
  subst hv
  exact mul_int h hm
theorem max_is (y : Int) : (max 0 y).toNat = (if y > 0 then y else 0).toNat := by
  split <;> omega
theorem ct_rd_nodot (x : Str) (tx : Tok) (p1 p2 p4 ev PA PB T M1 M2 : Int) (sg wh pt : Str) (neg : Bool) (news : List (Addr × Obj)) (hx : x.length ≤ 1000) (hp1 : 0 ≤ p1) (hp2 : 0 ≤ p2) (hp4 : 0 ≤ p4)
   (hs1 : skP x 0 pm = p1) (hs2 : skV x 0 pm = sg) (hw1 : dgE x p1 = p2) (hw2 : Txt.slice x (some p1) (some p2) = wh) (hd0 : isOf x p2.toNat (Str.ofString ".") = false) (hd1 : p2 = p4) (hd2 : pt = Str.ofString "")
   (hne : (wh ++ pt == Str.ofString "") = false) (hfig : figs (wh ++ pt)) (hlen : wh.length + pt.length ≤ 60)
   (hex : isOf x p4.toNat eE = true → ExOk x p4) (hev : exV x p4 = ev) (hend : exP x p4 = (x.length : Int))
   (he1 : -1000 ≤ ev) (he2 : ev ≤ 1000) (hPA : (10 : Int) ^ (max 0 (ev - (pt.length : Int))).toNat = PA) (hPB : (10 : Int) ^ (max 0 (-(ev - (pt.length : Int)))).toNat = PB) (hT : whZ (KStt.codes (wh ++ pt)) * PA = T)
   (hM1 : 1000000000000000000000000000000000000000000000000000000000000 * PB = M1) (hM2 : T * 1000000000000000000000000000000000000000000000000000000000000 = M2) (hTB : T < M1) (hTB2 : 0 < M2 → PB ≤ M2)
   (hm1 : IntMulOk (whZ (KStt.codes (wh ++ pt))) PA) (hm2 : IntMulOk 1000000000000000000000000000000000000000000000000000000000000 PB) (hm3 : IntMulOk T 1000000000000000000000000000000000000000000000000000000000000)
   (hB0 : 0 < PB) (hB1 : Sm 8000 PB) (hneg : (sg == Str.ofString "-") = neg) :
    Ctr 179 8 news [.str x tx] (OkT news (loT (if neg = true then -T else T) PB) (loB (if neg = true then -T else T) PB)) := by

  subst hd1
  subst hd2
  (k_with_none; (k_with "binaryOp FloorDiv int int" => (refine floordiv_int (by first | assumption | omega) ?_ (Or.inl (dv_of_sm (by assumption))))); refine mark_use ?_; k_fill; intro _; unfold Ctr; intro w_q mean_q mg_q mb_q dp_q un_q gd_q cn_q cs_q a_q ccd_q cl_q outer_q A_q base_q h_q L_q m_q s_q Q_q E_q B_q F_q X_q N T_q hk_q hdp_q hun_q hret; refine wpAny_call ?_; k_dflt (refine' code_def ?k1 ?k2 ?k3 ?k4 ?k5 ?kA ?kF ?kK ?k6 ?k7 ?k8 ?k9 ?kB ?_ ?c2 ?c3 ?c4 ?c5; (case kA => exact rfl); (case kF => exact rfl); (case kK => assumption); (case k1 => k_asm); (case k2 => k_asm); (case k3 => k_asm); (case k4 => k_asm); (case k5 => k_asm); (case k6 => k_is); (case k7 => k_is); (case k8 => ktr_room); (case k9 => first | exact BindsTo.of_eq rfl | exact binds_K (by k_in) rfl (by k_is) rfl rfl rfl); (case c5 => decide); (case kB => exact locs rfl); (case c2 => exact rfl); (case c3 => exact rfl); (case c4 => exact rfl); k_whole; intro g_r L_r h_r FG_r F_r N_r B_r X_r T_r; (try dsimp only); (try k_lift B_r); (try k_fold); (try ((refine let_AX (P := fun AA9 => wpAny _ AA9 _ _ _ _) ?_); intro AA9))))
  rw [max_is] at hPA hPB
  have e1 : (sg == Str.ofString "-") = neg := hneg
  have n0 : (0 : Int) ≤ 0 := Int.le_refl 0
  have hl : (wh ++ (Str.ofString "")).length ≤ 60 := by
    have := PySem.strLen_append wh (Str.ofString "")
    omega
  have c_sign : ∀ (r d : Addr) (h1 h2 : Int) (k1 k2 tp ts : Tok), @LT.lt Nat _ d r → (∀ q ∈ news, q.1 ≠ d) → Ctr 144 4 ((r, instObj 154 d) :: (d, rdD h1 h2 k1 k2 x tx 0 tp) :: news) [.ref r, .str (Str.ofString "+-") ts] (OkR r d h1 h2 k1 k2 x tx news p1 sg) := by
    intro r d h1 h2 k1 k2 tp ts q1 q2
    have c := ct_skip r d h1 h2 k1 k2 x tx 0 tp pm ts news n0 hx q1 q2
    rw [hs1, hs2] at c
    exact c
  have c_dig : ∀ (r d : Addr) (h1 h2 : Int) (k1 k2 tp : Tok), @LT.lt Nat _ d r → (∀ q ∈ news, q.1 ≠ d) → Ctr 151 4 ((r, instObj 154 d) :: (d, rdD h1 h2 k1 k2 x tx p1 tp) :: news) [.ref r] (OkR r d h1 h2 k1 k2 x tx news p2 wh) := by
    intro r d h1 h2 k1 k2 tp q1 q2
    have c := ct_digits r d h1 h2 k1 k2 x tx p1 tp news hp1 hx q1 q2
    rw [hw1, hw2] at c
    exact c
  have c_exp : ∀ (r d : Addr) (h1 h2 : Int) (k1 k2 tp : Tok), @LT.lt Nat _ d r → (∀ q ∈ news, q.1 ≠ d) → Ctr 172 6 ((r, instObj 154 d) :: (d, rdD h1 h2 k1 k2 x tx p2 tp) :: news) [.ref r] (OkRI r d h1 h2 k1 k2 x tx news (x.length : Int) ev) := by
    intro r d h1 h2 k1 k2 tp q1 q2
    have c := ct_read_exponent r d h1 h2 k1 k2 x tx p2 tp news hp2 hx q1 q2 hex
    rw [hev, hend] at c
    exact c
  rw [show (Str.ofString "").length = 0 from rfl] at hPA hPB
  have e2 : (skV x p2 (Str.ofString ".") == Str.ofString "") = true := skV_no hd0
  have c_dot : ∀ (r d : Addr) (h1 h2 : Int) (k1 k2 tp ts : Tok), @LT.lt Nat _ d r → (∀ q ∈ news, q.1 ≠ d) → Ctr 144 4 ((r, instObj 154 d) :: (d, rdD h1 h2 k1 k2 x tx p2 tp) :: news) [.ref r, .str (Str.ofString ".") ts] (OkR r d h1 h2 k1 k2 x tx news p2 (skV x p2 (Str.ofString "."))) := by
    intro r d h1 h2 k1 k2 tp ts q1 q2
    have c := ct_skip r d h1 h2 k1 k2 x tx p2 tp (Str.ofString ".") ts news hp2 hx q1 q2
    rw [show skP x p2 (Str.ofString ".") = p2 from by unfold skP; rw [hd0]; rfl] at c
    exact c

  k_with "call ref" => (k_here; (with_reducible show wpAny _ _ (call (Value.ref 81) _) _ _ _); (k_dflt (refine' Ctr.use (ct_fraction' _ _ hB0 hB1 _ _ _) ?k1 ?k2 ?k3 ?k4 ?k5 ?kK ?kd ?ku ?_; (case k1 => k_asm); (case k2 => k_asm); (case k3 => k_asm); (case k4 => first | k_asm | exact cb_drop (by assumption) (by kcj_all)); (case k5 => k_asm); (case kK => first | exact rfl | assumption); (case kd => ktr_room); (case ku => ktr_units); k_whole)); intro r9 h9 tk9 n9 F9 N9 ho9; (obtain ⟨D9, t9, u9, c9, e9, q9, l9⟩ := OkT.out ho9); clear ho9; subst q9; subst e9; (try k_lt l9); (try dsimp only); (try k_sweep); (try k_fold))
  k_with "call ref" => (k_here; (with_reducible show wpAny _ _ (call (Value.ref 154) _) _ _ _); (k_dflt (refine' Ctr.use (ct_NumberText _ _ _) ?k1 ?k2 ?k3 ?k4 ?k5 ?kK ?kd ?ku ?_; (case k1 => k_asm); (case k2 => k_asm); (case k3 => k_asm); (case k4 => first | k_asm | exact cb_drop (by assumption) (by kcj_all)); (case k5 => k_asm); (case kK => first | exact rfl | assumption); (case kd => ktr_room); (case ku => ktr_units); k_whole)); intro r9 h9 tk9 n9 F9 N9 ho9; (obtain ⟨r9, d9, a9, b9, k9, j9, p9, e9, q9, lt9, al9⟩ := OkN.out ho9); clear ho9; subst e9; subst q9; (have ne9 := ne_of_allLt al9); (try dsimp only); (try k_sweep); (try k_fold))
  k_with "call ref" => (k_here; (with_reducible show wpAny _ _ (call (Value.ref 144) _) _ _ _); (k_dflt (refine' Ctr.use (c_sign _ _ _ _ _ _ _ _ ?q1 ?q2) ?k1 ?k2 ?k3 ?k4 ?k5 ?kK ?kd ?ku ?_; (case k1 => k_asm); (case k2 => k_asm); (case k3 => k_asm); (case k4 => first | k_asm | exact cb_drop (by assumption) (by kcj_all)); (case k5 => k_asm); (case kK => first | exact rfl | assumption); (case kd => ktr_room); (case ku => ktr_units); (case q1 => assumption); (case q2 => assumption); k_whole)); intro r9 h9 tk9 n9 F9 N9 ho9; (obtain ⟨tp9, t9, e9, q9⟩ := OkR.out ho9); clear ho9; subst e9; subst q9; (try dsimp only); (try k_sweep); (try k_fold))
  k_with "call ref" => (k_here; (with_reducible show wpAny _ _ (call (Value.ref 144) _) _ _ _); (k_dflt (refine' Ctr.use (c_dot _ _ _ _ _ _ _ _ ?q1 ?q2) ?k1 ?k2 ?k3 ?k4 ?k5 ?kK ?kd ?ku ?_; (case k1 => k_asm); (case k2 => k_asm); (case k3 => k_asm); (case k4 => first | k_asm | exact cb_drop (by assumption) (by kcj_all)); (case k5 => k_asm); (case kK => first | exact rfl | assumption); (case kd => ktr_room); (case ku => ktr_units); (case q1 => assumption); (case q2 => assumption); k_whole)); intro r9 h9 tk9 n9 F9 N9 ho9; (obtain ⟨tp9, t9, e9, q9⟩ := OkR.out ho9); clear ho9; subst e9; subst q9; (try dsimp only); (try k_sweep); (try k_fold))
  k_with "call ref" => (k_here; (with_reducible show wpAny _ _ (call (Value.ref 151) _) _ _ _); (k_dflt (refine' Ctr.use (c_dig _ _ _ _ _ _ _ ?q1 ?q2) ?k1 ?k2 ?k3 ?k4 ?k5 ?kK ?kd ?ku ?_; (case k1 => k_asm); (case k2 => k_asm); (case k3 => k_asm); (case k4 => first | k_asm | exact cb_drop (by assumption) (by kcj_all)); (case k5 => k_asm); (case kK => first | exact rfl | assumption); (case kd => ktr_room); (case ku => ktr_units); (case q1 => assumption); (case q2 => assumption); k_whole)); intro r9 h9 tk9 n9 F9 N9 ho9; (obtain ⟨tp9, t9, e9, q9⟩ := OkR.out ho9); clear ho9; subst e9; subst q9; (try dsimp only); (try k_sweep); (try k_fold))
  k_with "call ref" => (k_here; (with_reducible show wpAny _ _ (call (Value.ref 172) _) _ _ _); (k_dflt (refine' Ctr.use (c_exp _ _ _ _ _ _ _ ?q1 ?q2) ?k1 ?k2 ?k3 ?k4 ?k5 ?kK ?kd ?ku ?_; (case k1 => k_asm); (case k2 => k_asm); (case k3 => k_asm); (case k4 => first | k_asm | exact cb_drop (by assumption) (by kcj_all)); (case k5 => k_asm); (case kK => first | exact rfl | assumption); (case kd => ktr_room); (case ku => ktr_units); (case q1 => assumption); (case q2 => assumption); k_whole)); intro r9 h9 tk9 n9 F9 N9 ho9; (obtain ⟨tp9, t9, e9, q9⟩ := OkRI.out ho9); clear ho9; subst e9; subst q9; (try dsimp only); (try k_sweep); (try k_fold))
  k_with "call ref" => (k_here; (with_reducible show wpAny _ _ (call (Value.ref 165) _) _ _ _); (k_dflt (refine' Ctr.use (ct_whole_of _ _ hfig _) ?k1 ?k2 ?k3 ?k4 ?k5 ?kK ?kd ?ku ?_; (case k1 => k_asm); (case k2 => k_asm); (case k3 => k_asm); (case k4 => first | k_asm | exact cb_drop (by assumption) (by kcj_all)); (case k5 => k_asm); (case kK => first | exact rfl | assumption); (case kd => ktr_room); (case ku => ktr_units); k_whole)); intro r9 h9 tk9 n9 F9 N9 ho9; (obtain ⟨e9, t9, q9⟩ := OkI.out ho9); clear ho9; subst e9; subst q9; (try dsimp only); (try k_sweep); (try k_fold))
  k_with "compareOp Eq str str" => (refine eq_str_is (by assumption) ?_)
  k_with "binaryOp Pow int int" => (refine pow10_is (by (split <;> omega)) (by (split <;> omega)) (by first | exact hPA | exact hPB) ?_)
  k_with "binaryOp Mult int int" => (refine mul_is (by assumption) (by assumption) ?_)
  k_with "compareOp NotEq str str" => (refine neq_str_is (by assumption) ?_)

  k_with "execs cons" => ((with_reducible refine wpAny_execs_cons ?_); (try dsimp only); (try ((rename Fr _ _ _ _ => FF9); (revert FF9); (refine let_mX (P := fun mm9 => Fr _ _ _ mm9 → _) ?_); intro mm9 FF9)))
  (repeat' (first | (k_unfold; (try dsimp only)) | (k_end; wrow_close) | (walk1; (try k_fold)) | (dsimp only; walk1; (try k_fold)) | (leave1; (try dsimp only)) | fail "no step"))
  all_goals first
    | (exfalso; omega)
    | (refine' okT_end hret ?e1 ?e2 ?e3 ?e4 ?e5 ?e6 ?e7; (case e1 => k_asm); (case e2 => first | with_reducible assumption | assumption); (case e3 => k_mem); (case e4 => (intro p hp; repeat (first | exact hp | refine List.Mem.tail _ ?_))); (case e5 => exact ktn_ltOf (by first | exact (And.right (by with_reducible assumption)) | exact (And.right (And.right (by with_reducible assumption))) | exact (And.right (And.right (And.right (by with_reducible assumption)))) | exact (And.right (And.right (And.right (And.right (by with_reducible assumption))))) | exact (And.right (And.right (And.right (And.right (And.right (by with_reducible assumption)))))) | exact (And.right (And.right (And.right (And.right (And.right (And.right (by with_reducible assumption))))))) | exact (And.right (And.right (And.right (And.right (And.right (And.right (And.right (by with_reducible assumption)))))))) | exact (And.right (And.right (And.right (And.right (And.right (And.right (And.right (And.right (by with_reducible assumption))))))))) | exact (And.right (And.right (And.right (And.right (And.right (And.right (And.right (And.right (And.right (by with_reducible assumption)))))))))) | exact (And.right (And.right (And.right (And.right (And.right (And.right (And.right (And.right (And.right (And.right (by with_reducible assumption))))))))))) | exact (And.right (And.right (And.right (And.right (And.right (And.right (And.right (And.right (And.right (And.right (And.right (by with_reducible assumption)))))))))))) | exact (And.right (And.right (And.right (And.right (And.right (And.right (And.right (And.right (And.right (And.right (And.right (And.right (by with_reducible assumption))))))))))))) | exact (And.right (And.right (And.right (And.right (And.right (And.right (And.right (And.right (And.right (And.right (And.right (And.right (And.right (by with_reducible assumption)))))))))))))) | exact (And.right (And.right (And.right (And.right (And.right (And.right (And.right (And.right (And.right (And.right (And.right (And.right (And.right (And.right (by with_reducible assumption))))))))))))))) | ktn_lt)); (case e6 => first | rw [if_pos (by with_reducible assumption)] | rw [if_neg (by simp only [*]; decide)] | rw [if_neg (by assumption)]); (case e7 => first | rw [if_pos (by with_reducible assumption)] | rw [if_neg (by simp only [*]; decide)] | rw [if_neg (by assumption)]))
    | trace_state
theorem ct_rd_dot (x : Str) (tx : Tok) (p1 p2 p4 ev PA PB T M1 M2 : Int) (sg wh pt : Str) (neg : Bool) (news : List (Addr × Obj)) (hx : x.length ≤ 1000) (hp1 : 0 ≤ p1) (hp2 : 0 ≤ p2) (hp4 : 0 ≤ p4)
   (hs1 : skP x 0 pm = p1) (hs2 : skV x 0 pm = sg) (hw1 : dgE x p1 = p2) (hw2 : Txt.slice x (some p1) (some p2) = wh) (hd0 : isOf x p2.toNat (Str.ofString ".") = true) (hd1 : dgE x (p2 + 1) = p4) (hd2 : Txt.slice x (some (p2 + 1)) (some p4) = pt)
   (hne : (wh ++ pt == Str.ofString "") = false) (hfig : figs (wh ++ pt)) (hlen : wh.length + pt.length ≤ 60)
   (hex : isOf x p4.toNat eE = true → ExOk x p4) (hev : exV x p4 = ev) (hend : exP x p4 = (x.length : Int))
   (he1 : -1000 ≤ ev) (he2 : ev ≤ 1000) (hPA : (10 : Int) ^ (max 0 (ev - (pt.length : Int))).toNat = PA) (hPB : (10 : Int) ^ (max 0 (-(ev - (pt.length : Int)))).toNat = PB) (hT : whZ (KStt.codes (wh ++ pt)) * PA = T)
   (hM1 : 1000000000000000000000000000000000000000000000000000000000000 * PB = M1) (hM2 : T * 1000000000000000000000000000000000000000000000000000000000000 = M2) (hTB : T < M1) (hTB2 : 0 < M2 → PB ≤ M2)
   (hm1 : IntMulOk (whZ (KStt.codes (wh ++ pt))) PA) (hm2 : IntMulOk 1000000000000000000000000000000000000000000000000000000000000 PB) (hm3 : IntMulOk T 1000000000000000000000000000000000000000000000000000000000000)
   (hB0 : 0 < PB) (hB1 : Sm 8000 PB) (hneg : (sg == Str.ofString "-") = neg) :
    Ctr 179 8 news [.str x tx] (OkT news (loT (if neg = true then -T else T) PB) (loB (if neg = true then -T else T) PB)) := by

  (k_with_none; (k_with "binaryOp FloorDiv int int" => (refine floordiv_int (by first | assumption | omega) ?_ (Or.inl (dv_of_sm (by assumption))))); refine mark_use ?_; k_fill; intro _; unfold Ctr; intro w_q mean_q mg_q mb_q dp_q un_q gd_q cn_q cs_q a_q ccd_q cl_q outer_q A_q base_q h_q L_q m_q s_q Q_q E_q B_q F_q X_q N T_q hk_q hdp_q hun_q hret; refine wpAny_call ?_; k_dflt (refine' code_def ?k1 ?k2 ?k3 ?k4 ?k5 ?kA ?kF ?kK ?k6 ?k7 ?k8 ?k9 ?kB ?_ ?c2 ?c3 ?c4 ?c5; (case kA => exact rfl); (case kF => exact rfl); (case kK => assumption); (case k1 => k_asm); (case k2 => k_asm); (case k3 => k_asm); (case k4 => k_asm); (case k5 => k_asm); (case k6 => k_is); (case k7 => k_is); (case k8 => ktr_room); (case k9 => first | exact BindsTo.of_eq rfl | exact binds_K (by k_in) rfl (by k_is) rfl rfl rfl); (case c5 => decide); (case kB => exact locs rfl); (case c2 => exact rfl); (case c3 => exact rfl); (case c4 => exact rfl); k_whole; intro g_r L_r h_r FG_r F_r N_r B_r X_r T_r; (try dsimp only); (try k_lift B_r); (try k_fold); (try ((refine let_AX (P := fun AA9 => wpAny _ AA9 _ _ _ _) ?_); intro AA9))))
  rw [max_is] at hPA hPB
  have e1 : (sg == Str.ofString "-") = neg := hneg
  have n0 : (0 : Int) ≤ 0 := Int.le_refl 0
  have hl : (wh ++ pt).length ≤ 60 := by
    have := PySem.strLen_append wh pt
    omega
  have c_sign : ∀ (r d : Addr) (h1 h2 : Int) (k1 k2 tp ts : Tok), @LT.lt Nat _ d r → (∀ q ∈ news, q.1 ≠ d) → Ctr 144 4 ((r, instObj 154 d) :: (d, rdD h1 h2 k1 k2 x tx 0 tp) :: news) [.ref r, .str (Str.ofString "+-") ts] (OkR r d h1 h2 k1 k2 x tx news p1 sg) := by
    intro r d h1 h2 k1 k2 tp ts q1 q2
    have c := ct_skip r d h1 h2 k1 k2 x tx 0 tp pm ts news n0 hx q1 q2
    rw [hs1, hs2] at c
    exact c
  have c_dig : ∀ (r d : Addr) (h1 h2 : Int) (k1 k2 tp : Tok), @LT.lt Nat _ d r → (∀ q ∈ news, q.1 ≠ d) → Ctr 151 4 ((r, instObj 154 d) :: (d, rdD h1 h2 k1 k2 x tx p1 tp) :: news) [.ref r] (OkR r d h1 h2 k1 k2 x tx news p2 wh) := by
    intro r d h1 h2 k1 k2 tp q1 q2
    have c := ct_digits r d h1 h2 k1 k2 x tx p1 tp news hp1 hx q1 q2
    rw [hw1, hw2] at c
    exact c
  have c_exp : ∀ (r d : Addr) (h1 h2 : Int) (k1 k2 tp : Tok), @LT.lt Nat _ d r → (∀ q ∈ news, q.1 ≠ d) → Ctr 172 6 ((r, instObj 154 d) :: (d, rdD h1 h2 k1 k2 x tx p4 tp) :: news) [.ref r] (OkRI r d h1 h2 k1 k2 x tx news (x.length : Int) ev) := by
    intro r d h1 h2 k1 k2 tp q1 q2
    have c := ct_read_exponent r d h1 h2 k1 k2 x tx p4 tp news hp4 hx q1 q2 hex
    rw [hev, hend] at c
    exact c
  have e2 : (skV x p2 (Str.ofString ".") == Str.ofString "") = false := skV_ne hd0
  have hp3 : 0 ≤ p2 + 1 := by omega
  have c_dot : ∀ (r d : Addr) (h1 h2 : Int) (k1 k2 tp ts : Tok), @LT.lt Nat _ d r → (∀ q ∈ news, q.1 ≠ d) → Ctr 144 4 ((r, instObj 154 d) :: (d, rdD h1 h2 k1 k2 x tx p2 tp) :: news) [.ref r, .str (Str.ofString ".") ts] (OkR r d h1 h2 k1 k2 x tx news (p2 + 1) (skV x p2 (Str.ofString "."))) := by
    intro r d h1 h2 k1 k2 tp ts q1 q2
    have c := ct_skip r d h1 h2 k1 k2 x tx p2 tp (Str.ofString ".") ts news hp2 hx q1 q2
    rw [show skP x p2 (Str.ofString ".") = p2 + 1 from by unfold skP; rw [hd0]; rfl] at c
    exact c
  have c_dg2 : ∀ (r d : Addr) (h1 h2 : Int) (k1 k2 tp : Tok), @LT.lt Nat _ d r → (∀ q ∈ news, q.1 ≠ d) → Ctr 151 4 ((r, instObj 154 d) :: (d, rdD h1 h2 k1 k2 x tx (p2 + 1) tp) :: news) [.ref r] (OkR r d h1 h2 k1 k2 x tx news p4 pt) := by
    intro r d h1 h2 k1 k2 tp q1 q2
    have c := ct_digits r d h1 h2 k1 k2 x tx (p2 + 1) tp news hp3 hx q1 q2
    rw [hd1, hd2] at c
    exact c

  k_with "call ref" => (k_here; (with_reducible show wpAny _ _ (call (Value.ref 81) _) _ _ _); (k_dflt (refine' Ctr.use (ct_fraction' _ _ hB0 hB1 _ _ _) ?k1 ?k2 ?k3 ?k4 ?k5 ?kK ?kd ?ku ?_; (case k1 => k_asm); (case k2 => k_asm); (case k3 => k_asm); (case k4 => first | k_asm | exact cb_drop (by assumption) (by kcj_all)); (case k5 => k_asm); (case kK => first | exact rfl | assumption); (case kd => ktr_room); (case ku => ktr_units); k_whole)); intro r9 h9 tk9 n9 F9 N9 ho9; (obtain ⟨D9, t9, u9, c9, e9, q9, l9⟩ := OkT.out ho9); clear ho9; subst q9; subst e9; (try k_lt l9); (try dsimp only); (try k_sweep); (try k_fold))
  k_with "call ref" => (k_here; (with_reducible show wpAny _ _ (call (Value.ref 154) _) _ _ _); (k_dflt (refine' Ctr.use (ct_NumberText _ _ _) ?k1 ?k2 ?k3 ?k4 ?k5 ?kK ?kd ?ku ?_; (case k1 => k_asm); (case k2 => k_asm); (case k3 => k_asm); (case k4 => first | k_asm | exact cb_drop (by assumption) (by kcj_all)); (case k5 => k_asm); (case kK => first | exact rfl | assumption); (case kd => ktr_room); (case ku => ktr_units); k_whole)); intro r9 h9 tk9 n9 F9 N9 ho9; (obtain ⟨r9, d9, a9, b9, k9, j9, p9, e9, q9, lt9, al9⟩ := OkN.out ho9); clear ho9; subst e9; subst q9; (have ne9 := ne_of_allLt al9); (try dsimp only); (try k_sweep); (try k_fold))
  k_with "call ref" => (k_here; (with_reducible show wpAny _ _ (call (Value.ref 144) _) _ _ _); (k_dflt (refine' Ctr.use (c_sign _ _ _ _ _ _ _ _ ?q1 ?q2) ?k1 ?k2 ?k3 ?k4 ?k5 ?kK ?kd ?ku ?_; (case k1 => k_asm); (case k2 => k_asm); (case k3 => k_asm); (case k4 => first | k_asm | exact cb_drop (by assumption) (by kcj_all)); (case k5 => k_asm); (case kK => first | exact rfl | assumption); (case kd => ktr_room); (case ku => ktr_units); (case q1 => assumption); (case q2 => assumption); k_whole)); intro r9 h9 tk9 n9 F9 N9 ho9; (obtain ⟨tp9, t9, e9, q9⟩ := OkR.out ho9); clear ho9; subst e9; subst q9; (try dsimp only); (try k_sweep); (try k_fold))
  k_with "call ref" => (k_here; (with_reducible show wpAny _ _ (call (Value.ref 144) _) _ _ _); (k_dflt (refine' Ctr.use (c_dot _ _ _ _ _ _ _ _ ?q1 ?q2) ?k1 ?k2 ?k3 ?k4 ?k5 ?kK ?kd ?ku ?_; (case k1 => k_asm); (case k2 => k_asm); (case k3 => k_asm); (case k4 => first | k_asm | exact cb_drop (by assumption) (by kcj_all)); (case k5 => k_asm); (case kK => first | exact rfl | assumption); (case kd => ktr_room); (case ku => ktr_units); (case q1 => assumption); (case q2 => assumption); k_whole)); intro r9 h9 tk9 n9 F9 N9 ho9; (obtain ⟨tp9, t9, e9, q9⟩ := OkR.out ho9); clear ho9; subst e9; subst q9; (try dsimp only); (try k_sweep); (try k_fold))
  k_with "call ref" => (k_here; (with_reducible show wpAny _ _ (call (Value.ref 151) _) _ _ _); (k_dflt (refine' Ctr.use (c_dig _ _ _ _ _ _ _ ?q1 ?q2) ?k1 ?k2 ?k3 ?k4 ?k5 ?kK ?kd ?ku ?_; (case k1 => k_asm); (case k2 => k_asm); (case k3 => k_asm); (case k4 => first | k_asm | exact cb_drop (by assumption) (by kcj_all)); (case k5 => k_asm); (case kK => first | exact rfl | assumption); (case kd => ktr_room); (case ku => ktr_units); (case q1 => assumption); (case q2 => assumption); k_whole)); intro r9 h9 tk9 n9 F9 N9 ho9; (obtain ⟨tp9, t9, e9, q9⟩ := OkR.out ho9); clear ho9; subst e9; subst q9; (try dsimp only); (try k_sweep); (try k_fold))
  k_with "call ref" => (k_here; (with_reducible show wpAny _ _ (call (Value.ref 172) _) _ _ _); (k_dflt (refine' Ctr.use (c_exp _ _ _ _ _ _ _ ?q1 ?q2) ?k1 ?k2 ?k3 ?k4 ?k5 ?kK ?kd ?ku ?_; (case k1 => k_asm); (case k2 => k_asm); (case k3 => k_asm); (case k4 => first | k_asm | exact cb_drop (by assumption) (by kcj_all)); (case k5 => k_asm); (case kK => first | exact rfl | assumption); (case kd => ktr_room); (case ku => ktr_units); (case q1 => assumption); (case q2 => assumption); k_whole)); intro r9 h9 tk9 n9 F9 N9 ho9; (obtain ⟨tp9, t9, e9, q9⟩ := OkRI.out ho9); clear ho9; subst e9; subst q9; (try dsimp only); (try k_sweep); (try k_fold))
  k_with "call ref" => (k_here; (with_reducible show wpAny _ _ (call (Value.ref 165) _) _ _ _); (k_dflt (refine' Ctr.use (ct_whole_of _ _ hfig _) ?k1 ?k2 ?k3 ?k4 ?k5 ?kK ?kd ?ku ?_; (case k1 => k_asm); (case k2 => k_asm); (case k3 => k_asm); (case k4 => first | k_asm | exact cb_drop (by assumption) (by kcj_all)); (case k5 => k_asm); (case kK => first | exact rfl | assumption); (case kd => ktr_room); (case ku => ktr_units); k_whole)); intro r9 h9 tk9 n9 F9 N9 ho9; (obtain ⟨e9, t9, q9⟩ := OkI.out ho9); clear ho9; subst e9; subst q9; (try dsimp only); (try k_sweep); (try k_fold))
  k_with "compareOp Eq str str" => (refine eq_str_is (by assumption) ?_)
  k_with "binaryOp Pow int int" => (refine pow10_is (by (split <;> omega)) (by (split <;> omega)) (by first | exact hPA | exact hPB) ?_)
  k_with "binaryOp Mult int int" => (refine mul_is (by assumption) (by assumption) ?_)
  k_with "compareOp NotEq str str" => (refine neq_str_is (by assumption) ?_)
  k_with "call ref" => (k_here; (with_reducible show wpAny _ _ (call (Value.ref 151) _) _ _ _); (k_dflt (refine' Ctr.use (c_dg2 _ _ _ _ _ _ _ ?q1 ?q2) ?k1 ?k2 ?k3 ?k4 ?k5 ?kK ?kd ?ku ?_; (case k1 => k_asm); (case k2 => k_asm); (case k3 => k_asm); (case k4 => first | k_asm | exact cb_drop (by assumption) (by kcj_all)); (case k5 => k_asm); (case kK => first | exact rfl | assumption); (case kd => ktr_room); (case ku => ktr_units); (case q1 => assumption); (case q2 => assumption); k_whole)); intro r9 h9 tk9 n9 F9 N9 ho9; (obtain ⟨tp9, t9, e9, q9⟩ := OkR.out ho9); clear ho9; subst e9; subst q9; (try dsimp only); (try k_sweep); (try k_fold))
  k_with "execs cons" => ((with_reducible refine wpAny_execs_cons ?_); (try dsimp only); (try ((rename Fr _ _ _ _ => FF9); (revert FF9); (refine let_mX (P := fun mm9 => Fr _ _ _ mm9 → _) ?_); intro mm9 FF9)))
  (repeat' (first | (k_unfold; (try dsimp only)) | (k_end; wrow_close) | (walk1; (try k_fold)) | (dsimp only; walk1; (try k_fold)) | (leave1; (try dsimp only)) | fail "no step"))
  all_goals first
    | (exfalso; omega)
    | (refine' okT_end hret ?e1 ?e2 ?e3 ?e4 ?e5 ?e6 ?e7; (case e1 => k_asm); (case e2 => first | with_reducible assumption | assumption); (case e3 => k_mem); (case e4 => (intro p hp; repeat (first | exact hp | refine List.Mem.tail _ ?_))); (case e5 => exact ktn_ltOf (by first | exact (And.right (by with_reducible assumption)) | exact (And.right (And.right (by with_reducible assumption))) | exact (And.right (And.right (And.right (by with_reducible assumption)))) | exact (And.right (And.right (And.right (And.right (by with_reducible assumption))))) | exact (And.right (And.right (And.right (And.right (And.right (by with_reducible assumption)))))) | exact (And.right (And.right (And.right (And.right (And.right (And.right (by with_reducible assumption))))))) | exact (And.right (And.right (And.right (And.right (And.right (And.right (And.right (by with_reducible assumption)))))))) | exact (And.right (And.right (And.right (And.right (And.right (And.right (And.right (And.right (by with_reducible assumption))))))))) | exact (And.right (And.right (And.right (And.right (And.right (And.right (And.right (And.right (And.right (by with_reducible assumption)))))))))) | exact (And.right (And.right (And.right (And.right (And.right (And.right (And.right (And.right (And.right (And.right (by with_reducible assumption))))))))))) | exact (And.right (And.right (And.right (And.right (And.right (And.right (And.right (And.right (And.right (And.right (And.right (by with_reducible assumption)))))))))))) | exact (And.right (And.right (And.right (And.right (And.right (And.right (And.right (And.right (And.right (And.right (And.right (And.right (by with_reducible assumption))))))))))))) | exact (And.right (And.right (And.right (And.right (And.right (And.right (And.right (And.right (And.right (And.right (And.right (And.right (And.right (by with_reducible assumption)))))))))))))) | exact (And.right (And.right (And.right (And.right (And.right (And.right (And.right (And.right (And.right (And.right (And.right (And.right (And.right (And.right (by with_reducible assumption))))))))))))))) | ktn_lt)); (case e6 => first | rw [if_pos (by with_reducible assumption)] | rw [if_neg (by simp only [*]; decide)] | rw [if_neg (by assumption)]); (case e7 => first | rw [if_pos (by with_reducible assumption)] | rw [if_neg (by simp only [*]; decide)] | rw [if_neg (by assumption)]))
    | trace_state
end SB7
section SB8
def LeaveP (h₀ : Heap) (L : Addr) (m : Str → Option Value) (news : List (Addr × Obj)) (g : Heap) (R : Result → Shared → Prop) (v : Value) (s' : Shared) : Prop :=
  ∃ L' m' news', Fr g L' s'.heap m' ∧ News g L' s'.heap news' ∧ (Fr h₀ L s'.heap m → News h₀ L s'.heap (news' ++ news) → R (.ok (.ret v)) s')
theorem code_defP {prog : Program} {w : World} {A A₀ : Around} {s : Shared} {K : Frag} {L : Addr} {h₀ base : Heap} {m mg mb : Str → Option Value} {news : List (Addr × Obj)} {p : Program} {loose : List Str} {mean : ExcName → Option Value}
    {env : Env} {outer : List Env} {R : Result → Shared → Prop} {name qual : Str} {params : Arguments} {body : List Stmt} {scope : Scope} {dV kV doc pm cdv ct oc : Value} {an od : Option Addr} {osl : Array (Option Value)} {f : Addr} {args : Args} {binds : List (Str × Value)}
    (B : Below A₀ base outer h₀) (F : Fr h₀ L s.heap m) (X₀ : K.In h₀) (N : News h₀ L s.heap news) (T : Top p loose mean mg mb h₀) (hA : A.frames = some (env :: outer)) (hf : env.frame = some L) (hke : env.scope.kind = .function)
    (ho : K.lookup f = some ⟨oc, od, .func (fnOf name qual params body scope dV kV doc pm an cdv ct), osl⟩) (hcd : codeIn K cdv qual = true) (hroom : A.depth < recursionLimit)
    (hbind : BindsTo s (fnOf name qual params body scope dV kV doc pm an cdv ct) args binds) (hloc : ∀ y ∈ binds, scope.names.lookup y.1 = some .local)
    (h : ∀ L' h₁, Fr s.heap L' h₁ (fun y => binds.reverse.lookup y) → News s.heap L' h₁ [] → Below A base (env :: outer) s.heap → K.In s.heap → Top p loose mean mg mb s.heap →
      wpAny (model prog w) (A.deeper (envOf qual scope L' f cdv)) (execs body (envOf qual scope L' f cdv))
        (fun fl s' => LeaveP h₀ L m news s.heap R (match fl with | .ret v => v | _ => .none) s')
        (fun e s' => wpAny (model prog w) (A.deeper (envOf qual scope L' f cdv)) (leaving (envOf qual scope L' f cdv) e) (fun _ s'' => R (.error e) s'') (fun e' s'' => R (.error e') s'') s')
        { s with heap := h₁, toks := s.toks + binds.length })
    (hco : scope.isCoroutine = false) (hgen : scope.isGenerator = false) (hk : scope.kind = .function)
    (hcell : ∀ x ∈ scope.names, x.2 ≠ .cell) : codeAny (model prog w) A (.call (.ref f) args) R s := by
  have X := X₀.keeps F.keep
  obtain ⟨FG, BG, st, lv⟩ := groundX (R := R) B F (News.nil (h₀ := h₀) (L := L) (h := s.heap)) hA hf hke
  refine codeAny_call_def (fd := fnOf name qual params body scope dV kV doc pm an cdv ct) (body := body) (binds := binds) hroom (X _ _ ho) rfl (T.nolimit.keeps F.keep) (codeRec_of X hcd) rfl hbind hcell hloc (fun h₁ hns hk₁ => ?_) hco hgen hk
  refine wpAny_mono (h s.heap.objs.size h₁ ⟨hns, hk₁, Nat.le_refl _⟩ News.nil BG X (T.keeps F.keep)) (fun fl s' hl => ?_) fun _ _ y => y
  obtain ⟨L', m', news', F', N', k⟩ := hl
  obtain ⟨oL, es, ep, hL, hLr⟩ := F.ns
  refine k ⟨⟨oL, es, ep, F'.keep _ _ hL, hLr⟩, fun b o e => F'.keep b o (F.keep b o e), F.above⟩ fun p hp => ?_
  rcases List.mem_append.mp hp with hp | hp
  · refine ⟨(N' p hp).1, fun e => ?_, kts_none F.keep (N' p hp).2.2⟩
    have := (N' p hp).2.2
    rw [e, hL] at this
    cases this
  · exact ⟨F'.keep _ _ (N p hp).1, (N p hp).2⟩
def unitL (y : Str) : List Str → Str × Str
  | [] => (y, Str.ofString "")
  | u :: r => if Txt.endswith y u = true then (Txt.strip (Txt.slice y none (some (-(u.length : Int)))), u) else unitL y r
def unitsL : List Str := [Str.ofString "px", Str.ofString "pt", Str.ofString "pc", Str.ofString "mm", Str.ofString "cm", Str.ofString "in", Str.ofString "em", Str.ofString "%"]
theorem unitL_t {y u : Str} {r : List Str} (h : Txt.endswith y u = true) : unitL y (u :: r) = (Txt.strip (Txt.slice y none (some (-(u.length : Int)))), u) := if_pos h
theorem unitL_f {y u : Str} {r : List Str} (h : Txt.endswith y u = false) : unitL y (u :: r) = unitL y r := if_neg (by rw [h]; decide)
def OkS (news : List (Addr × Obj)) (a b : Str) (n : List (Addr × Obj)) (r : Value) : Prop := ∃ D t u c, r = .ref D ∧ n = (D, { cls := .type "tuple", data := .seq #[.str a t, .str b u] c }) :: news
theorem OkS.out {news n : List (Addr × Obj)} {a b : Str} {r : Value} (h : OkS news a b n r) : ∃ D t u c, (D, { cls := .type "tuple", data := .seq #[.str a t, .str b u] c }) :: news = n ∧ .ref D = r := let ⟨D, t, u, c, x, y⟩ := h; ⟨D, t, u, c, y.symm, x.symm⟩
theorem okS_end {h₀ h' : Heap} {L D : Addr} {m : Str → Option Value} {news : List (Addr × Obj)} {s : Shared} {Q : Value → Shared → Prop} {z : Str × Str} {a b : Str} {t u : Tok} {c tk' : Nat} {more : List (Addr × Obj)}
    (hret : ∀ r h' tk' news', Fr h₀ L h' m → News h₀ L h' news' → OkS news z.1 z.2 news' r → Q r { s with heap := h', toks := tk' })
    (F : Fr h₀ L h' m) (N : News h₀ L h' (((D, { cls := .type "tuple", data := .seq #[.str a t, .str b u] c }) :: more) ++ news)) (hz : z = (a, b)) : Q (.ref D) { s with heap := h', toks := tk' } := by
  subst hz
  refine hret _ _ _ ((D, { cls := .type "tuple", data := .seq #[.str a t, .str b u] c }) :: news) F (fun p hp => ?_) ⟨_, _, _, _, rfl, rfl⟩
  rcases List.mem_cons.mp hp with rfl | hp
  · exact N _ (List.mem_append_left _ (.head _))
  · exact N _ (List.mem_append_right _ hp)
theorem strip_k {prog : Program} {w : World} {A : Around} {E : Value → Shared → Prop} {s : Shared} {x : Str} {t : Tok} {Q : Value → Shared → Prop} (hx : x.length ≤ 1000) (h : ∀ t' k, Q (.str (Txt.strip x) t') { s with toks := k }) : wpAny (model prog w) A (call (.builtin "str.strip") [.str x t]) Q E s :=
  SCL.strip (fun t' k _ => h t' k) (by unfold sizeLine; omega)
theorem sl1000 {x : Str} {a b : Option Int} (hx : x.length ≤ 1000) : (Txt.slice (Txt.strip x) a b).length ≤ 1000 :=
  Nat.le_trans (PyProof.Txt.length_slice_le _ _ _) (Nat.le_trans (len_strip x) hx)
theorem items_upd {prog : Program} {w : World} {A : Around} {E : Value → Shared → Prop} {h₀ : Heap} {env : Env} {target : Expr} {body : List Stmt} {Q : Flow → Shared → Prop} {s : Shared} {ws : List (Addr × String)} {keep : List (Addr × Obj)} {r : List Itm} {news : List (Addr × Obj)} {m : Str → Option Value} {x : Str} {a b : Option Value}
    (h : ItemsRest prog w A E h₀ env target body Q s ws keep r (fun z => if z = x then a else m z) news) : ItemsRest prog w A E h₀ env target body Q s ws keep r (fun z => if z = x then a else if z = x then b else m z) news := by
  have e : (fun z => if z = x then a else if z = x then b else m z) = fun z => if z = x then a else m z := by
    funext z
    split <;> rfl
  rw [e]; exact h
theorem items_unit {prog : Program} {w : World} {A : Around} {E : Value → Shared → Prop} {h₀ : Heap} {env : Env} {target : Expr} {body : List Stmt} {Q : Flow → Shared → Prop} {s : Shared} {ws : List (Addr × String)} {keep : List (Addr × Obj)} {news : List (Addr × Obj)} {m0 : Str → Option Value} {y : Str}
    (step : ∀ (u : Str) (t : Tok) (r : List Str) (r' : List Itm) (v : Value), unitL y unitsL = unitL y (u :: r) → u.length ≤ 2 → (∀ v', Txt.endswith y u = false → ItemsRest prog w A E h₀ env target body Q s ws keep r' (fun z => if z = Str.ofString "unit" then some v' else m0 z) news) →
      ItemsRest prog w A E h₀ env target body Q s ws keep (.val (.str u t) :: r') (fun z => if z = Str.ofString "unit" then some v else m0 z) news)
    (base : ∀ v, unitL y unitsL = (y, Str.ofString "") → ItemsRest prog w A E h₀ env target body Q s ws keep [] (fun z => if z = Str.ofString "unit" then some v else m0 z) news) :
    ∀ (us : List (Str × Tok)) (v : Value), unitL y unitsL = unitL y (us.map Prod.fst) → (∀ p ∈ us, p.1.length ≤ 2) →
      ItemsRest prog w A E h₀ env target body Q s ws keep (us.map fun p => .val (.str p.1 p.2)) (fun z => if z = Str.ofString "unit" then some v else m0 z) news
  | [], v, e, _ => base v e
  | p :: us, v, e, hl => step p.1 p.2 (us.map Prod.fst) _ v e (hl _ (.head _)) fun v' hf => items_unit step base us v' (e.trans (unitL_f hf)) fun u hu => hl u (.tail _ hu)
theorem items_unit' {prog : Program} {w : World} {A : Around} {E : Value → Shared → Prop} {h₀ : Heap} {env : Env} {target : Expr} {body : List Stmt} {Q : Flow → Shared → Prop} {s : Shared} {ws : List (Addr × String)} {keep : List (Addr × Obj)} {news : List (Addr × Obj)} {m0 : Str → Option Value} {y a b c d e f g : Str}
    (step : ∀ (u : Str) (t : Tok) (r : List Str) (r' : List Itm) (v : Value), unitL y unitsL = unitL y (u :: r) → u.length ≤ 2 → (∀ v', Txt.endswith y u = false → ItemsRest prog w A E h₀ env target body Q s ws keep r' (fun z => if z = Str.ofString "unit" then some v' else m0 z) news) →
      ItemsRest prog w A E h₀ env target body Q s ws keep (.val (.str u t) :: r') (fun z => if z = Str.ofString "unit" then some v else m0 z) news)
    (base : ∀ v, unitL y unitsL = (y, Str.ofString "") → ItemsRest prog w A E h₀ env target body Q s ws keep [] (fun z => if z = Str.ofString "unit" then some v else m0 z) news)
    {ta tb tc td te tf tg : Tok} {v : Value} (he : unitL y unitsL = unitL y [a, b, c, d, e, f, g]) (hl : ∀ u ∈ [a, b, c, d, e, f, g], u.length ≤ 2) :
      ItemsRest prog w A E h₀ env target body Q s ws keep (List.map Itm.val [.str a ta, .str b tb, .str c tc, .str d td, .str e te, .str f tf, .str g tg]) (fun z => if z = Str.ofString "unit" then some v else m0 z) news :=
  items_unit step base [(a, ta), (b, tb), (c, tc), (d, td), (e, te), (f, tf), (g, tg)] v he fun p hp => hl p.1 (List.mem_map_of_mem (f := Prod.fst) hp)
theorem units_le : ∀ u ∈ [Str.ofString "pt", Str.ofString "pc", Str.ofString "mm", Str.ofString "cm", Str.ofString "in", Str.ofString "em", Str.ofString "%"], u.length ≤ 2 := by decide +kernel
theorem unit_px {y : Str} (h : Txt.endswith y (Str.ofString "px") = false) : unitL y unitsL = unitL y [Str.ofString "pt", Str.ofString "pc", Str.ofString "mm", Str.ofString "cm", Str.ofString "in", Str.ofString "em", Str.ofString "%"] := unitL_f h
theorem ct_unit_of (x : Str) (tx : Tok) (news : List (Addr × Obj)) (hx : x.length ≤ 1000) : Ctr 201 4 news [.str x tx] (OkS news (unitL (Txt.strip x) unitsL).1 (unitL (Txt.strip x) unitsL).2) := by
  k_with_none; (k_with "binaryOp FloorDiv int int" => (refine floordiv_int (by first | assumption | omega) ?_ (Or.inl (dv_of_sm (by assumption))))); refine mark_use ?_; k_fill; intro _; unfold Ctr; intro w mean mg mb dp un gd cn cs a ccd cl outer A₀ base h₀ L m s Q E B F X N T hk hdp hun hret
  k_with "LeaveP" => (refine ⟨_, _, _, by k_asm, by k_asm, ?_⟩; intro kF kN; (try dsimp only))
  refine wpAny_call ?_
  k_dflt (refine' code_defP ?k1 ?k2 ?k3 ?k4 ?k5 ?kA ?kF ?kK ?k6 ?k7 ?k8 ?k9 ?kB ?_ ?c2 ?c3 ?c4 ?c5; (case kA => exact rfl); (case kF => exact rfl); (case kK => first | exact rfl | assumption); (case k1 => k_asm); (case k2 => k_asm); (case k3 => k_asm); (case k4 => k_asm); (case k5 => k_asm); (case k6 => k_is); (case k7 => k_is); (case k8 => ktr_room); (case k9 => first | exact BindsTo.of_eq rfl | exact binds_K (by k_in) rfl (by k_is) rfl rfl rfl); (case c5 => decide); (case kB => exact locs rfl); (case c2 => exact rfl); (case c3 => exact rfl); (case c4 => exact rfl); k_whole; intro L' h' F' N' B' X' T'; (try dsimp only); (try k_lift B'); (try k_fold))
  k_with "call builtin:str.strip" => (k_here; (first | (with_reducible refine strip_k hx ?_) | (with_reducible refine strip_k (sl1000 hx) ?_)); intro t9 tk9)
  k_with "ItemsRest" => ((with_reducible refine' items_unit' (y := Txt.strip x) ?st ?ba ?he ?hl; (case he => exact unit_px (by with_reducible assumption)); (case hl => exact units_le)); (intro u9 t9' r9 r9' v9 hu9 hl9 ih9))
  k_with "ItemsRest" => (first | exact items_upd (ih9 _ (by with_reducible assumption)) | exact ih9 _ (by with_reducible assumption))
  k_steps
  all_goals (refine okS_end hret kF kN ?_; first | (with_reducible assumption) | (rw [hu9]; exact unitL_t (by with_reducible assumption)) | (unfold unitsL; repeat (first | (rw [unitL_t (by with_reducible assumption)]; rfl) | rw [unitL_f (by with_reducible assumption)] | rfl)))
end SB8
section SB10
inductive LitE : List (Option PySem.Expr) → List PySem.Expr → List (Str × Str) → Prop
  | nil : LitE [] [] []
  | cons {a b : Str} {ka kb : Nat} {pa pb : Pos} {ks : List (Option PySem.Expr)} {vs : List PySem.Expr} {xs : List (Str × Str)} : LitE ks vs xs → LitE (some (.Constant (.str a) ka pa) :: ks) (.Constant (.str b) kb pb :: vs) ((a, b) :: xs)
def foldD (xs : List (Str × Str)) (D : List (PyData × PyData)) : List (PyData × PyData) := xs.foldl (fun D p => PyProof.V.putD (.str p.1) (.str p.2) D) D
def hdL : List (Str × Str) := [(Str.ofString "fill", Str.ofString "black"), (Str.ofString "fill-rule", Str.ofString "nonzero"), (Str.ofString "fill-opacity", Str.ofString "1"), (Str.ofString "stroke", Str.ofString "none"), (Str.ofString "stroke-width", Str.ofString "1"), (Str.ofString "stroke-linecap", Str.ofString "butt"), (Str.ofString "stroke-linejoin", Str.ofString "miter"), (Str.ofString "stroke-miterlimit", Str.ofString "4"), (Str.ofString "stroke-dasharray", Str.ofString "none"), (Str.ofString "stroke-dashoffset", Str.ofString "0"), (Str.ofString "stroke-opacity", Str.ofString "1"), (Str.ofString "clip-rule", Str.ofString "nonzero"), (Str.ofString "color", Str.ofString "black"), (Str.ofString "font-size", Str.ofString "16"), (Str.ofString "font-family", Str.ofString ""), (Str.ofString "text-anchor", Str.ofString "start"), (Str.ofString "visibility", Str.ofString "visible")]
def nhdL : List (Str × Str) := [(Str.ofString "opacity", Str.ofString "1"), (Str.ofString "display", Str.ofString "inline"), (Str.ofString "clip-path", Str.ofString "none"), (Str.ofString "mask", Str.ofString "none"), (Str.ofString "stop-color", Str.ofString "black"), (Str.ofString "stop-opacity", Str.ofString "1"), (Str.ofString "mix-blend-mode", Str.ofString "normal")]

open PyProof.V in
theorem long_loop {prog : Program} {w : World} {A : Around} {E : Value → Shared → Prop} {env : Env} {pos : Pos} {d : Addr} {ks : List (Option PySem.Expr)} {vs : List PySem.Expr} {xs : List (Str × Str)} (hl : LitE ks vs xs) : ∀ (D : List (PyData × PyData)) (kvs : List (Str × Value)) (s : Shared) (Q : PUnit → Shared → Prop),
    s.heap.DictOf (PySem.strKind prog w) d kvs → FlatPairs PyData.str kvs D → D.length + xs.length ≤ 1000 →
    (∀ h' tk kvs', h'.DictOf (PySem.strKind prog w) d kvs' → FlatPairs PyData.str kvs' (foldD xs D) → Heap.SameBut d s.heap h' → Q PUnit.unit { s with heap := h', toks := tk }) →
    wpAny (model prog w) A (forIn (pairTrees ks vs env pos) PUnit.unit fun (x : Sem Value × Sem Value) (_ : PUnit) => (do
        let kv ← x.1
        let vv ← holding [kv] x.2
        holding [kv, vv] (dictSet d kv vv)
        pure (ForInStep.yield PUnit.unit) : Sem (ForInStep PUnit))) Q E s := by
  induction hl with
  | nil =>
    intro D kvs s Q hd hf _ k
    show wpAny _ _ (forIn [] PUnit.unit _) _ _ _
    rw [List.forIn_nil]
    exact wpAny_pure (k s.heap s.toks kvs hd hf (Heap.SameBut.refl _ _))
  | @cons a b ka kb pa pb ks vs xs hr ih =>
    intro D kvs s Q hd hf hz k
    rw [List.length_cons] at hz
    have e : pairTrees (some (.Constant (.str a) ka pa) :: ks) (.Constant (.str b) kb pb :: vs) env pos = (eval (.Constant (.str a) ka pa) env, do let x ← eval (.Constant (.str b) kb pb) env; standAt pos; pure x) :: pairTrees ks vs env pos := rfl
    rw [e, List.forIn_cons]
    refine wpAny_bind (wpAny_bind (Calls.Constant_str (env := env) (k := ka) (pos := pa) (wpAny_bind (wpAny_holding (wpAny_bind (Calls.Constant_str (env := env) (k := kb) (pos := pb) (wpAny_bind (wpAny_standAt (wpAny_pure ?_)))))))))
    refine wpAny_bind (wpAny_holding (wpAny_dictSet_pairs (knd := PySem.strKind prog w) (strKind_is prog w _ _) hd (fun h₁ hm₁ hs₁ => wpAny_pure ?_) (by have := hf.length; rw [sizeLine_eq]; omega)))
    refine ih (putD (.str a) (.str b) D) _ _ Q hm₁ (hf.stored same_str a (Flat.str _ _)) (by have := putD_length_le (.str a) (.str b) D; omega) fun h' tk kvs' x y c => ?_
    exact k h' tk kvs' x y (hs₁.trans c)
theorem gather17 (f : (Option (Sem Value) × Sem Value) → (Option Addr × List (Sem Value × Sem Value)) → Sem (ForInStep (Option Addr × List (Sem Value × Sem Value))))
    (hf : ∀ (p : Sem Value × Sem Value) (run : List (Sem Value × Sem Value)), run.length + 1 < 17 → f (some p.1, p.2) (none, run) = pure (.yield (none, run ++ [p])))
    (hl : ∀ (p : Sem Value × Sem Value) (run : List (Sem Value × Sem Value)), run.length + 1 = 17 → f (some p.1, p.2) (none, run) = (do let d ← subDict (run ++ [p]); pure (.yield (some d, [])))) :
    ∀ (items run : List (Sem Value × Sem Value)), items ≠ [] → run.length + items.length = 17 → forIn (items.map fun p => (some p.1, p.2)) ((none : Option Addr), run) f = (do let d ← subDict (run ++ items); pure (some d, []))
  | [], _, h, _ => absurd rfl h
  | [p], run, _, h => by
    rw [List.map_cons, List.forIn_cons, hl p run (by simpa using h)]
    simp
  | p :: q :: rest, run, _, h => by
    rw [List.map_cons, List.forIn_cons, hf p run (by simp at h; omega), pure_bind]
    have := gather17 f hf hl (q :: rest) (run ++ [p]) (by simp) (by simp at h ⊢; omega)
    simpa using this
theorem display17 (pairs : List (Sem Value × Sem Value)) (hlen : pairs.length = 17) :
    dictDisplay (pairs.map fun p => (some p.1, p.2)) = (do let d ← subDict pairs; pure (.ref d)) := by
  have h0 : pairs ≠ [] := by rintro rfl; cases hlen
  unfold dictDisplay
  dsimp only
  rw [gather17 _ (fun p run h => by
    have hne : ((run ++ [(p.1, p.2)]).length == 17) = false := by simp; omega
    simp only [hne, Bool.false_eq_true, if_false]) (fun p run h => by
    have hne : ((run ++ [(p.1, p.2)]).length == 17) = true := by simp; omega
    simp only [hne, if_true]
    simp) pairs [] h0 (by simpa using hlen)]
  simp
open PyProof.V in
theorem dict17 {prog : Program} {w : World} {A : Around} {E : Value → Shared → Prop} {s : Shared} {env : Env} {h₀ : Heap} {L : Addr} {m : Str → Option Value} {news : List (Addr × Obj)} {keys : List (Option PySem.Expr)} {values : List PySem.Expr} {pos : Pos} {Q : Value → Shared → Prop} (xs : List (Str × Str))
    (F : Fr h₀ L s.heap m) (N : News h₀ L s.heap news) (hbig : h₀.NoLimit) (hall : keys.all (·.isSome) = true) (hl : keys.length = values.length) (hlen : keys.length = 17) (hx : LitE keys values xs) (hxl : xs.length ≤ 100)
    (h : ∀ d h' tk o kvs, Fr h₀ L h' m → News h₀ L h' ((d, o) :: news) → (∀ p ∈ news, p.1 < d) → (d == sysModules) = false → o.IsDictOf (PySem.strKind prog w) kvs → FlatPairs PyData.str kvs (foldD xs []) → Q (.ref d) { s with heap := h', toks := tk }) :
    wpAny (model prog w) A (eval (.Dict keys values pos) env) Q E s := by
  have hn := pairTrees_length keys values env pos hall hl
  rw [arm_eval_Dict, zip_pairTrees keys values env pos hall hl, display17 _ (by rw [hn]; exact hlen)]
  refine wpAny_bind (wpAny_standAt (wpAny_bind ?_))
  unfold subDict
  refine wpAny_bind (wpAny_alloc (wpAny_bind (wpAny_holding ?_)))
  rw [if_neg (by rw [hn, hlen]; decide)]
  refine wpAny_bind (wpAny_rule (wpAny_bind ?_))
  refine long_loop hx [] [] _ _ (Heap.DictOf.new s.heap) .nil (by rw [List.length_nil]; omega) fun h' tk kvs a b c => wpAny_pure (wpAny_pure (wpAny_pure ?_))
  obtain ⟨o, ho, hd⟩ := Heap.dictOf_iff.mp a
  obtain ⟨o₀, ho₀, _⟩ := Heap.dictOf_iff.mp (Heap.DictOf.new (knd := PySem.strKind prog w) s.heap)
  have F₁ := F.push (PySem.W.emptyDict)
  have N₁ := N.push F PySem.W.emptyDict
  have hm := N₁ _ (.head _)
  refine h s.heap.objs.size h' tk o kvs (F₁.change c hm.2.1 hm.2.2) (fun p hp => ?_) (fun p hp => Heap.lt_size (N p hp).1) (F.notModules (modules_low hbig)) hd b
  rcases List.mem_cons.mp hp with rfl | hp
  · exact ⟨ho, hm.2⟩
  · have hp₁ := N₁ p (.tail _ hp)
    exact ⟨(c.2 _ (Nat.ne_of_lt (Heap.lt_size (N p hp).1))).trans hp₁.1, hp₁.2⟩
def CtrW (w : World) (f : Addr) (dn : Nat) (news : List (Addr × Obj)) (vs : List Value) (Ok : List (Addr × Obj) → Value → Prop) : Prop :=
  ∀ (mean : ExcName → Option Value) (mg mb : Str → Option Value) (dp un : Nat) (gd : Option (List Code)) (cn : Str) (cs : Scope) (a : Addr) (ccd : Value) (cl : List (Str × Addr)) (outer : List Env) (A₀ : Around) (base h₀ : Heap) (L : Addr)
    (m : Str → Option Value) (s : Shared) (Q E : Value → Shared → Prop),
    Below A₀ base outer h₀ → Fr h₀ L s.heap m → (hd.heap_39 w.params).In h₀ → News h₀ L s.heap news →
    Top hd.view_39 (looseW hd.view_39 [Str.ofString "MOST_VALUE", Str.ofString "fraction", Str.ofString "MOST_SIZE", Str.ofString "length", Str.ofString "length_styles", Str.ofString "Look"]) mean mg mb h₀ →
    cs.kind = .function → dp + dn < recursionLimit → un + 8 * dn < cLine →
    (∀ r h' tk' news', Fr h₀ L h' m → News h₀ L h' news' → Ok news' r → Q r { s with heap := h', toks := tk' }) →
    wpAny (model PySem.Challenge.rw_xm0732_01.row.prog w) (ktrTop dp un gd cn cs L a ccd cl outer) (call (.ref f) vs) Q E s

theorem CtrW.use {f : Addr} {dn : Nat} {news : List (Addr × Obj)} {vs : List Value} {Ok : List (Addr × Obj) → Value → Prop}
    {w : World} {mean : ExcName → Option Value} {mg mb : Str → Option Value} {dp un : Nat} {gd : Option (List Code)} {cn : Str} {cs : Scope} {a : Addr} {ccd : Value} {cl : List (Str × Addr)} {outer : List Env} {A₀ : Around} {base h₀ : Heap} {L : Addr}
    {m : Str → Option Value} {s : Shared} {Q E : Value → Shared → Prop} (C : CtrW w f dn news vs Ok)
    (B : Below A₀ base outer h₀) (F : Fr h₀ L s.heap m) (X : (hd.heap_39 w.params).In h₀) (N : News h₀ L s.heap news)
    (T : Top hd.view_39 (looseW hd.view_39 [Str.ofString "MOST_VALUE", Str.ofString "fraction", Str.ofString "MOST_SIZE", Str.ofString "length", Str.ofString "length_styles", Str.ofString "Look"]) mean mg mb h₀)
    (hk : cs.kind = .function) (hd : dp + dn < recursionLimit) (hu : un + 8 * dn < cLine)
    (ret : ∀ r h' tk' news', Fr h₀ L h' m → News h₀ L h' news' → Ok news' r → Q r { s with heap := h', toks := tk' }) :
    wpAny (model PySem.Challenge.rw_xm0732_01.row.prog w) (ktrTop dp un gd cn cs L a ccd cl outer) (call (.ref f) vs) Q E s :=
  C mean mg mb dp un gd cn cs a ccd cl outer A₀ base h₀ L m s Q E B F X N T hk hd hu ret



def OkD (w : World) (D : List (PyData × PyData)) (news : List (Addr × Obj)) (n : List (Addr × Obj)) (y : Value) : Prop :=
  ∃ d o kvs, n = (d, o) :: news ∧ y = .ref d ∧ (∀ p ∈ news, p.1 < d) ∧ (d == sysModules) = false ∧ o.IsDictOf (PySem.strKind PySem.Challenge.rw_xm0732_01.row.prog w) kvs ∧ PyProof.V.FlatPairs PyData.str kvs D
theorem ct_handed (w : World) (news : List (Addr × Obj)) : CtrW w 187 3 news [] (OkD w (foldD hdL []) news) := by
  k_with_none; (k_with "binaryOp FloorDiv int int" => (refine floordiv_int (by first | assumption | omega) ?_ (Or.inl (dv_of_sm (by assumption))))); refine mark_use ?_; k_fill; intro _; unfold CtrW; intro mean mg mb dp un gd cn cs a ccd cl outer A₀ base h₀ L m s Q E B F X N T hk hdp hun hret
  refine wpAny_call ?_
  k_dflt (refine' code_def ?k1 ?k2 ?k3 ?k4 ?k5 ?kA ?kF ?kK ?k6 ?k7 ?k8 ?k9 ?kB ?_ ?c2 ?c3 ?c4 ?c5; (case kA => exact rfl); (case kF => exact rfl); (case kK => first | exact rfl | assumption); (case k1 => k_asm); (case k2 => k_asm); (case k3 => k_asm); (case k4 => k_asm); (case k5 => k_asm); (case k6 => k_is); (case k7 => k_is); (case k8 => ktr_room); (case k9 => first | exact BindsTo.of_eq rfl | exact binds_K (by k_in) rfl (by k_is) rfl rfl rfl); (case c5 => decide); (case kB => exact locs rfl); (case c2 => exact rfl); (case c3 => exact rfl); (case c4 => exact rfl); k_whole; intro g' L' h' FG' F' N' B' X' T'; (try dsimp only); (try k_lift B'); (try k_fold))
  k_with "eval Dict" => (k_here; refine dict17 hdL (by k_asm) (by k_asm) (Top.nolimit (by k_asm)) rfl rfl rfl (by unfold hdL; repeat (first | exact LitE.nil | refine LitE.cons ?_)) (by decide) ?_; intro d9 h9 tk9 o9 kv9 F9 N9 l9 lo9 hd9 hf9; (try dsimp only); (try k_fold))
  k_steps
  all_goals exact hret _ _ _ _ (by k_asm) (by assumption) ⟨d9, o9, kv9, rfl, rfl, l9, lo9, hd9, hf9⟩
inductive Carr : List (Value × Value) → List (Str × Str) → List (Str × Value) → Prop
  | nil : Carr [] [] []
  | cons {a b : Str} {t u : Tok} {l : List (Value × Value)} {xs : List (Str × Str)} {kvs : List (Str × Value)} : Carr l xs kvs → Carr ((.str a t, .str b u) :: l) ((a, b) :: xs) ((a, .str b u) :: kvs)
theorem Carr.carries {prog : Program} {w : World} {l : List (Value × Value)} {xs : List (Str × Str)} {kvs : List (Str × Value)} (h : Carr l xs kvs) : Carries (PySem.strKind prog w) l kvs := by
  induction h with
  | nil => exact True.intro
  | cons _ ih => exact ⟨strKind_is prog w _ _, rfl, ih⟩
open PyProof.V in
theorem Carr.flat {l : List (Value × Value)} {xs : List (Str × Str)} {kvs : List (Str × Value)} (h : Carr l xs kvs) : ∀ {acc : List (Str × Value)} {D : List (PyData × PyData)}, FlatPairs PyData.str acc D → FlatPairs PyData.str (merged acc kvs) (foldD xs D) := by
  induction h with
  | nil => intro acc D p; exact p
  | cons _ ih => intro acc D p; exact ih (p.stored same_str _ (Flat.str _ _))
theorem evalPairs_lit {prog : Program} {w : World} {A : Around} {E : Value → Shared → Prop} {env : Env} {pos : Pos} {ks : List (Option PySem.Expr)} {vs : List PySem.Expr} {xs : List (Str × Str)} (hl : LitE ks vs xs) : ∀ (s : Shared) (Q : List (Value × Value) → Shared → Prop),
    (∀ l kvs tk, Carr l xs kvs → Q l { s with toks := tk }) → wpAny (model prog w) A (evalPairs (pairTrees ks vs env pos)) Q E s := by
  induction hl with
  | nil => intro s Q k; exact pairTrees_nil_walk (k [] [] s.toks .nil)
  | @cons a b ka kb pa pb ks vs xs hr ih =>
    intro s Q k
    refine pairTrees_cons_walk (Calls.Constant_str (Calls.Constant_str (ih _ _ fun l kvs tk c => ?_)))
    exact k _ _ tk (.cons c)
open PyProof.V in
theorem dictS {prog : Program} {w : World} {A : Around} {E : Value → Shared → Prop} {s : Shared} {env : Env} {h₀ : Heap} {L : Addr} {m : Str → Option Value} {news : List (Addr × Obj)} {keys : List (Option PySem.Expr)} {values : List PySem.Expr} {pos : Pos} {Q : Value → Shared → Prop} (xs : List (Str × Str))
    (F : Fr h₀ L s.heap m) (N : News h₀ L s.heap news) (hbig : h₀.NoLimit) (hall : keys.all (·.isSome) = true) (hl : keys.length = values.length) (h0 : keys ≠ []) (hlen : keys.length ≤ 15) (hx : LitE keys values xs)
    (h : ∀ d h' tk o kvs, Fr h₀ L h' m → News h₀ L h' ((d, o) :: news) → (∀ p ∈ news, p.1 < d) → (d == sysModules) = false → o.IsDictOf (PySem.strKind prog w) kvs → FlatPairs PyData.str kvs (foldD xs []) → Q (.ref d) { s with heap := h', toks := tk }) :
    wpAny (model prog w) A (eval (.Dict keys values pos) env) Q E s := by
  refine wpAny_Dict_walk (knd := PySem.strKind prog w) hall hl h0 hlen (evalPairs_lit hx _ _ fun l kvs tk c => ⟨kvs, c.carries, Heap.DictOf.new s.heap, fun h' a b => ?_⟩)
  obtain ⟨o, ho, hd⟩ := Heap.dictOf_iff.mp a
  have F₁ := F.push (PySem.W.emptyDict)
  have N₁ := N.push F PySem.W.emptyDict
  have hm := N₁ _ (.head _)
  refine h s.heap.objs.size h' _ o _ (F₁.change b hm.2.1 hm.2.2) (fun p hp => ?_) (fun p hp => Heap.lt_size (N p hp).1) (F.notModules (modules_low hbig)) hd (c.flat .nil)
  rcases List.mem_cons.mp hp with rfl | hp
  · exact ⟨ho, hm.2⟩
  · have hp₁ := N₁ p (.tail _ hp)
    exact ⟨(b.2 _ (Nat.ne_of_lt (Heap.lt_size (N p hp).1))).trans hp₁.1, hp₁.2⟩
theorem ct_nothanded (w : World) (news : List (Addr × Obj)) : CtrW w 194 3 news [] (OkD w (foldD nhdL []) news) := by
  k_with_none; (k_with "binaryOp FloorDiv int int" => (refine floordiv_int (by first | assumption | omega) ?_ (Or.inl (dv_of_sm (by assumption))))); refine mark_use ?_; k_fill; intro _; unfold CtrW; intro mean mg mb dp un gd cn cs a ccd cl outer A₀ base h₀ L m s Q E B F X N T hk hdp hun hret
  refine wpAny_call ?_
  k_dflt (refine' code_def ?k1 ?k2 ?k3 ?k4 ?k5 ?kA ?kF ?kK ?k6 ?k7 ?k8 ?k9 ?kB ?_ ?c2 ?c3 ?c4 ?c5; (case kA => exact rfl); (case kF => exact rfl); (case kK => first | exact rfl | assumption); (case k1 => k_asm); (case k2 => k_asm); (case k3 => k_asm); (case k4 => k_asm); (case k5 => k_asm); (case k6 => k_is); (case k7 => k_is); (case k8 => ktr_room); (case k9 => first | exact BindsTo.of_eq rfl | exact binds_K (by k_in) rfl (by k_is) rfl rfl rfl); (case c5 => decide); (case kB => exact locs rfl); (case c2 => exact rfl); (case c3 => exact rfl); (case c4 => exact rfl); k_whole; intro g' L' h' FG' F' N' B' X' T'; (try dsimp only); (try k_lift B'); (try k_fold))
  k_with "eval Dict" => (k_here; refine dictS nhdL (by k_asm) (by k_asm) (Top.nolimit (by k_asm)) rfl rfl (List.cons_ne_nil _ _) (by decide) (by unfold nhdL; repeat (first | exact LitE.nil | refine LitE.cons ?_)) ?_; intro d9 h9 tk9 o9 kv9 F9 N9 l9 lo9 hd9 hf9; (try dsimp only); (try k_fold))
  k_steps
  all_goals exact hret _ _ _ _ (by k_asm) (by assumption) ⟨d9, o9, kv9, rfl, rfl, l9, lo9, hd9, hf9⟩
end SB10
section SB11
theorem OkD.out {w : World} {D : List (PyData × PyData)} {news n : List (Addr × Obj)} {y : Value} (h : OkD w D news n y) :
  ∃ d o kvs, (d, o) :: news = n ∧ .ref d = y ∧ (∀ p ∈ news, p.1 < d) ∧ (d == sysModules) = false ∧ o.IsDictOf (PySem.strKind PySem.Challenge.rw_xm0732_01.row.prog w) kvs ∧ PyProof.V.FlatPairs PyData.str kvs D :=
  let ⟨d, o, kvs, a, b, c⟩ := h; ⟨d, o, kvs, a.symm, b.symm, c⟩
/-- what first_look's table bears -/
def lookD : List (PyData × PyData) := ktMergeD (foldD hdL []) (foldD nhdL [])
abbrev lookO (h1 h2 h3 : Int) (k1 k2 k3 : Tok) (V : Addr) (sz : Value) (S : Addr) : Obj := dictOf [⟨h1, .str "values" k1, .ref V⟩, ⟨h2, .str "size" k2, sz⟩, ⟨h3, .str "sizes" k3, .ref S⟩] 3
def TabO (w : World) (V : Addr) (o : Obj) : Prop := (V == sysModules) = false ∧ ∃ kvs, o.IsDictOf (PySem.strKind PySem.Challenge.rw_xm0732_01.row.prog w) kvs ∧ PyProof.V.FlatPairs PyData.str kvs lookD
def OkL (w : World) (news : List (Addr × Obj)) (n : List (Addr × Obj)) (y : Value) : Prop :=
  ∃ r d V S o h1 h2 h3 k1 k2 k3, n = (r, instObj 317 d) :: (d, lookO h1 h2 h3 k1 k2 k3 V .none S) :: (V, o) :: news ∧ y = .ref r ∧ (∀ p ∈ news, p.1 < V) ∧ @LT.lt Nat _ V d ∧ @LT.lt Nat _ d r ∧ TabO w V o
theorem OkL.out {w : World} {news n : List (Addr × Obj)} {y : Value} (h : OkL w news n y) :
  ∃ r d V S o h1 h2 h3 k1 k2 k3, (r, instObj 317 d) :: (d, lookO h1 h2 h3 k1 k2 k3 V .none S) :: (V, o) :: news = n ∧ .ref r = y ∧ (∀ p ∈ news, p.1 < V) ∧ @LT.lt Nat _ V d ∧ @LT.lt Nat _ d r ∧ TabO w V o :=
  let ⟨r, d, V, S, o, h1, h2, h3, k1, k2, k3, a, b, c⟩ := h; ⟨r, d, V, S, o, h1, h2, h3, k1, k2, k3, a.symm, b.symm, c⟩
theorem look_size : Spec.lookup (.str (Str.ofString "font-size")) lookD = some (.str (Str.ofString "16")) := by kernel_rfl
theorem okL_end {w : World} {h₀ h' : Heap} {L r d V S : Addr} {o : Obj} {m : Str → Option Value} {news news' : List (Addr × Obj)} {s : Shared} {Q : Value → Shared → Prop} {h1 h2 h3 : Int} {k1 k2 k3 tk' : Nat} {kvs : List (Str × Value)}
    (hret : ∀ r h' tk' news', Fr h₀ L h' m → News h₀ L h' news' → OkL w news news' r → Q r { s with heap := h', toks := tk' })
    (F : Fr h₀ L h' m) (N : News h₀ L h' news') (h4 : (r, instObj 317 d) ∈ news') (h5 : (d, lookO h1 h2 h3 k1 k2 k3 V .none S) ∈ news') (h6 : (V, o) ∈ news') (h7 : ∀ p ∈ news, p ∈ news') (h8 : ∀ p ∈ news, p.1 < V) (h9 : @LT.lt Nat _ V d) (h10 : @LT.lt Nat _ d r)
    (h11 : (V == sysModules) = false) (h12 : o.IsDictOf (PySem.strKind PySem.Challenge.rw_xm0732_01.row.prog w) kvs) (h13 : PyProof.V.FlatPairs PyData.str kvs lookD) : Q (.ref r) { s with heap := h', toks := tk' } := by
  refine hret _ _ _ ((r, instObj 317 d) :: (d, lookO h1 h2 h3 k1 k2 k3 V .none S) :: (V, o) :: news) F (fun p hp => ?_) ⟨r, d, V, S, o, h1, h2, h3, k1, k2, k3, rfl, rfl, h8, h9, h10, h11, kvs, h12, h13⟩
  rcases List.mem_cons.mp hp with rfl | hp
  · exact N _ h4
  · rcases List.mem_cons.mp hp with rfl | hp
    · exact N _ h5
    · rcases List.mem_cons.mp hp with rfl | hp
      · exact N _ h6
      · exact N _ (h7 _ hp)
theorem ct_first_look (w : World) (news : List (Addr × Obj)) : CtrW w 328 5 news [] (OkL w news) := by
  k_with_none; (k_with "binaryOp FloorDiv int int" => (refine floordiv_int (by first | assumption | omega) ?_ (Or.inl (dv_of_sm (by assumption))))); refine mark_use ?_; k_fill; intro _; unfold CtrW; intro mean mg mb dp un gd cn cs a ccd cl outer A₀ base h₀ L m s Q E B F X N T hk hdp hun hret
  refine wpAny_call ?_
  k_dflt (refine' code_def ?k1 ?k2 ?k3 ?k4 ?k5 ?kA ?kF ?kK ?k6 ?k7 ?k8 ?k9 ?kB ?_ ?c2 ?c3 ?c4 ?c5; (case kA => exact rfl); (case kF => exact rfl); (case kK => first | exact rfl | assumption); (case k1 => k_asm); (case k2 => k_asm); (case k3 => k_asm); (case k4 => k_asm); (case k5 => k_asm); (case k6 => k_is); (case k7 => k_is); (case k8 => ktr_room); (case k9 => first | exact BindsTo.of_eq rfl | exact binds_K (by k_in) rfl (by k_is) rfl rfl rfl); (case c5 => decide); (case kB => exact locs rfl); (case c2 => exact rfl); (case c3 => exact rfl); (case c4 => exact rfl); k_whole; intro g' L' h' FG' F' N' B' X' T'; (try dsimp only); (try k_lift B'); (try k_fold))
  k_with "call ref" => (k_here; (with_reducible show wpAny _ _ (call (Value.ref 187) _) _ _ _); (k_dflt (refine' CtrW.use (ct_handed _ _) ?k1 ?k2 ?k3 ?k4 ?k5 ?kK ?kd ?ku ?_; (case k1 => k_asm); (case k2 => k_asm); (case k3 => k_asm); (case k4 => first | k_asm | exact cb_drop (by assumption) (by kcj_all)); (case k5 => k_asm); (case kK => first | exact rfl | assumption); (case kd => ktr_room); (case ku => ktr_units); k_whole)); intro r9 h9 tk9 n9 F9 N9 ho9; (obtain ⟨d9, o9, kv9, e9, q9, l9, lo9, hd9, hf9⟩ := OkD.out ho9); clear ho9; subst e9; subst q9; (try k_lt l9); (try dsimp only); (try k_sweep); (try k_fold))
  k_with "call ref" => (k_here; (with_reducible show wpAny _ _ (call (Value.ref 194) _) _ _ _); (k_dflt (refine' CtrW.use (ct_nothanded _ _) ?k1 ?k2 ?k3 ?k4 ?k5 ?kK ?kd ?ku ?_; (case k1 => k_asm); (case k2 => k_asm); (case k3 => k_asm); (case k4 => first | k_asm | exact cb_drop (by assumption) (by kcj_all)); (case k5 => k_asm); (case kK => first | exact rfl | assumption); (case kd => ktr_room); (case ku => ktr_units); k_whole)); intro r9 h9 tk9 n9 F9 N9 ho9; (obtain ⟨d9, o9, kv9, e9, q9, l9, lo9, hd9, hf9⟩ := OkD.out ho9); clear ho9; subst e9; subst q9; (try k_lt l9); (try dsimp only); (try k_sweep); (try k_fold))
  k_with "call ref" => (k_here; k_dflt (refine' call_cls ?k1 ?k2 ?k3 ?k4 ?k5 ?k6 ?_; (case k1 => k_asm); (case k2 => k_asm); (case k3 => k_asm); (case k4 => k_is); (case k5 => k_is); (case k6 => k_is); k_whole; intro x' d' h' F' N' l1 l2; (try k_lt l1); (try k_lt2 l2); (try k_sweep); (refine' code_def ?k1 ?k2 ?k3 ?k4 ?k5 ?kA ?kF ?kK ?k6 ?k7 ?k8 ?k9 ?kB ?_ ?c2 ?c3 ?c4 ?c5; (case kA => exact rfl); (case kF => exact rfl); (case kK => first | exact rfl | assumption); (case k1 => k_asm); (case k2 => k_asm); (case k3 => k_asm); (case k4 => k_asm); (case k5 => k_asm); (case k6 => k_is); (case k7 => k_is); (case k8 => ktr_room); (case k9 => first | exact BindsTo.of_eq rfl | exact binds_K (by k_in) rfl (by k_is) rfl rfl rfl); (case c5 => decide); (case kB => exact locs rfl); (case c2 => exact rfl); (case c3 => exact rfl); (case c4 => exact rfl); k_whole; intro g' L' h' FG' F' N' B' X' T'; (try dsimp only); (try k_lift B'); (try k_fold))))
  k_steps
  all_goals (refine' okL_end hret ?e1 ?e2 ?e3 ?e4 ?e5 ?e6 ?e7 ?e8 ?e9 ?e10 ?e11 ?e12; (case e1 => k_asm); (case e2 => first | with_reducible assumption | assumption); (case e3 => k_mem); (case e4 => k_mem); (case e5 => k_mem); (case e6 => (intro p hp; repeat (first | exact hp | refine List.Mem.tail _ ?_))); (case e11 => assumption); (case e12 => assumption); (case e7 => assumption); (case e8 => omega); (case e9 => omega); (case e10 => assumption))
end SB11
section SB12
theorem ct_length_em (x : Str) (tx : Tok) (z u : Str) (a b : Int) (W P : Addr) (w0 w1 f0 f1 : Int) (t1 t2 t3 t4 : Tok) (c1 c2 : Nat) (news : List (Addr × Obj)) (hx : x.length ≤ 1000)
   (hu : unitL (Txt.strip x) unitsL = (z, u)) (hz : ∀ (tz : Tok) (nw : List (Addr × Obj)), Ctr 179 8 nw [.str z tz] (OkT nw a b)) (hW : (W, tup2 w0 w1 t1 t2 c1) ∈ news) (hP : (P, tup2 f0 f1 t3 t4 c2) ∈ news) (h1 : (u == Str.ofString "%") = false) (h2 : (u == Str.ofString "em") = true) (hb : 0 < b * f1) (hs : Sm 8000 (b * f1)) (m0 : IntMulOk a f0) (m1 : IntMulOk b f1) :
    Ctr 210 10 news [.str x tx, .ref W, .ref P] (OkT news (loT (a * f0) (b * f1)) (loB (a * f0) (b * f1))) := by
  (k_with_none; (k_with "binaryOp FloorDiv int int" => (refine floordiv_int (by first | assumption | omega) ?_ (Or.inl (dv_of_sm (by assumption))))); refine mark_use ?_; k_fill; intro _; unfold Ctr; intro w_q mean_q mg_q mb_q dp_q un_q gd_q cn_q cs_q a_q ccd_q cl_q outer_q A_q base_q h_q L_q m_q s_q Q_q E_q B_q F_q X_q N T_q hk_q hdp_q hun_q hret; refine wpAny_call ?_; k_dflt (refine' code_def ?k1 ?k2 ?k3 ?k4 ?k5 ?kA ?kF ?kK ?k6 ?k7 ?k8 ?k9 ?kB ?_ ?c2 ?c3 ?c4 ?c5; (case kA => exact rfl); (case kF => exact rfl); (case kK => assumption); (case k1 => k_asm); (case k2 => k_asm); (case k3 => k_asm); (case k4 => k_asm); (case k5 => k_asm); (case k6 => k_is); (case k7 => k_is); (case k8 => ktr_room); (case k9 => first | exact BindsTo.of_eq rfl | exact binds_K (by k_in) rfl (by k_is) rfl rfl rfl); (case c5 => decide); (case kB => exact locs rfl); (case c2 => exact rfl); (case c3 => exact rfl); (case c4 => exact rfl); k_whole; intro g_r L_r h_r FG_r F_r N_r B_r X_r T_r; (try dsimp only); (try k_lift B_r); (try k_fold); (try ((refine let_AX (P := fun AA9 => wpAny _ AA9 _ _ _ _) ?_); intro AA9))))
  have c_unit : ∀ (t : Tok) (nw : List (Addr × Obj)), Ctr 201 4 nw [.str x t] (OkS nw z u) := by
    intro t nw
    have c := ct_unit_of x t nw hx
    rw [hu] at c
    exact c
  k_with "call ref" => (k_here; (with_reducible show wpAny _ _ (call (Value.ref 201) _) _ _ _); (k_dflt (refine' Ctr.use (c_unit _ _) ?k1 ?k2 ?k3 ?k4 ?k5 ?kK ?kd ?ku ?_; (case k1 => k_asm); (case k2 => k_asm); (case k3 => k_asm); (case k4 => first | k_asm | exact cb_drop (by assumption) (by kcj_all)); (case k5 => k_asm); (case kK => first | exact rfl | assumption); (case kd => ktr_room); (case ku => ktr_units); k_whole)); intro r9 h9 tk9 n9 F9 N9 ho9; (obtain ⟨D9, t9, u9, c9, e9, q9⟩ := OkS.out ho9); clear ho9; subst q9; subst e9; (try dsimp only); (try k_sweep); (try k_fold))
  k_with "call ref" => (k_here; (with_reducible show wpAny _ _ (call (Value.ref 179) _) _ _ _); (k_dflt (refine' Ctr.use (hz _ _) ?k1 ?k2 ?k3 ?k4 ?k5 ?kK ?kd ?ku ?_; (case k1 => k_asm); (case k2 => k_asm); (case k3 => k_asm); (case k4 => first | k_asm | exact cb_drop (by assumption) (by kcj_all)); (case k5 => k_asm); (case kK => first | exact rfl | assumption); (case kd => ktr_room); (case ku => ktr_units); k_whole)); intro r9 h9 tk9 n9 F9 N9 ho9; (obtain ⟨D9, t9, u9, c9, e9, q9, l9⟩ := OkT.out ho9); clear ho9; subst q9; subst e9; (try k_lt l9); (try dsimp only); (try k_sweep); (try k_fold))
  k_with "compareOp Eq str str" => (refine eq_str_is (by assumption) ?_)
  k_with "call ref" => (k_here; (with_reducible show wpAny _ _ (call (Value.ref 88) _) _ _ _); (k_dflt (refine' Ctr.use (ct_times a b f0 f1 _ P _ _ t3 t4 _ c2 hb hs m0 m1 _ ?hx ?hy) ?k1 ?k2 ?k3 ?k4 ?k5 ?kK ?kd ?ku ?_; (case k1 => k_asm); (case k2 => k_asm); (case k3 => k_asm); (case k4 => first | k_asm | exact cb_drop (by assumption) (by kcj_all)); (case k5 => k_asm); (case kK => first | exact rfl | assumption); (case kd => ktr_room); (case ku => ktr_units); (case hx => k_mem); (case hy => k_mem); k_whole)); intro r9 h9 tk9 n9 F9 N9 ho9; (obtain ⟨D9, t9, u9, c9, e9, q9, l9⟩ := OkT.out ho9); clear ho9; subst q9; subst e9; (try k_lt l9); (try dsimp only); (try k_sweep); (try k_fold))
  k_with "execs cons" => ((with_reducible refine wpAny_execs_cons ?_); (try dsimp only); (try ((rename Fr _ _ _ _ => FF9); (revert FF9); (refine let_mX (P := fun mm9 => Fr _ _ _ mm9 → _) ?_); intro mm9 FF9)); (try k_fold))
  k_steps
  all_goals first | (exfalso; omega) | (refine' okI_end hret ?e1 ?e2 ?e3 ?e4; (case e1 => k_asm); (case e2 => first | with_reducible assumption | assumption); (case e3 => (intro p hp; repeat (first | exact hp | refine List.Mem.tail _ ?_))); (case e4 => first | rfl | assumption | ((repeat' split) <;> omega) | (simp; done))) | (refine' okT_end hret ?e1 ?e2 ?e3 ?e4 ?e5 ?e6 ?e7; (case e1 => k_asm); (case e2 => first | with_reducible assumption | assumption); (case e3 => k_mem); (case e4 => (intro p hp; repeat (first | exact hp | refine List.Mem.tail _ ?_))); (case e5 => exact ktn_ltOf (by first | exact (And.right (by with_reducible assumption)) | exact (And.right (And.right (by with_reducible assumption))) | exact (And.right (And.right (And.right (by with_reducible assumption)))) | exact (And.right (And.right (And.right (And.right (by with_reducible assumption))))) | exact (And.right (And.right (And.right (And.right (And.right (by with_reducible assumption)))))) | exact (And.right (And.right (And.right (And.right (And.right (And.right (by with_reducible assumption))))))) | exact (And.right (And.right (And.right (And.right (And.right (And.right (And.right (by with_reducible assumption)))))))) | exact (And.right (And.right (And.right (And.right (And.right (And.right (And.right (And.right (by with_reducible assumption))))))))) | exact (And.right (And.right (And.right (And.right (And.right (And.right (And.right (And.right (And.right (by with_reducible assumption)))))))))) | exact (And.right (And.right (And.right (And.right (And.right (And.right (And.right (And.right (And.right (And.right (by with_reducible assumption))))))))))) | exact (And.right (And.right (And.right (And.right (And.right (And.right (And.right (And.right (And.right (And.right (And.right (by with_reducible assumption)))))))))))) | exact (And.right (And.right (And.right (And.right (And.right (And.right (And.right (And.right (And.right (And.right (And.right (And.right (by with_reducible assumption))))))))))))) | exact (And.right (And.right (And.right (And.right (And.right (And.right (And.right (And.right (And.right (And.right (And.right (And.right (And.right (by with_reducible assumption)))))))))))))) | exact (And.right (And.right (And.right (And.right (And.right (And.right (And.right (And.right (And.right (And.right (And.right (And.right (And.right (And.right (by with_reducible assumption))))))))))))))) | ktn_lt)); (case e6 => rfl); (case e7 => rfl))
theorem ct_length_pct (x : Str) (tx : Tok) (z u : Str) (a b : Int) (W P : Addr) (w0 w1 f0 f1 : Int) (t1 t2 t3 t4 : Tok) (c1 c2 : Nat) (news : List (Addr × Obj)) (hx : x.length ≤ 1000)
   (hu : unitL (Txt.strip x) unitsL = (z, u)) (hz : ∀ (tz : Tok) (nw : List (Addr × Obj)), Ctr 179 8 nw [.str z tz] (OkT nw a b)) (hW : (W, tup2 w0 w1 t1 t2 c1) ∈ news) (hP : (P, tup2 f0 f1 t3 t4 c2) ∈ news) (h1 : (u == Str.ofString "%") = true) (hb : 0 < b * w1) (hs : Sm 8000 (b * w1)) (m0 : IntMulOk a w0) (m1 : IntMulOk b w1)
   (hb2 : 0 < loB (a * w0) (b * w1) * 100) (hs2 : Sm 8000 (loB (a * w0) (b * w1) * 100)) :
    Ctr 210 10 news [.str x tx, .ref W, .ref P] (OkT news (loT (loT (a * w0) (b * w1) * 1) (loB (a * w0) (b * w1) * 100)) (loB (loT (a * w0) (b * w1) * 1) (loB (a * w0) (b * w1) * 100))) := by
  (k_with_none; (k_with "binaryOp FloorDiv int int" => (refine floordiv_int (by first | assumption | omega) ?_ (Or.inl (dv_of_sm (by assumption))))); refine mark_use ?_; k_fill; intro _; unfold Ctr; intro w_q mean_q mg_q mb_q dp_q un_q gd_q cn_q cs_q a_q ccd_q cl_q outer_q A_q base_q h_q L_q m_q s_q Q_q E_q B_q F_q X_q N T_q hk_q hdp_q hun_q hret; refine wpAny_call ?_; k_dflt (refine' code_def ?k1 ?k2 ?k3 ?k4 ?k5 ?kA ?kF ?kK ?k6 ?k7 ?k8 ?k9 ?kB ?_ ?c2 ?c3 ?c4 ?c5; (case kA => exact rfl); (case kF => exact rfl); (case kK => assumption); (case k1 => k_asm); (case k2 => k_asm); (case k3 => k_asm); (case k4 => k_asm); (case k5 => k_asm); (case k6 => k_is); (case k7 => k_is); (case k8 => ktr_room); (case k9 => first | exact BindsTo.of_eq rfl | exact binds_K (by k_in) rfl (by k_is) rfl rfl rfl); (case c5 => decide); (case kB => exact locs rfl); (case c2 => exact rfl); (case c3 => exact rfl); (case c4 => exact rfl); k_whole; intro g_r L_r h_r FG_r F_r N_r B_r X_r T_r; (try dsimp only); (try k_lift B_r); (try k_fold); (try ((refine let_AX (P := fun AA9 => wpAny _ AA9 _ _ _ _) ?_); intro AA9))))
  have c_unit : ∀ (t : Tok) (nw : List (Addr × Obj)), Ctr 201 4 nw [.str x t] (OkS nw z u) := by
    intro t nw
    have c := ct_unit_of x t nw hx
    rw [hu] at c
    exact c
  k_with "call ref" => (k_here; (with_reducible show wpAny _ _ (call (Value.ref 201) _) _ _ _); (k_dflt (refine' Ctr.use (c_unit _ _) ?k1 ?k2 ?k3 ?k4 ?k5 ?kK ?kd ?ku ?_; (case k1 => k_asm); (case k2 => k_asm); (case k3 => k_asm); (case k4 => first | k_asm | exact cb_drop (by assumption) (by kcj_all)); (case k5 => k_asm); (case kK => first | exact rfl | assumption); (case kd => ktr_room); (case ku => ktr_units); k_whole)); intro r9 h9 tk9 n9 F9 N9 ho9; (obtain ⟨D9, t9, u9, c9, e9, q9⟩ := OkS.out ho9); clear ho9; subst q9; subst e9; (try dsimp only); (try k_sweep); (try k_fold))
  k_with "call ref" => (k_here; (with_reducible show wpAny _ _ (call (Value.ref 179) _) _ _ _); (k_dflt (refine' Ctr.use (hz _ _) ?k1 ?k2 ?k3 ?k4 ?k5 ?kK ?kd ?ku ?_; (case k1 => k_asm); (case k2 => k_asm); (case k3 => k_asm); (case k4 => first | k_asm | exact cb_drop (by assumption) (by kcj_all)); (case k5 => k_asm); (case kK => first | exact rfl | assumption); (case kd => ktr_room); (case ku => ktr_units); k_whole)); intro r9 h9 tk9 n9 F9 N9 ho9; (obtain ⟨D9, t9, u9, c9, e9, q9, l9⟩ := OkT.out ho9); clear ho9; subst q9; subst e9; (try k_lt l9); (try dsimp only); (try k_sweep); (try k_fold))
  k_with "compareOp Eq str str" => (refine eq_str_is (by assumption) ?_)
  k_with "call ref" => (k_here; (with_reducible show wpAny _ _ (call (Value.ref 88) _) _ _ _); (k_dflt (refine' Ctr.use (ct_times a b w0 w1 _ W _ _ t1 t2 _ c1 hb hs m0 m1 _ ?hx ?hy) ?k1 ?k2 ?k3 ?k4 ?k5 ?kK ?kd ?ku ?_; (case k1 => k_asm); (case k2 => k_asm); (case k3 => k_asm); (case k4 => first | k_asm | exact cb_drop (by assumption) (by kcj_all)); (case k5 => k_asm); (case kK => first | exact rfl | assumption); (case kd => ktr_room); (case ku => ktr_units); (case hx => k_mem); (case hy => k_mem); k_whole)); intro r9 h9 tk9 n9 F9 N9 ho9; (obtain ⟨D9, t9, u9, c9, e9, q9, l9⟩ := OkT.out ho9); clear ho9; subst q9; subst e9; (try k_lt l9); (try dsimp only); (try k_sweep); (try k_fold))
  k_with "call ref" => (k_here; (with_reducible show wpAny _ _ (call (Value.ref 95) _) _ _ _); (k_dflt (refine' Ctr.use (ct_divided _ _ _ _ _ _ hb2 hs2 _ ?hx) ?k1 ?k2 ?k3 ?k4 ?k5 ?kK ?kd ?ku ?_; (case k1 => k_asm); (case k2 => k_asm); (case k3 => k_asm); (case k4 => first | k_asm | exact cb_drop (by assumption) (by kcj_all)); (case k5 => k_asm); (case kK => first | exact rfl | assumption); (case kd => ktr_room); (case ku => ktr_units); (case hx => k_mem); k_whole)); intro r9 h9 tk9 n9 F9 N9 ho9; (obtain ⟨D9, t9, u9, c9, e9, q9, l9⟩ := OkT.out ho9); clear ho9; subst q9; subst e9; (try k_lt l9); (try dsimp only); (try k_sweep); (try k_fold))
  k_with "execs cons" => ((with_reducible refine wpAny_execs_cons ?_); (try dsimp only); (try ((rename Fr _ _ _ _ => FF9); (revert FF9); (refine let_mX (P := fun mm9 => Fr _ _ _ mm9 → _) ?_); intro mm9 FF9)); (try k_fold))
  k_steps
  all_goals first | (exfalso; omega) | (refine' okI_end hret ?e1 ?e2 ?e3 ?e4; (case e1 => k_asm); (case e2 => first | with_reducible assumption | assumption); (case e3 => (intro p hp; repeat (first | exact hp | refine List.Mem.tail _ ?_))); (case e4 => first | rfl | assumption | ((repeat' split) <;> omega) | (simp; done))) | (refine' okT_end hret ?e1 ?e2 ?e3 ?e4 ?e5 ?e6 ?e7; (case e1 => k_asm); (case e2 => first | with_reducible assumption | assumption); (case e3 => k_mem); (case e4 => (intro p hp; repeat (first | exact hp | refine List.Mem.tail _ ?_))); (case e5 => exact ktn_ltOf (by first | exact (And.right (by with_reducible assumption)) | exact (And.right (And.right (by with_reducible assumption))) | exact (And.right (And.right (And.right (by with_reducible assumption)))) | exact (And.right (And.right (And.right (And.right (by with_reducible assumption))))) | exact (And.right (And.right (And.right (And.right (And.right (by with_reducible assumption)))))) | exact (And.right (And.right (And.right (And.right (And.right (And.right (by with_reducible assumption))))))) | exact (And.right (And.right (And.right (And.right (And.right (And.right (And.right (by with_reducible assumption)))))))) | exact (And.right (And.right (And.right (And.right (And.right (And.right (And.right (And.right (by with_reducible assumption))))))))) | exact (And.right (And.right (And.right (And.right (And.right (And.right (And.right (And.right (And.right (by with_reducible assumption)))))))))) | exact (And.right (And.right (And.right (And.right (And.right (And.right (And.right (And.right (And.right (And.right (by with_reducible assumption))))))))))) | exact (And.right (And.right (And.right (And.right (And.right (And.right (And.right (And.right (And.right (And.right (And.right (by with_reducible assumption)))))))))))) | exact (And.right (And.right (And.right (And.right (And.right (And.right (And.right (And.right (And.right (And.right (And.right (And.right (by with_reducible assumption))))))))))))) | exact (And.right (And.right (And.right (And.right (And.right (And.right (And.right (And.right (And.right (And.right (And.right (And.right (And.right (by with_reducible assumption)))))))))))))) | exact (And.right (And.right (And.right (And.right (And.right (And.right (And.right (And.right (And.right (And.right (And.right (And.right (And.right (And.right (by with_reducible assumption))))))))))))))) | ktn_lt)); (case e6 => rfl); (case e7 => rfl))
end SB12
section SB13
def isPl (u : Str) (n d : Int) : Prop := (u = Str.ofString "" ∧ n = 1 ∧ d = 1) ∨ (u = Str.ofString "px" ∧ n = 1 ∧ d = 1) ∨ (u = Str.ofString "pt" ∧ n = 4 ∧ d = 3) ∨ (u = Str.ofString "pc" ∧ n = 16 ∧ d = 1) ∨ (u = Str.ofString "mm" ∧ n = 480 ∧ d = 127) ∨ (u = Str.ofString "cm" ∧ n = 4800 ∧ d = 127) ∨ (u = Str.ofString "in" ∧ n = 96 ∧ d = 1)
theorem ct_length_pl (x : Str) (tx : Tok) (z u : Str) (a b : Int) (vw vp : Value) (news : List (Addr × Obj)) (hx : x.length ≤ 1000)
   (hu : unitL (Txt.strip x) unitsL = (z, u)) (hz : ∀ (tz : Tok) (nw : List (Addr × Obj)), Ctr 179 8 nw [.str z tz] (OkT nw a b)) (n1 d1 : Int) (hu7 : isPl u n1 d1) (hb : 0 < b * d1) (hs : Sm 8000 (b * d1)) (m0 : IntMulOk a n1) (m1 : IntMulOk b d1) (h1 : (u == Str.ofString "%") = false) (h2 : (u == Str.ofString "em") = false) :
    Ctr 210 10 news [.str x tx, vw, vp] (OkT news (loT (a * n1) (b * d1)) (loB (a * n1) (b * d1))) := by
  unfold isPl at hu7
  (k_with_none; (k_with "binaryOp FloorDiv int int" => (refine floordiv_int (by first | assumption | omega) ?_ (Or.inl (dv_of_sm (by assumption))))); refine mark_use ?_; k_fill; intro _; unfold Ctr; intro w_q mean_q mg_q mb_q dp_q un_q gd_q cn_q cs_q a_q ccd_q cl_q outer_q A_q base_q h_q L_q m_q s_q Q_q E_q B_q F_q X_q N T_q hk_q hdp_q hun_q hret; refine wpAny_call ?_; k_dflt (refine' code_def ?k1 ?k2 ?k3 ?k4 ?k5 ?kA ?kF ?kK ?k6 ?k7 ?k8 ?k9 ?kB ?_ ?c2 ?c3 ?c4 ?c5; (case kA => exact rfl); (case kF => exact rfl); (case kK => assumption); (case k1 => k_asm); (case k2 => k_asm); (case k3 => k_asm); (case k4 => k_asm); (case k5 => k_asm); (case k6 => k_is); (case k7 => k_is); (case k8 => ktr_room); (case k9 => first | exact BindsTo.of_eq rfl | exact binds_K (by k_in) rfl (by k_is) rfl rfl rfl); (case c5 => decide); (case kB => exact locs rfl); (case c2 => exact rfl); (case c3 => exact rfl); (case c4 => exact rfl); k_whole; intro g_r L_r h_r FG_r F_r N_r B_r X_r T_r; (try dsimp only); (try k_lift B_r); (try k_fold); (try ((refine let_AX (P := fun AA9 => wpAny _ AA9 _ _ _ _) ?_); intro AA9))))
  have c_unit : ∀ (t : Tok) (nw : List (Addr × Obj)), Ctr 201 4 nw [.str x t] (OkS nw z u) := by
    intro t nw
    have c := ct_unit_of x t nw hx
    rw [hu] at c
    exact c
  k_with "call ref" => (k_here; (with_reducible show wpAny _ _ (call (Value.ref 201) _) _ _ _); (k_dflt (refine' Ctr.use (c_unit _ _) ?k1 ?k2 ?k3 ?k4 ?k5 ?kK ?kd ?ku ?_; (case k1 => k_asm); (case k2 => k_asm); (case k3 => k_asm); (case k4 => first | k_asm | exact cb_drop (by assumption) (by kcj_all)); (case k5 => k_asm); (case kK => first | exact rfl | assumption); (case kd => ktr_room); (case ku => ktr_units); k_whole)); intro r9 h9 tk9 n9 F9 N9 ho9; (obtain ⟨D9, t9, u9, c9, e9, q9⟩ := OkS.out ho9); clear ho9; subst q9; subst e9; (try dsimp only); (try k_sweep); (try k_fold))
  k_with "call ref" => (k_here; (with_reducible show wpAny _ _ (call (Value.ref 179) _) _ _ _); (k_dflt (refine' Ctr.use (hz _ _) ?k1 ?k2 ?k3 ?k4 ?k5 ?kK ?kd ?ku ?_; (case k1 => k_asm); (case k2 => k_asm); (case k3 => k_asm); (case k4 => first | k_asm | exact cb_drop (by assumption) (by kcj_all)); (case k5 => k_asm); (case kK => first | exact rfl | assumption); (case kd => ktr_room); (case ku => ktr_units); k_whole)); intro r9 h9 tk9 n9 F9 N9 ho9; (obtain ⟨D9, t9, u9, c9, e9, q9, l9⟩ := OkT.out ho9); clear ho9; subst q9; subst e9; (try k_lt l9); (try dsimp only); (try k_sweep); (try k_fold))
  k_with "compareOp Eq str str" => (refine eq_str_is (by assumption) ?_)
  k_with "eval Dict" => (k_here; k_dflt (refine' kdn_str ?q ?F ?N ?b ?a ?l ?e ?n ?_; (case q => rfl); (case F => k_asm); (case N => k_asm); (case b => exact Top.nolimit (by k_asm)); (case a => rfl); (case l => rfl); (case e => exact List.cons_ne_nil _ _); (case n => exact Nat.le_of_ble_eq_true rfl)); intro d' h' o' F' N' l1 lo' hd'; (try k_lt l1))
  k_with "KdnMade" => (k_here; k_dflt (refine' kdn_made_str ?F ?N ?U ?d ?k ?n ?_; (case F => k_asm); (case N => k_asm); (case U => k_updF); (case d => k_asm); (case k => rfl); (case n => exact of_decide_eq_true (by first | rfl | kernel_rfl!)); intro h' o' F' N' hd'); (try dsimp only at N'))
  k_with "subscriptTail" => (k_here; (rcases hu7 with ⟨e1, e2, e3⟩ | ⟨e1, e2, e3⟩ | ⟨e1, e2, e3⟩ | ⟨e1, e2, e3⟩ | ⟨e1, e2, e3⟩ | ⟨e1, e2, e3⟩ | ⟨e1, e2, e3⟩) <;> (subst e1; subst e2; subst e3; k_dflt (refine kdt_tail (knd := PySem.strKind _ _) (by k_asm) (by k_mem) (by k_asm) (kdt_getItem (knd := PySem.strKind _ _) (by k_asm) (by k_mem) (by k_asm) (strKind_is _ _ _ _) (by rfl) ?_))))
  k_with "call ref" => (k_here; (with_reducible show wpAny _ _ (call (Value.ref 88) _) _ _ _); (k_dflt (refine' Ctr.use (ct_times a b _ _ _ _ _ _ _ _ _ _ hb hs m0 m1 _ ?hx ?hy) ?k1 ?k2 ?k3 ?k4 ?k5 ?kK ?kd ?ku ?_; (case k1 => k_asm); (case k2 => k_asm); (case k3 => k_asm); (case k4 => first | k_asm | exact cb_drop (by assumption) (by kcj_all)); (case k5 => k_asm); (case kK => first | exact rfl | assumption); (case kd => ktr_room); (case ku => ktr_units); (case hx => k_mem); (case hy => k_mem); k_whole)); intro r9 h9 tk9 n9 F9 N9 ho9; (obtain ⟨D9, t9, u9, c9, e9, q9, l9⟩ := OkT.out ho9); clear ho9; subst q9; subst e9; (try k_lt l9); (try dsimp only); (try k_sweep); (try k_fold))
  k_with "execs cons" => ((with_reducible refine wpAny_execs_cons ?_); (try dsimp only); (try ((rename Fr _ _ _ _ => FF9); (revert FF9); (refine let_mX (P := fun mm9 => Fr _ _ _ mm9 → _) ?_); intro mm9 FF9)); (try k_fold))
  k_steps
  all_goals first | (exfalso; omega) | (refine' okI_end hret ?e1 ?e2 ?e3 ?e4; (case e1 => k_asm); (case e2 => first | with_reducible assumption | assumption); (case e3 => (intro p hp; repeat (first | exact hp | refine List.Mem.tail _ ?_))); (case e4 => first | rfl | assumption | ((repeat' split) <;> omega) | (simp; done))) | (refine' okT_end hret ?e1 ?e2 ?e3 ?e4 ?e5 ?e6 ?e7; (case e1 => k_asm); (case e2 => first | with_reducible assumption | assumption); (case e3 => k_mem); (case e4 => (intro p hp; repeat (first | exact hp | refine List.Mem.tail _ ?_))); (case e5 => exact ktn_ltOf (by first | exact (And.right (by with_reducible assumption)) | exact (And.right (And.right (by with_reducible assumption))) | exact (And.right (And.right (And.right (by with_reducible assumption)))) | exact (And.right (And.right (And.right (And.right (by with_reducible assumption))))) | exact (And.right (And.right (And.right (And.right (And.right (by with_reducible assumption)))))) | exact (And.right (And.right (And.right (And.right (And.right (And.right (by with_reducible assumption))))))) | exact (And.right (And.right (And.right (And.right (And.right (And.right (And.right (by with_reducible assumption)))))))) | exact (And.right (And.right (And.right (And.right (And.right (And.right (And.right (And.right (by with_reducible assumption))))))))) | exact (And.right (And.right (And.right (And.right (And.right (And.right (And.right (And.right (And.right (by with_reducible assumption)))))))))) | exact (And.right (And.right (And.right (And.right (And.right (And.right (And.right (And.right (And.right (And.right (by with_reducible assumption))))))))))) | exact (And.right (And.right (And.right (And.right (And.right (And.right (And.right (And.right (And.right (And.right (And.right (by with_reducible assumption)))))))))))) | exact (And.right (And.right (And.right (And.right (And.right (And.right (And.right (And.right (And.right (And.right (And.right (And.right (by with_reducible assumption))))))))))))) | exact (And.right (And.right (And.right (And.right (And.right (And.right (And.right (And.right (And.right (And.right (And.right (And.right (And.right (by with_reducible assumption)))))))))))))) | exact (And.right (And.right (And.right (And.right (And.right (And.right (And.right (And.right (And.right (And.right (And.right (And.right (And.right (And.right (by with_reducible assumption))))))))))))))) | ktn_lt)); (case e6 => rfl); (case e7 => rfl))
theorem ct_length_pl2 (x : Str) (tx : Tok) (z u : Str) (a b : Int) (vw : Value) (news : List (Addr × Obj)) (hx : x.length ≤ 1000)
   (hu : unitL (Txt.strip x) unitsL = (z, u)) (hz : ∀ (tz : Tok) (nw : List (Addr × Obj)), Ctr 179 8 nw [.str z tz] (OkT nw a b)) (n1 d1 : Int) (hu7 : isPl u n1 d1) (hb : 0 < b * d1) (hs : Sm 8000 (b * d1)) (m0 : IntMulOk a n1) (m1 : IntMulOk b d1) (h1 : (u == Str.ofString "%") = false) (h2 : (u == Str.ofString "em") = false) :
    Ctr 210 10 news [.str x tx, vw] (OkT news (loT (a * n1) (b * d1)) (loB (a * n1) (b * d1))) := by
  unfold isPl at hu7
  (k_with_none; (k_with "binaryOp FloorDiv int int" => (refine floordiv_int (by first | assumption | omega) ?_ (Or.inl (dv_of_sm (by assumption))))); refine mark_use ?_; k_fill; intro _; unfold Ctr; intro w_q mean_q mg_q mb_q dp_q un_q gd_q cn_q cs_q a_q ccd_q cl_q outer_q A_q base_q h_q L_q m_q s_q Q_q E_q B_q F_q X_q N T_q hk_q hdp_q hun_q hret; refine wpAny_call ?_; k_dflt (refine' code_def ?k1 ?k2 ?k3 ?k4 ?k5 ?kA ?kF ?kK ?k6 ?k7 ?k8 ?k9 ?kB ?_ ?c2 ?c3 ?c4 ?c5; (case kA => exact rfl); (case kF => exact rfl); (case kK => assumption); (case k1 => k_asm); (case k2 => k_asm); (case k3 => k_asm); (case k4 => k_asm); (case k5 => k_asm); (case k6 => k_is); (case k7 => k_is); (case k8 => ktr_room); (case k9 => first | exact BindsTo.of_eq rfl | exact binds_K (by k_in) rfl (by k_is) rfl rfl rfl); (case c5 => decide); (case kB => exact locs rfl); (case c2 => exact rfl); (case c3 => exact rfl); (case c4 => exact rfl); k_whole; intro g_r L_r h_r FG_r F_r N_r B_r X_r T_r; (try dsimp only); (try k_lift B_r); (try k_fold); (try ((refine let_AX (P := fun AA9 => wpAny _ AA9 _ _ _ _) ?_); intro AA9))))
  have c_unit : ∀ (t : Tok) (nw : List (Addr × Obj)), Ctr 201 4 nw [.str x t] (OkS nw z u) := by
    intro t nw
    have c := ct_unit_of x t nw hx
    rw [hu] at c
    exact c
  k_with "call ref" => (k_here; (with_reducible show wpAny _ _ (call (Value.ref 201) _) _ _ _); (k_dflt (refine' Ctr.use (c_unit _ _) ?k1 ?k2 ?k3 ?k4 ?k5 ?kK ?kd ?ku ?_; (case k1 => k_asm); (case k2 => k_asm); (case k3 => k_asm); (case k4 => first | k_asm | exact cb_drop (by assumption) (by kcj_all)); (case k5 => k_asm); (case kK => first | exact rfl | assumption); (case kd => ktr_room); (case ku => ktr_units); k_whole)); intro r9 h9 tk9 n9 F9 N9 ho9; (obtain ⟨D9, t9, u9, c9, e9, q9⟩ := OkS.out ho9); clear ho9; subst q9; subst e9; (try dsimp only); (try k_sweep); (try k_fold))
  k_with "call ref" => (k_here; (with_reducible show wpAny _ _ (call (Value.ref 179) _) _ _ _); (k_dflt (refine' Ctr.use (hz _ _) ?k1 ?k2 ?k3 ?k4 ?k5 ?kK ?kd ?ku ?_; (case k1 => k_asm); (case k2 => k_asm); (case k3 => k_asm); (case k4 => first | k_asm | exact cb_drop (by assumption) (by kcj_all)); (case k5 => k_asm); (case kK => first | exact rfl | assumption); (case kd => ktr_room); (case ku => ktr_units); k_whole)); intro r9 h9 tk9 n9 F9 N9 ho9; (obtain ⟨D9, t9, u9, c9, e9, q9, l9⟩ := OkT.out ho9); clear ho9; subst q9; subst e9; (try k_lt l9); (try dsimp only); (try k_sweep); (try k_fold))
  k_with "compareOp Eq str str" => (refine eq_str_is (by assumption) ?_)
  k_with "eval Dict" => (k_here; k_dflt (refine' kdn_str ?q ?F ?N ?b ?a ?l ?e ?n ?_; (case q => rfl); (case F => k_asm); (case N => k_asm); (case b => exact Top.nolimit (by k_asm)); (case a => rfl); (case l => rfl); (case e => exact List.cons_ne_nil _ _); (case n => exact Nat.le_of_ble_eq_true rfl)); intro d' h' o' F' N' l1 lo' hd'; (try k_lt l1))
  k_with "KdnMade" => (k_here; k_dflt (refine' kdn_made_str ?F ?N ?U ?d ?k ?n ?_; (case F => k_asm); (case N => k_asm); (case U => k_updF); (case d => k_asm); (case k => rfl); (case n => exact of_decide_eq_true (by first | rfl | kernel_rfl!)); intro h' o' F' N' hd'); (try dsimp only at N'))
  k_with "subscriptTail" => (k_here; (rcases hu7 with ⟨e1, e2, e3⟩ | ⟨e1, e2, e3⟩ | ⟨e1, e2, e3⟩ | ⟨e1, e2, e3⟩ | ⟨e1, e2, e3⟩ | ⟨e1, e2, e3⟩ | ⟨e1, e2, e3⟩) <;> (subst e1; subst e2; subst e3; k_dflt (refine kdt_tail (knd := PySem.strKind _ _) (by k_asm) (by k_mem) (by k_asm) (kdt_getItem (knd := PySem.strKind _ _) (by k_asm) (by k_mem) (by k_asm) (strKind_is _ _ _ _) (by rfl) ?_))))
  k_with "call ref" => (k_here; (with_reducible show wpAny _ _ (call (Value.ref 88) _) _ _ _); (k_dflt (refine' Ctr.use (ct_times a b _ _ _ _ _ _ _ _ _ _ hb hs m0 m1 _ ?hx ?hy) ?k1 ?k2 ?k3 ?k4 ?k5 ?kK ?kd ?ku ?_; (case k1 => k_asm); (case k2 => k_asm); (case k3 => k_asm); (case k4 => first | k_asm | exact cb_drop (by assumption) (by kcj_all)); (case k5 => k_asm); (case kK => first | exact rfl | assumption); (case kd => ktr_room); (case ku => ktr_units); (case hx => k_mem); (case hy => k_mem); k_whole)); intro r9 h9 tk9 n9 F9 N9 ho9; (obtain ⟨D9, t9, u9, c9, e9, q9, l9⟩ := OkT.out ho9); clear ho9; subst q9; subst e9; (try k_lt l9); (try dsimp only); (try k_sweep); (try k_fold))
  k_with "execs cons" => ((with_reducible refine wpAny_execs_cons ?_); (try dsimp only); (try ((rename Fr _ _ _ _ => FF9); (revert FF9); (refine let_mX (P := fun mm9 => Fr _ _ _ mm9 → _) ?_); intro mm9 FF9)); (try k_fold))
  k_steps
  all_goals first | (exfalso; omega) | (refine' okI_end hret ?e1 ?e2 ?e3 ?e4; (case e1 => k_asm); (case e2 => first | with_reducible assumption | assumption); (case e3 => (intro p hp; repeat (first | exact hp | refine List.Mem.tail _ ?_))); (case e4 => first | rfl | assumption | ((repeat' split) <;> omega) | (simp; done))) | (refine' okT_end hret ?e1 ?e2 ?e3 ?e4 ?e5 ?e6 ?e7; (case e1 => k_asm); (case e2 => first | with_reducible assumption | assumption); (case e3 => k_mem); (case e4 => (intro p hp; repeat (first | exact hp | refine List.Mem.tail _ ?_))); (case e5 => exact ktn_ltOf (by first | exact (And.right (by with_reducible assumption)) | exact (And.right (And.right (by with_reducible assumption))) | exact (And.right (And.right (And.right (by with_reducible assumption)))) | exact (And.right (And.right (And.right (And.right (by with_reducible assumption))))) | exact (And.right (And.right (And.right (And.right (And.right (by with_reducible assumption)))))) | exact (And.right (And.right (And.right (And.right (And.right (And.right (by with_reducible assumption))))))) | exact (And.right (And.right (And.right (And.right (And.right (And.right (And.right (by with_reducible assumption)))))))) | exact (And.right (And.right (And.right (And.right (And.right (And.right (And.right (And.right (by with_reducible assumption))))))))) | exact (And.right (And.right (And.right (And.right (And.right (And.right (And.right (And.right (And.right (by with_reducible assumption)))))))))) | exact (And.right (And.right (And.right (And.right (And.right (And.right (And.right (And.right (And.right (And.right (by with_reducible assumption))))))))))) | exact (And.right (And.right (And.right (And.right (And.right (And.right (And.right (And.right (And.right (And.right (And.right (by with_reducible assumption)))))))))))) | exact (And.right (And.right (And.right (And.right (And.right (And.right (And.right (And.right (And.right (And.right (And.right (And.right (by with_reducible assumption))))))))))))) | exact (And.right (And.right (And.right (And.right (And.right (And.right (And.right (And.right (And.right (And.right (And.right (And.right (And.right (by with_reducible assumption)))))))))))))) | exact (And.right (And.right (And.right (And.right (And.right (And.right (And.right (And.right (And.right (And.right (And.right (And.right (And.right (And.right (by with_reducible assumption))))))))))))))) | ktn_lt)); (case e6 => rfl); (case e7 => rfl))
end SB13
section SB14
def OkV (v : Value) (news n : List (Addr × Obj)) (y : Value) : Prop := n = news ∧ y = v
theorem OkV.out {v : Value} {news n : List (Addr × Obj)} {y : Value} (h : OkV v news n y) : news = n ∧ v = y := ⟨h.1.symm, h.2.symm⟩
theorem okV_end {h₀ h' : Heap} {L : Addr} {m : Str → Option Value} {news news' : List (Addr × Obj)} {s : Shared} {Q : Value → Shared → Prop} {v : Value} {tk' : Nat}
    (hret : ∀ r h' tk' news', Fr h₀ L h' m → News h₀ L h' news' → OkV v news news' r → Q r { s with heap := h', toks := tk' })
    (F : Fr h₀ L h' m) (N : News h₀ L h' news') (h7 : ∀ p ∈ news, p ∈ news') : Q v { s with heap := h', toks := tk' } := hret _ _ _ _ F (cb_drop N h7) ⟨rfl, rfl⟩
theorem ct_fs_set (r d V Z S : Addr) (a b : Int) (t u : Tok) (c : Nat) (h1 h2 h3 : Int) (k1 k2 k3 : Tok) (news : List (Addr × Obj)) (hr : (r, instObj 317 d) ∈ news) (hd : (d, lookO h1 h2 h3 k1 k2 k3 V (.ref Z) S) ∈ news) (hZ : (Z, tup2 a b t u c) ∈ news) :
    Ctr 246 2 news [.ref r] (OkV (.ref Z) news) := by
  (k_with_none; (k_with "binaryOp FloorDiv int int" => (refine floordiv_int (by first | assumption | omega) ?_ (Or.inl (dv_of_sm (by assumption))))); refine mark_use ?_; k_fill; intro _; unfold Ctr; intro w_q mean_q mg_q mb_q dp_q un_q gd_q cn_q cs_q a_q ccd_q cl_q outer_q A_q base_q h_q L_q m_q s_q Q_q E_q B_q F_q X_q N T_q hk_q hdp_q hun_q hret; refine wpAny_call ?_; k_dflt (refine' code_def ?k1 ?k2 ?k3 ?k4 ?k5 ?kA ?kF ?kK ?k6 ?k7 ?k8 ?k9 ?kB ?_ ?c2 ?c3 ?c4 ?c5; (case kA => exact rfl); (case kF => exact rfl); (case kK => assumption); (case k1 => k_asm); (case k2 => k_asm); (case k3 => k_asm); (case k4 => k_asm); (case k5 => k_asm); (case k6 => k_is); (case k7 => k_is); (case k8 => ktr_room); (case k9 => first | exact BindsTo.of_eq rfl | exact binds_K (by k_in) rfl (by k_is) rfl rfl rfl); (case c5 => decide); (case kB => exact locs rfl); (case c2 => exact rfl); (case c3 => exact rfl); (case c4 => exact rfl); k_whole; intro g_r L_r h_r FG_r F_r N_r B_r X_r T_r; (try dsimp only); (try k_lift B_r); (try k_fold)))
  k_steps
  all_goals (refine okV_end hret (by k_asm) (by assumption) ?_; (intro p hp; repeat (first | exact hp | refine List.Mem.tail _ ?_)))
theorem sm1 : Sm 1 1 := by unfold Sm; decide
theorem sm16 : Sm 5 16 := by unfold Sm; decide
theorem smV : Sm 200 1000000000000000000000000000000000000000000000000000000000000 := by unfold Sm; decide
theorem figs16 : figs (Str.ofString "16" ++ Str.ofString "") := of_decide_eq_true (p := ∀ c ∈ (Str.ofString "16" ++ Str.ofString "").cps.toList, 48 ≤ c ∧ c ≤ 57) (by kernel_rfl)
theorem sixteen (tz : Tok) (nw : List (Addr × Obj)) : Ctr 179 8 nw [.str (Str.ofString "16") tz] (OkT nw 16 1) := by
  have h := ct_rd_nodot (Str.ofString "16") tz 0 2 2 0 1 1 16 1000000000000000000000000000000000000000000000000000000000000 16000000000000000000000000000000000000000000000000000000000000 (Str.ofString "") (Str.ofString "16") (Str.ofString "") false nw (by decide) (by decide) (by decide) (by decide)
    (by kernel_rfl) (by kernel_rfl) (by kernel_rfl) (by kernel_rfl) (by kernel_rfl) rfl rfl (by kernel_rfl) figs16 (by decide) (fun h => Bool.noConfusion (h.symm.trans (by kernel_rfl : _ = false))) (by kernel_rfl) (by kernel_rfl) (by decide) (by decide) (by kernel_rfl) (by kernel_rfl) (by kernel_rfl) (by kernel_rfl) (by kernel_rfl) (by decide) (by decide)
    (Sm.ok sm16 sm1) (Sm.ok smV sm1) (Sm.ok sm16 smV) (by decide) (Sm.mono sm1) (by kernel_rfl)
  exact h
theorem ct_fs_none (w : World) (r d V S : Addr) (o : Obj) (h1 h2 h3 : Int) (k1 k2 k3 : Tok) (news : List (Addr × Obj)) (hr : (r, instObj 317 d) ∈ news) (hd : (d, lookO h1 h2 h3 k1 k2 k3 V .none S) ∈ news) (hV : (V, o) ∈ news) (hT : TabO w V o) :
    CtrW w 246 13 news [.ref r] (OkT news 16 1) := by
  obtain ⟨hVm, kvs, hT1, hT2⟩ := hT
  have hl : ∀ (t : Tok) (W : Value) (nw : List (Addr × Obj)), Ctr 210 10 nw [.str (Str.ofString "16") t, W] (OkT nw 16 1) := by
    intro t W nw
    have h := ct_length_pl2 (Str.ofString "16") t (Str.ofString "16") (Str.ofString "") 16 1 W nw (by decide) (by kernel_rfl) sixteen 1 1 (Or.inl ⟨rfl, rfl, rfl⟩) (by decide) (Sm.mono (by unfold Sm; decide : Sm 1 (1 * 1))) (Sm.ok sm16 sm1) (Sm.ok sm1 sm1) (by decide) (by decide)
    exact h
  k_with_none; (k_with "binaryOp FloorDiv int int" => (refine floordiv_int (by first | assumption | omega) ?_ (Or.inl (dv_of_sm (by assumption))))); refine mark_use ?_; k_fill; intro _; unfold CtrW; intro mean mg mb dp un gd cn cs a ccd cl outer A₀ base h₀ L m s Q E B F X N T hk hdp hun hret
  refine wpAny_call ?_
  k_dflt (refine' code_def ?k1 ?k2 ?k3 ?k4 ?k5 ?kA ?kF ?kK ?k6 ?k7 ?k8 ?k9 ?kB ?_ ?c2 ?c3 ?c4 ?c5; (case kA => exact rfl); (case kF => exact rfl); (case kK => first | exact rfl | assumption); (case k1 => k_asm); (case k2 => k_asm); (case k3 => k_asm); (case k4 => k_asm); (case k5 => k_asm); (case k6 => k_is); (case k7 => k_is); (case k8 => ktr_room); (case k9 => first | exact BindsTo.of_eq rfl | exact binds_K (by k_in) rfl (by k_is) rfl rfl rfl); (case c5 => decide); (case kB => exact locs rfl); (case c2 => exact rfl); (case c3 => exact rfl); (case c4 => exact rfl); k_whole; intro g' L' h' FG' F' N' B' X' T'; (try dsimp only); (try k_lift B'); (try k_fold))
  k_with "call ref" => (k_here; (with_reducible show wpAny _ _ (call (Value.ref 210) _) _ _ _); (k_dflt (refine' Ctr.use (hl _ _ _) ?k1 ?k2 ?k3 ?k4 ?k5 ?kK ?kd ?ku ?_; (case k1 => k_asm); (case k2 => k_asm); (case k3 => k_asm); (case k4 => first | k_asm | exact cb_drop (by assumption) (by kcj_all)); (case k5 => k_asm); (case kK => first | exact rfl | assumption); (case kd => ktr_room); (case ku => ktr_units); k_whole)); intro r9 h9 tk9 n9 F9 N9 ho9; (obtain ⟨D9, t9, u9, c9, e9, q9, l9⟩ := OkT.out ho9); clear ho9; subst q9; subst e9; (try k_lt l9); (try dsimp only); (try k_sweep); (try k_fold))
  k_steps
  all_goals first | (exfalso; omega) | (refine' okI_end hret ?e1 ?e2 ?e3 ?e4; (case e1 => k_asm); (case e2 => first | with_reducible assumption | assumption); (case e3 => (intro p hp; repeat (first | exact hp | refine List.Mem.tail _ ?_))); (case e4 => first | rfl | assumption | ((repeat' split) <;> omega) | (simp; done))) | (refine' okT_end hret ?e1 ?e2 ?e3 ?e4 ?e5 ?e6 ?e7; (case e1 => k_asm); (case e2 => first | with_reducible assumption | assumption); (case e3 => k_mem); (case e4 => (intro p hp; repeat (first | exact hp | refine List.Mem.tail _ ?_))); (case e5 => exact ktn_ltOf (by first | exact (And.right (by with_reducible assumption)) | exact (And.right (And.right (by with_reducible assumption))) | exact (And.right (And.right (And.right (by with_reducible assumption)))) | exact (And.right (And.right (And.right (And.right (by with_reducible assumption))))) | exact (And.right (And.right (And.right (And.right (And.right (by with_reducible assumption)))))) | exact (And.right (And.right (And.right (And.right (And.right (And.right (by with_reducible assumption))))))) | exact (And.right (And.right (And.right (And.right (And.right (And.right (And.right (by with_reducible assumption)))))))) | exact (And.right (And.right (And.right (And.right (And.right (And.right (And.right (And.right (by with_reducible assumption))))))))) | exact (And.right (And.right (And.right (And.right (And.right (And.right (And.right (And.right (And.right (by with_reducible assumption)))))))))) | exact (And.right (And.right (And.right (And.right (And.right (And.right (And.right (And.right (And.right (And.right (by with_reducible assumption))))))))))) | exact (And.right (And.right (And.right (And.right (And.right (And.right (And.right (And.right (And.right (And.right (And.right (by with_reducible assumption)))))))))))) | exact (And.right (And.right (And.right (And.right (And.right (And.right (And.right (And.right (And.right (And.right (And.right (And.right (by with_reducible assumption))))))))))))) | exact (And.right (And.right (And.right (And.right (And.right (And.right (And.right (And.right (And.right (And.right (And.right (And.right (And.right (by with_reducible assumption)))))))))))))) | exact (And.right (And.right (And.right (And.right (And.right (And.right (And.right (And.right (And.right (And.right (And.right (And.right (And.right (And.right (by with_reducible assumption))))))))))))))) | ktn_lt)); (case e6 => rfl); (case e7 => rfl))
end SB14
section SB15
theorem sm50 : Sm 8000 100000000000000000000000000000000000000000000000000 := by
  have h : Sm 200 100000000000000000000000000000000000000000000000000 := by unfold Sm; decide
  exact Sm.mono h
def OkM (a b : Int) (news n : List (Addr × Obj)) (r : Value) : Prop := ∃ D t u c, r = .ref D ∧ n = (D, tup2 a b t u c) :: news
theorem OkM.out {a b : Int} {news n : List (Addr × Obj)} {r : Value} (h : OkM a b news n r) : ∃ D t u c, (D, { cls := .type "tuple", data := .seq #[.int a t, .int b u] c }) :: news = n ∧ .ref D = r := let ⟨D, t, u, c, x, y⟩ := h; ⟨D, t, u, c, y.symm, x.symm⟩
theorem Ctr.toW {f : Addr} {dn : Nat} {news : List (Addr × Obj)} {vs : List Value} {Ok : List (Addr × Obj) → Value → Prop} (C : Ctr f dn news vs Ok) (w : World) : CtrW w f dn news vs Ok := fun mean => C w mean
theorem CtrW.mono {w : World} {f : Addr} {dn dn' : Nat} {news : List (Addr × Obj)} {vs : List Value} {Ok Ok' : List (Addr × Obj) → Value → Prop} (C : CtrW w f dn news vs Ok) (hd : dn ≤ dn') (h : ∀ n r, Ok n r → (∀ p ∈ news, p ∈ n) → Ok' n r) (hs : ∀ n r, Ok n r → ∀ p ∈ news, p ∈ n) : CtrW w f dn' news vs Ok' :=
  fun mean mg mb dp un gd cn cs a ccd cl outer A₀ base h₀ L m s Q E B F X N T hk hdp hun ret => C mean mg mb dp un gd cn cs a ccd cl outer A₀ base h₀ L m s Q E B F X N T hk (by omega) (by omega) fun r h' tk' n' F' N' o => ret r h' tk' n' F' N' (h n' r o (hs n' r o))
theorem ct_own_small (w : World) (x : Str) (tx : Tok) (r d V S : Addr) (sz : Value) (f0 f1 a b : Int) (h1 h2 h3 : Int) (k1 k2 k3 : Tok) (news : List (Addr × Obj)) (hr : (r, instObj 317 d) ∈ news) (hd : (d, lookO h1 h2 h3 k1 k2 k3 V sz S) ∈ news)
   (hfs : ∀ nw, (∀ p ∈ news, p ∈ nw) → CtrW w 246 13 nw [.ref r] (OkM f0 f1 nw))
   (hl : ∀ (t : Tok) (W P : Addr) (t1 t2 t3 t4 : Tok) (c1 c2 : Nat) (nw : List (Addr × Obj)), (W, tup2 f0 f1 t1 t2 c1) ∈ nw → (P, tup2 f0 f1 t3 t4 c2) ∈ nw → Ctr 210 10 nw [.str x t, .ref W, .ref P] (OkT nw a b))
   (ha : 0 ≤ a) (hb : 0 < b) (m0 : IntMulOk a 1) (m1 : IntMulOk 0 b) (m2 : IntMulOk 100000000000000000000000000000000000000000000000000 b) (hlt : a < 100000000000000000000000000000000000000000000000000 * b) (hsm : b ≤ 100000000000000000000000000000000000000000000000000) :
    CtrW w 335 16 news [.str x tx, .ref r] (OkT news a b) := by
  k_with_none; (k_with "binaryOp FloorDiv int int" => (refine floordiv_int (by first | assumption | omega) ?_ (Or.inl (dv_of_sm (by assumption))))); refine mark_use ?_; k_fill; intro _; unfold CtrW; intro mean mg mb dp un gd cn cs a ccd cl outer A₀ base h₀ L m s Q E B F X N T hk hdp hun hret
  refine wpAny_call ?_
  k_dflt (refine' code_def ?k1 ?k2 ?k3 ?k4 ?k5 ?kA ?kF ?kK ?k6 ?k7 ?k8 ?k9 ?kB ?_ ?c2 ?c3 ?c4 ?c5; (case kA => exact rfl); (case kF => exact rfl); (case kK => first | exact rfl | assumption); (case k1 => k_asm); (case k2 => k_asm); (case k3 => k_asm); (case k4 => k_asm); (case k5 => k_asm); (case k6 => k_is); (case k7 => k_is); (case k8 => ktr_room); (case k9 => first | exact BindsTo.of_eq rfl | exact binds_K (by k_in) rfl (by k_is) rfl rfl rfl); (case c5 => decide); (case kB => exact locs rfl); (case c2 => exact rfl); (case c3 => exact rfl); (case c4 => exact rfl); k_whole; intro g' L' h' FG' F' N' B' X' T'; (try dsimp only); (try k_lift B'); (try k_fold); (try ((refine let_AX (P := fun AA9 => wpAny _ AA9 _ _ _ _) ?_); intro AA9)))
  k_with "call ref" => (k_here; (with_reducible show wpAny _ _ (call (Value.ref 246) _) _ _ _); (k_dflt (refine' CtrW.use (hfs _ ?hq) ?k1 ?k2 ?k3 ?k4 ?k5 ?kK ?kd ?ku ?_; (case k1 => k_asm); (case k2 => k_asm); (case k3 => k_asm); (case k4 => first | k_asm | exact cb_drop (by assumption) (by kcj_all)); (case k5 => k_asm); (case kK => first | exact rfl | assumption); (case kd => ktr_room); (case ku => ktr_units); (case hq => (intro p hp; repeat (first | exact hp | refine List.Mem.tail _ ?_))); k_whole)); intro r9 h9 tk9 n9 F9 N9 ho9; (obtain ⟨D9, t9, u9, c9, e9, q9⟩ := OkM.out ho9); clear ho9; subst q9; subst e9; (try dsimp only); (try k_sweep); (try k_fold))
  k_with "call ref" => (k_here; (with_reducible show wpAny _ _ (call (Value.ref 210) _) _ _ _); (k_dflt (refine' Ctr.use (hl _ _ _ _ _ _ _ _ _ _ ?hx ?hy) ?k1 ?k2 ?k3 ?k4 ?k5 ?kK ?kd ?ku ?_; (case k1 => k_asm); (case k2 => k_asm); (case k3 => k_asm); (case k4 => first | k_asm | exact cb_drop (by assumption) (by kcj_all)); (case k5 => k_asm); (case kK => first | exact rfl | assumption); (case kd => ktr_room); (case ku => ktr_units); (case hx => k_mem); (case hy => k_mem); k_whole)); intro r9 h9 tk9 n9 F9 N9 ho9; (obtain ⟨D9, t9, u9, c9, e9, q9, l9⟩ := OkT.out ho9); clear ho9; subst q9; subst e9; (try k_lt l9); (try dsimp only); (try k_sweep); (try k_fold))
  k_with "call ref" => (k_here; (with_reducible show wpAny _ _ (call (Value.ref 109) _) _ _ _); (k_dflt (refine' Ctr.use (ct_compare _ _ _ _ _ _ _ ?hx m0 m1) ?k1 ?k2 ?k3 ?k4 ?k5 ?kK ?kd ?ku ?_; (case k1 => k_asm); (case k2 => k_asm); (case k3 => k_asm); (case k4 => first | k_asm | exact cb_drop (by assumption) (by kcj_all)); (case k5 => k_asm); (case kK => first | exact rfl | assumption); (case kd => ktr_room); (case ku => ktr_units); (case hx => k_mem); k_whole)); intro r9 h9 tk9 n9 F9 N9 ho9; (obtain ⟨e9, t9, q9⟩ := OkI.out ho9); clear ho9; subst e9; subst q9; (try dsimp only); (try k_sweep); (try k_fold))
  k_with "execs cons" => ((with_reducible refine wpAny_execs_cons ?_); (try dsimp only); (try ((rename Fr _ _ _ _ => FF9); (revert FF9); (refine let_mX (P := fun mm9 => Fr _ _ _ mm9 → _) ?_); intro mm9 FF9)))
  (repeat' (first | (k_unfold; (try dsimp only)) | (k_end; wrow_close) | (walk1; (try k_fold)) | (dsimp only; walk1; (try k_fold)) | (leave1; (try dsimp only)) | fail "no step"))
  all_goals first | (exfalso; omega) | (refine' okI_end hret ?e1 ?e2 ?e3 ?e4; (case e1 => k_asm); (case e2 => first | with_reducible assumption | assumption); (case e3 => (intro p hp; repeat (first | exact hp | refine List.Mem.tail _ ?_))); (case e4 => first | rfl | assumption | ((repeat' split) <;> omega) | (simp; done))) | (refine' okT_end hret ?e1 ?e2 ?e3 ?e4 ?e5 ?e6 ?e7; (case e1 => k_asm); (case e2 => first | with_reducible assumption | assumption); (case e3 => k_mem); (case e4 => (intro p hp; repeat (first | exact hp | refine List.Mem.tail _ ?_))); (case e5 => exact ktn_ltOf (by first | exact (And.right (by with_reducible assumption)) | exact (And.right (And.right (by with_reducible assumption))) | exact (And.right (And.right (And.right (by with_reducible assumption)))) | exact (And.right (And.right (And.right (And.right (by with_reducible assumption))))) | exact (And.right (And.right (And.right (And.right (And.right (by with_reducible assumption)))))) | exact (And.right (And.right (And.right (And.right (And.right (And.right (by with_reducible assumption))))))) | exact (And.right (And.right (And.right (And.right (And.right (And.right (And.right (by with_reducible assumption)))))))) | exact (And.right (And.right (And.right (And.right (And.right (And.right (And.right (And.right (by with_reducible assumption))))))))) | exact (And.right (And.right (And.right (And.right (And.right (And.right (And.right (And.right (And.right (by with_reducible assumption)))))))))) | exact (And.right (And.right (And.right (And.right (And.right (And.right (And.right (And.right (And.right (And.right (by with_reducible assumption))))))))))) | exact (And.right (And.right (And.right (And.right (And.right (And.right (And.right (And.right (And.right (And.right (And.right (by with_reducible assumption)))))))))))) | exact (And.right (And.right (And.right (And.right (And.right (And.right (And.right (And.right (And.right (And.right (And.right (And.right (by with_reducible assumption))))))))))))) | exact (And.right (And.right (And.right (And.right (And.right (And.right (And.right (And.right (And.right (And.right (And.right (And.right (And.right (by with_reducible assumption)))))))))))))) | exact (And.right (And.right (And.right (And.right (And.right (And.right (And.right (And.right (And.right (And.right (And.right (And.right (And.right (And.right (by with_reducible assumption))))))))))))))) | ktn_lt)); (case e6 => rfl); (case e7 => rfl))
theorem ct_own_big (w : World) (x : Str) (tx : Tok) (r d V S : Addr) (sz : Value) (f0 f1 a b : Int) (h1 h2 h3 : Int) (k1 k2 k3 : Tok) (news : List (Addr × Obj)) (hr : (r, instObj 317 d) ∈ news) (hd : (d, lookO h1 h2 h3 k1 k2 k3 V sz S) ∈ news)
   (hfs : ∀ nw, (∀ p ∈ news, p ∈ nw) → CtrW w 246 13 nw [.ref r] (OkM f0 f1 nw))
   (hl : ∀ (t : Tok) (W P : Addr) (t1 t2 t3 t4 : Tok) (c1 c2 : Nat) (nw : List (Addr × Obj)), (W, tup2 f0 f1 t1 t2 c1) ∈ nw → (P, tup2 f0 f1 t3 t4 c2) ∈ nw → Ctr 210 10 nw [.str x t, .ref W, .ref P] (OkT nw a b))
   (ha : 0 ≤ a) (hb : 0 < b) (m0 : IntMulOk a 1) (m1 : IntMulOk 0 b) (m2 : IntMulOk 100000000000000000000000000000000000000000000000000 b) (hlt : a < 100000000000000000000000000000000000000000000000000 * b) (hsm : ¬ b ≤ 100000000000000000000000000000000000000000000000000) (m3 : IntMulOk a 100000000000000000000000000000000000000000000000000) (m4 : IntMulOk b 1) (hs : Sm 7000 b) (r0 r1 : Int) (hr0 : r0 = loT (a * 100000000000000000000000000000000000000000000000000) (b * 1)) (hr1 : r1 = loB (a * 100000000000000000000000000000000000000000000000000) (b * 1)) (hrp : 0 < 2 * r1) (hrs : Sm 8000 (2 * r1)) :
    CtrW w 335 16 news [.str x tx, .ref r] (OkT news (loT (Int.fdiv (2 * r0 + r1) (2 * r1)) 100000000000000000000000000000000000000000000000000) (loB (Int.fdiv (2 * r0 + r1) (2 * r1)) 100000000000000000000000000000000000000000000000000)) := by
  have hb1 : 0 < b * 1 := by omega
  have hs1 : Sm 8000 (b * 1) := by rw [Int.mul_one]; exact Sm.mono hs
  subst hr0
  subst hr1
  k_with_none; (k_with "binaryOp FloorDiv int int" => (refine floordiv_int (by first | assumption | omega) ?_ (Or.inl (dv_of_sm (by assumption))))); refine mark_use ?_; k_fill; intro _; unfold CtrW; intro mean mg mb dp un gd cn cs a ccd cl outer A₀ base h₀ L m s Q E B F X N T hk hdp hun hret
  refine wpAny_call ?_
  k_dflt (refine' code_def ?k1 ?k2 ?k3 ?k4 ?k5 ?kA ?kF ?kK ?k6 ?k7 ?k8 ?k9 ?kB ?_ ?c2 ?c3 ?c4 ?c5; (case kA => exact rfl); (case kF => exact rfl); (case kK => first | exact rfl | assumption); (case k1 => k_asm); (case k2 => k_asm); (case k3 => k_asm); (case k4 => k_asm); (case k5 => k_asm); (case k6 => k_is); (case k7 => k_is); (case k8 => ktr_room); (case k9 => first | exact BindsTo.of_eq rfl | exact binds_K (by k_in) rfl (by k_is) rfl rfl rfl); (case c5 => decide); (case kB => exact locs rfl); (case c2 => exact rfl); (case c3 => exact rfl); (case c4 => exact rfl); k_whole; intro g' L' h' FG' F' N' B' X' T'; (try dsimp only); (try k_lift B'); (try k_fold); (try ((refine let_AX (P := fun AA9 => wpAny _ AA9 _ _ _ _) ?_); intro AA9)))
  k_with "call ref" => (k_here; (with_reducible show wpAny _ _ (call (Value.ref 246) _) _ _ _); (k_dflt (refine' CtrW.use (hfs _ ?hq) ?k1 ?k2 ?k3 ?k4 ?k5 ?kK ?kd ?ku ?_; (case k1 => k_asm); (case k2 => k_asm); (case k3 => k_asm); (case k4 => first | k_asm | exact cb_drop (by assumption) (by kcj_all)); (case k5 => k_asm); (case kK => first | exact rfl | assumption); (case kd => ktr_room); (case ku => ktr_units); (case hq => (intro p hp; repeat (first | exact hp | refine List.Mem.tail _ ?_))); k_whole)); intro r9 h9 tk9 n9 F9 N9 ho9; (obtain ⟨D9, t9, u9, c9, e9, q9⟩ := OkM.out ho9); clear ho9; subst q9; subst e9; (try dsimp only); (try k_sweep); (try k_fold))
  k_with "call ref" => (k_here; (with_reducible show wpAny _ _ (call (Value.ref 210) _) _ _ _); (k_dflt (refine' Ctr.use (hl _ _ _ _ _ _ _ _ _ _ ?hx ?hy) ?k1 ?k2 ?k3 ?k4 ?k5 ?kK ?kd ?ku ?_; (case k1 => k_asm); (case k2 => k_asm); (case k3 => k_asm); (case k4 => first | k_asm | exact cb_drop (by assumption) (by kcj_all)); (case k5 => k_asm); (case kK => first | exact rfl | assumption); (case kd => ktr_room); (case ku => ktr_units); (case hx => k_mem); (case hy => k_mem); k_whole)); intro r9 h9 tk9 n9 F9 N9 ho9; (obtain ⟨D9, t9, u9, c9, e9, q9, l9⟩ := OkT.out ho9); clear ho9; subst q9; subst e9; (try k_lt l9); (try dsimp only); (try k_sweep); (try k_fold))
  k_with "call ref" => (k_here; (with_reducible show wpAny _ _ (call (Value.ref 109) _) _ _ _); (k_dflt (refine' Ctr.use (ct_compare _ _ _ _ _ _ _ ?hx m0 m1) ?k1 ?k2 ?k3 ?k4 ?k5 ?kK ?kd ?ku ?_; (case k1 => k_asm); (case k2 => k_asm); (case k3 => k_asm); (case k4 => first | k_asm | exact cb_drop (by assumption) (by kcj_all)); (case k5 => k_asm); (case kK => first | exact rfl | assumption); (case kd => ktr_room); (case ku => ktr_units); (case hx => k_mem); k_whole)); intro r9 h9 tk9 n9 F9 N9 ho9; (obtain ⟨e9, t9, q9⟩ := OkI.out ho9); clear ho9; subst e9; subst q9; (try dsimp only); (try k_sweep); (try k_fold))
  k_with "call ref" => (k_here; (with_reducible show wpAny _ _ (call (Value.ref 88) _) _ _ _); (k_dflt (refine' Ctr.use (ct_times _ _ _ _ _ _ _ _ _ _ _ _ hb1 hs1 m3 m4 _ ?hx ?hy) ?k1 ?k2 ?k3 ?k4 ?k5 ?kK ?kd ?ku ?_; (case k1 => k_asm); (case k2 => k_asm); (case k3 => k_asm); (case k4 => first | k_asm | exact cb_drop (by assumption) (by kcj_all)); (case k5 => k_asm); (case kK => first | exact rfl | assumption); (case kd => ktr_room); (case ku => ktr_units); (case hx => k_mem); (case hy => k_mem); k_whole)); intro r9 h9 tk9 n9 F9 N9 ho9; (obtain ⟨D9, t9, u9, c9, e9, q9, l9⟩ := OkT.out ho9); clear ho9; subst q9; subst e9; (try k_lt l9); (try dsimp only); (try k_sweep); (try k_fold))
  k_with "call ref" => (k_here; (with_reducible show wpAny _ _ (call (Value.ref 116) _) _ _ _); (k_dflt (refine' Ctr.use (ct_rounded _ _ _ _ _ _ _ ?hx hrp hrs) ?k1 ?k2 ?k3 ?k4 ?k5 ?kK ?kd ?ku ?_; (case k1 => k_asm); (case k2 => k_asm); (case k3 => k_asm); (case k4 => first | k_asm | exact cb_drop (by assumption) (by kcj_all)); (case k5 => k_asm); (case kK => first | exact rfl | assumption); (case kd => ktr_room); (case ku => ktr_units); (case hx => k_mem); k_whole)); intro r9 h9 tk9 n9 F9 N9 ho9; (obtain ⟨e9, t9, q9⟩ := OkI.out ho9); clear ho9; subst e9; subst q9; (try dsimp only); (try k_sweep); (try k_fold))
  k_with "call ref" => (k_here; (with_reducible show wpAny _ _ (call (Value.ref 81) _) _ _ _); (k_dflt (refine' Ctr.use (ct_fraction' _ 100000000000000000000000000000000000000000000000000 (by decide) sm50 _ _ _) ?k1 ?k2 ?k3 ?k4 ?k5 ?kK ?kd ?ku ?_; (case k1 => k_asm); (case k2 => k_asm); (case k3 => k_asm); (case k4 => first | k_asm | exact cb_drop (by assumption) (by kcj_all)); (case k5 => k_asm); (case kK => first | exact rfl | assumption); (case kd => ktr_room); (case ku => ktr_units); k_whole)); intro r9 h9 tk9 n9 F9 N9 ho9; (obtain ⟨D9, t9, u9, c9, e9, q9, l9⟩ := OkT.out ho9); clear ho9; subst q9; subst e9; (try k_lt l9); (try dsimp only); (try k_sweep); (try k_fold))
  k_with "execs cons" => ((with_reducible refine wpAny_execs_cons ?_); (try dsimp only); (try ((rename Fr _ _ _ _ => FF9); (revert FF9); (refine let_mX (P := fun mm9 => Fr _ _ _ mm9 → _) ?_); intro mm9 FF9)))
  (repeat' (first | (k_unfold; (try dsimp only)) | (k_end; wrow_close) | (walk1; (try k_fold)) | (dsimp only; walk1; (try k_fold)) | (leave1; (try dsimp only)) | fail "no step"))
  all_goals first | (exfalso; omega) | (refine' okI_end hret ?e1 ?e2 ?e3 ?e4; (case e1 => k_asm); (case e2 => first | with_reducible assumption | assumption); (case e3 => (intro p hp; repeat (first | exact hp | refine List.Mem.tail _ ?_))); (case e4 => first | rfl | assumption | ((repeat' split) <;> omega) | (simp; done))) | (refine' okT_end hret ?e1 ?e2 ?e3 ?e4 ?e5 ?e6 ?e7; (case e1 => k_asm); (case e2 => first | with_reducible assumption | assumption); (case e3 => k_mem); (case e4 => (intro p hp; repeat (first | exact hp | refine List.Mem.tail _ ?_))); (case e5 => exact ktn_ltOf (by first | exact (And.right (by with_reducible assumption)) | exact (And.right (And.right (by with_reducible assumption))) | exact (And.right (And.right (And.right (by with_reducible assumption)))) | exact (And.right (And.right (And.right (And.right (by with_reducible assumption))))) | exact (And.right (And.right (And.right (And.right (And.right (by with_reducible assumption)))))) | exact (And.right (And.right (And.right (And.right (And.right (And.right (by with_reducible assumption))))))) | exact (And.right (And.right (And.right (And.right (And.right (And.right (And.right (by with_reducible assumption)))))))) | exact (And.right (And.right (And.right (And.right (And.right (And.right (And.right (And.right (by with_reducible assumption))))))))) | exact (And.right (And.right (And.right (And.right (And.right (And.right (And.right (And.right (And.right (by with_reducible assumption)))))))))) | exact (And.right (And.right (And.right (And.right (And.right (And.right (And.right (And.right (And.right (And.right (by with_reducible assumption))))))))))) | exact (And.right (And.right (And.right (And.right (And.right (And.right (And.right (And.right (And.right (And.right (And.right (by with_reducible assumption)))))))))))) | exact (And.right (And.right (And.right (And.right (And.right (And.right (And.right (And.right (And.right (And.right (And.right (And.right (by with_reducible assumption))))))))))))) | exact (And.right (And.right (And.right (And.right (And.right (And.right (And.right (And.right (And.right (And.right (And.right (And.right (And.right (by with_reducible assumption)))))))))))))) | exact (And.right (And.right (And.right (And.right (And.right (And.right (And.right (And.right (And.right (And.right (And.right (And.right (And.right (And.right (by with_reducible assumption))))))))))))))) | ktn_lt)); (case e6 => rfl); (case e7 => rfl))
end SB15
section SX1
/-- the third field is kept -/
def F2 (o o' : Obj) : Prop := ∀ vs, o.data = .fields vs → ∃ vs', o'.data = .fields vs' ∧ vs'[2]? = vs[2]?
theorem F2.refl (o : Obj) : F2 o o := fun vs e => ⟨vs, e, rfl⟩
theorem F2.trans {a b c : Obj} (x : F2 a b) (y : F2 b c) : F2 a c := fun vs e => by
  obtain ⟨v1, e1, q1⟩ := x vs e
  obtain ⟨v2, e2, q2⟩ := y v1 e1
  exact ⟨v2, e2, q2.trans q1⟩
def DK (h h' : Heap) : Prop := ∀ b o, h.get? b = some o → ∃ o', h'.get? b = some o' ∧ o'.dict = o.dict ∧ F2 o o'
theorem DK.refl (h : Heap) : DK h h := fun _ o e => ⟨o, e, rfl, F2.refl o⟩
theorem DK.trans {h h' h'' : Heap} (x : DK h h') (y : DK h' h'') : DK h h'' := fun b o e => by
  obtain ⟨o1, e1, d1, f1⟩ := x b o e
  obtain ⟨o2, e2, d2, f2⟩ := y b o1 e1
  exact ⟨o2, e2, d2.trans d1, f1.trans f2⟩
theorem DK.update {h : Heap} {a : Addr} {f : Obj → Obj} (hd : ∀ o, (f o).dict = o.dict ∧ (f o).isFreed = o.isFreed ∧ F2 o (f o)) : DK h (h.update a f) := fun b o e => by
  by_cases q : a = b
  · subst q
    exact ⟨f o, Heap.get?_update_self f e ((hd o).2.1.trans (Heap.get?_some_iff.mp e).2), (hd o).1, (hd o).2.2⟩
  · exact ⟨o, (Heap.get?_update_other h f q).trans e, rfl, F2.refl o⟩
theorem DK.push {h : Heap} {x : Obj} : DK h (h.push x) := fun b o e => ⟨o, Heap.get?_push_of_some x e, rfl, F2.refl o⟩
def Safe {α : Type} (t : Sem α) : Prop := ∀ (M : Model) (Γ : Ctx) (Q : α → Pos → Shared → Prop) (E : Value → Pos → Shared → Prop) (p : Pos) (s : Shared),
  Sem.wp M Γ t Q E p s → Sem.wp M Γ t (fun a p' s' => DK s.heap s'.heap ∧ Q a p' s') E p s
theorem Safe.pure {α : Type} {a : α} : Safe (Sem.pure a) := fun _ _ _ _ _ s h => ⟨DK.refl s.heap, h⟩
theorem Safe.pure' {α : Type} {a : α} : Safe (Pure.pure a : Sem α) := Safe.pure
theorem Safe.uns {α : Type} {w : String} : Safe (unsupported w : Sem α) := fun _ _ _ _ _ _ h => h.elim
theorem Safe.bind {α β : Type} {t : Sem α} {f : α → Sem β} (x : Safe t) (y : ∀ a, Safe (f a)) : Safe (t >>= f) := fun M Γ Q E p s h => by
  rw [Sem.wp_bind'] at h ⊢
  refine Sem.wp_mono M Γ t (fun a p' s' h' => ?_) (fun _ _ _ h' => h') p s (x M Γ _ _ p s h)
  exact Sem.wp_mono M Γ (f a) (fun b p'' s'' h'' => ⟨h'.1.trans h''.1, h''.2⟩) (fun _ _ _ h' => h') p' s' (y a M Γ _ _ p' s' h'.2)
theorem Safe.load {a : Addr} : Safe (load a) := fun M Γ Q E p s h => by
  obtain ⟨o, e, h⟩ := h
  exact ⟨o, e, DK.refl s.heap, h⟩
theorem Safe.stack : Safe stack := fun M Γ Q E p s h => ⟨DK.refl s.heap, h⟩
theorem Safe.update {a : Addr} {f : Obj → Obj} (hd : ∀ o, (f o).dict = o.dict ∧ (f o).isFreed = o.isFreed ∧ F2 o (f o)) : Safe (update a f) := fun M Γ Q E p s h => ⟨h.1, DK.update hd, h.2⟩
theorem Safe.updatePart {a : Addr} {pt : Option Value} {f : Obj → Obj} (hd : ∀ o, (f o).dict = o.dict ∧ (f o).isFreed = o.isFreed ∧ F2 o (f o)) : Safe (updatePart a pt f) := fun M Γ Q E p s h => ⟨h.1, DK.update hd, h.2⟩
theorem Safe.alloc {o : Obj} : Safe (alloc o) := fun M Γ Q E p s h => ⟨DK.push, h⟩
theorem Safe.ite {α : Type} {c : Prop} [Decidable c] {a b : Sem α} (x : Safe a) (y : Safe b) : Safe (if c then a else b) := by split; exact x; exact y
theorem Safe.map {α β : Type} {t : Sem α} {f : α → β} (x : Safe t) : Safe (f <$> t) := fun M Γ Q E p s h => by
  rw [Sem.wp_map] at h ⊢
  exact x M Γ _ E p s h
theorem mapFields_ok {i : Nat} (hi : i ≠ 2) (x : Value) (o : Obj) : (Obj.mapFields (·.setIfInBounds i x) o).dict = o.dict ∧ (Obj.mapFields (·.setIfInBounds i x) o).isFreed = o.isFreed ∧ F2 o (Obj.mapFields (·.setIfInBounds i x) o) := by
  obtain ⟨c, d, dt, sl⟩ := o
  cases dt
  case fields => exact ⟨rfl, rfl, fun vs e => ⟨_, rfl, by cases e; rw [Array.getElem?_setIfInBounds_ne hi]⟩⟩
  all_goals exact ⟨rfl, rfl, fun vs e => nomatch e⟩
theorem Safe.fieldsOf (v : Value) : Safe (fieldsOf v) := by
  unfold PySem.fieldsOf
  split
  · refine Safe.bind Safe.load fun o => ?_
    split
    · exact Safe.pure'
    · exact Safe.uns
  · exact Safe.uns
theorem Safe.field (v : Value) (i : Nat) : Safe (field v i) := by
  unfold PySem.field
  refine Safe.bind (Safe.fieldsOf v) fun o => ?_
  split
  · exact Safe.pure'
  · exact Safe.uns
theorem Safe.setField (v : Value) (i : Nat) (x : Value) (hi : i ≠ 2) : Safe (setField v i x) := by
  unfold PySem.setField
  split
  · unfold PySem.updateField
    refine Safe.bind Safe.load fun o => ?_
    split
    · exact Safe.ite (Safe.update fun o => mapFields_ok hi _ o) Safe.uns
    · exact Safe.uns
  · exact Safe.uns
theorem Safe.newEntry (a b c d e : Value) (l : List Value) : Safe (EntryCells.newEntry a b c d e l) := by
  unfold EntryCells.newEntry newFields newObj newObjAsIs
  ((try dsimp only); repeat' (first | exact Safe.pure' | exact Safe.uns | exact Safe.load | exact Safe.stack | exact Safe.alloc | assumption | refine Safe.bind ?_ (fun _ => ?_) | refine Safe.map ?_ | refine Safe.ite ?_ ?_ | split | dsimp only))
theorem Safe.behind (env : Env) (outer : List Env) : Safe (behindIsImport env outer) := by
  unfold behindIsImport
  have := Safe.field env.code 12
  ((try dsimp only); repeat' (first | exact Safe.pure' | exact Safe.uns | exact Safe.load | exact Safe.stack | exact Safe.alloc | assumption | refine Safe.bind ?_ (fun _ => ?_) | refine Safe.map ?_ | refine Safe.ite ?_ ?_ | split | dsimp only))
theorem Safe.kept (env : Env) (b : Bool) : ∀ l : List Env, Safe (keptBack env b l)
  | [] => by unfold keptBack underTheClaimsCaller; ((try dsimp only); repeat' (first | exact Safe.pure' | exact Safe.uns | exact Safe.load | exact Safe.stack | exact Safe.alloc | assumption | refine Safe.bind ?_ (fun _ => ?_) | refine Safe.map ?_ | refine Safe.ite ?_ ?_ | split | dsimp only))
  | _ :: _ => by unfold keptBack; ((try dsimp only); repeat' (first | exact Safe.pure' | exact Safe.uns | exact Safe.load | exact Safe.stack | exact Safe.alloc | assumption | refine Safe.bind ?_ (fun _ => ?_) | refine Safe.map ?_ | refine Safe.ite ?_ ?_ | split | dsimp only))
theorem Safe.ready : ∀ l : List Env, Safe (readyFrames l)
  | [] => Safe.pure'
  | env :: outer => by
    have h1 := Safe.ready outer
    have h2 := Safe.behind env outer
    have h3 : ∀ b, Safe (keptBack env b outer) := fun b => Safe.kept env b outer
    unfold readyFrames
    ((try dsimp only); repeat' (first | exact Safe.pure' | exact Safe.uns | exact Safe.load | exact Safe.stack | exact Safe.alloc | assumption | refine Safe.bind ?_ (fun _ => ?_) | refine Safe.map ?_ | refine Safe.ite ?_ ?_ | split | dsimp only))
    all_goals first | exact h3 _ | (refine Safe.update fun o => ⟨rfl, ?_, fun vs e => ⟨vs, e, rfl⟩⟩; obtain ⟨c, d, dt, sl⟩ := o; cases dt <;> rfl)
theorem Safe.frameOf (env : Env) : Safe (frameOf env) := by
  have h1 : ∀ l, Safe (readyFrames l) := Safe.ready
  have h2 : ∀ l, Safe (frameObject l) := fun l => by
    cases l with
    | nil => exact Safe.pure'
    | cons e l => unfold frameObject; exact Safe.bind (h1 _) fun _ => Safe.pure'
  unfold PySem.frameOf frameEnvs
  refine Safe.bind (Safe.bind Safe.stack fun _ => Safe.pure') fun _ => Safe.bind (h2 _) fun _ => ?_
  ((try dsimp only); repeat' (first | exact Safe.pure' | exact Safe.uns | exact Safe.load | exact Safe.stack | exact Safe.alloc | assumption | refine Safe.bind ?_ (fun _ => ?_) | refine Safe.map ?_ | refine Safe.ite ?_ ?_ | split | dsimp only))
theorem Safe.place (f : Addr) (b : Bool) : Safe (entryPlaceOf f b) := by
  unfold entryPlaceOf
  ((try dsimp only); repeat' (first | exact Safe.pure' | exact Safe.uns | exact Safe.load | exact Safe.stack | exact Safe.alloc | assumption | refine Safe.bind ?_ (fun _ => ?_) | refine Safe.map ?_ | refine Safe.ite ?_ ?_ | split | dsimp only))
theorem Safe.setFlight (v : Value) (f : Option Addr) : Safe (setFlight v f) := by
  unfold PySem.setFlight
  refine Safe.bind (Safe.field v 1) fun tb => ?_
  exact Safe.ite (Safe.setField _ _ _ (by decide)) Safe.pure'
theorem Safe.note (v : Value) (env : Env) : Safe (noteFrame v env) := by
  have h2 := Safe.frameOf env
  unfold noteFrame
  repeat' (first | exact Safe.pure' | exact Safe.uns | exact Safe.field _ _ | exact Safe.setField _ _ _ (by decide) | exact Safe.place _ _ | exact Safe.newEntry _ _ _ _ _ _ | assumption | refine Safe.bind ?_ (fun _ => ?_) | refine Safe.ite ?_ ?_ | split | dsimp only)
theorem Safe.leaving (env : Env) (v : Value) : Safe (leaving env v) := by
  unfold PySem.leaving
  exact Safe.bind (Safe.note v env) fun _ => Safe.setFlight v none
theorem Safe.any {α : Type} {t : Sem α} (x : Safe t) {M : Model} {A : Around} {Q : α → Shared → Prop} {E : Value → Shared → Prop} {s : Shared} (h : wpAny M A t Q E s) : wpAny M A t (fun a s' => DK s.heap s'.heap ∧ Q a s') E s :=
  fun Γ p hΓ => x M Γ _ _ p s (h Γ p hΓ)
end SX1
section SX2
/-- an own class whose line of bases ends in a built-in exception B -/
structure Tail (B : String) (bm : List Value) : Prop where
  b : bm.contains (.type B) = true
  e : bm.contains (.type "BaseException") = true
  a : bm.contains (.type "AttributeError") = false
  n : bm.contains (.type "NameError") = false
section
variable {prog : Program} {w : World} {A : Around} {E : Value → Shared → Prop} {h : Heap} {g : Array GenState} {d : Drawn} {t : Nat} {os : OsState}
  {nm q : Str} {C N : Addr} {bs bm bmB : List Value} {hdct : Bool} {sn : List Str} {sub : List Value} {ab : Bool} {col : Option Bool} {dd : Option Addr} {k0 k1 k2 k3 k5 : Option Value} {B newId initId : String} {K : Frag}
theorem x_check (F : ExcBaseFacts B newId initId bmB) (T : Tail B bm) {M : Model} {rest : List Value} {Q : Unit → Shared → Prop} (hC : h.get? C = some (excClassObj nm q C N bs bm hdct sn sub ab col dd k0 k1 k2 k3 k5 newId))
    (hq : Q () ⟨h, g, d, t, os⟩) : wpAny M A (checkBuiltinCall newId ⟨.ref C :: rest, []⟩) Q E ⟨h, g, d, t, os⟩ := by
  have hcont : (Value.ref C :: bm).contains (.type B) = true := by rw [List.contains_cons, T.b, Bool.or_true]
  have hstar := F.noStar
  simp only [checkBuiltinCall, F.newKind, F.newSplit, F.newRow]
  repeat (first | refine wpAny_loadPart_at hC ?_ | (refine wpAny_isSubtype_exc hC ?_; rw [hcont]) | refine wpAny_staticBase_exc hC ?_ | refine wpAny_madeBy_exc hC ?_ | simp only [bne_self_eq_false, Bool.false_eq_true, if_false] | wp_step)
  exact hq
theorem x_new {R : Result → Shared → Prop} (F : ExcBaseFacts B newId initId bmB) (T : Tail B bm) {rest : List Value} (hC : h.get? C = some (excClassObj nm q C N bs bm hdct sn sub ab col dd k0 k1 k2 k3 k5 newId))
    (hq : R (.ok (.ret (.ref (h.objs.size + 1)))) ⟨(h.push { cls := .type "tuple", data := .seq rest.toArray }).push
      { cls := .ref C, data := .fields #[.ref h.objs.size, .none, .none, .none, .bool false, .none] }, g, d, t, os⟩) (hrest : rest.length ≤ sizeLine) :
    codeAny (model prog w) A (.builtin newId ⟨.ref C :: rest, []⟩) R ⟨h, g, d, t, os⟩ := by
  have hends := F.ends
  have hcB : (Value.ref C :: bm).contains (.type B) = true := by rw [List.contains_cons, T.b, Bool.or_true]
  have hcA : (Value.ref C :: bm).contains (.type "AttributeError") = false := by rw [List.contains_cons, T.a]; rfl
  have hcN : (Value.ref C :: bm).contains (.type "NameError") = false := by rw [List.contains_cons, T.n]; rfl
  refine codeAny_builtinAt F.entry ?_
  unfold Builtin.«BaseException.__new__»
  refine PySem.wpAt_bind ?_
  show PySem.wpAt _ _ _ (stack >>= _) _ _ _
  refine PySem.wpAt_bind (PySem.wpAt_stack fun p below => PySem.wpAt_of_wpAny ?_)
  wp_walk
  refine PySem.wpAt_of_wpAny ?_
  rw [F.owner]
  repeat (first | with_reducible refine wpAny_madeHere_exc F.canon hC ?_ | with_reducible refine wpAny_loadPart_at hC ?_ | (with_reducible refine wpAny_isSubtype_exc hC ?_; first | rw [hcB] | rw [hcA] | rw [hcN]) | wp_step)
  show R _ _
  rw [Heap.size_push]
  exact hq
theorem x_tcall (F : ExcBaseFacts B newId initId bmB) (T : Tail B bm) (X : K.In h) {rest : List Value} {fI : Addr} {Q : Fin → Shared → Prop}
    (hC : h.get? C = some (excClassObj nm q C N bs bm hdct sn sub ab col dd k0 k1 k2 k3 k5 newId)) (hi : findIn K (.ref C) "__init__" = some (some (.ref fI))) (hf : typeIn K (.ref fI) = some (.type "function"))
    (hq : wpAny (model prog w) A (call (.ref fI) (.ref (h.objs.size + 1) :: rest)) (fun r s' => r = .none ∧ Q (.done (.ret (.ref (h.objs.size + 1)))) s') E ⟨(h.push { cls := .type "tuple", data := .seq rest.toArray }).push
      { cls := .ref C, data := .fields #[.ref h.objs.size, .none, .none, .none, .bool false, .none] }, g, d, t, os⟩) (hrest : rest.length ≤ sizeLine) :
    wpAny (model prog w) A (Builtin.«type.__call__» ⟨.ref C :: rest, []⟩) Q E ⟨h, g, d, t, os⟩ := by
  repeat (first | with_reducible refine wpAny_loadPart_at hC ?_ | with_reducible refine wpAny_madeBy_exc hC ?_ | wp_step)
  refine codeAny_call_builtin_code (Code.quiet_builtin _ F.quiet) (x_check F T hC ?_)
  refine x_new F T hC ?_ hrest
  show wpAny _ _ _ _ _ _
  have up : ∀ b o, h.get? b = some o → ((h.push { cls := .type "tuple", data := .seq rest.toArray }).push { cls := .ref C, data := .fields #[.ref h.objs.size, .none, .none, .none, .bool false, .none] }).get? b = some o :=
    fun b o e => Heap.get?_push_of_some _ (Heap.get?_push_of_some _ e)
  have hC₁ := up _ _ hC
  have X₁ := X.keeps up
  have hget : ((h.push { cls := .type "tuple", data := .seq rest.toArray }).push
      { cls := .ref C, data := .fields #[.ref h.objs.size, .none, .none, .none, .bool false, .none] }).get? (h.objs.size + 1) = some
      { cls := .ref C, data := .fields #[.ref h.objs.size, .none, .none, .none, .bool false, .none] } := by heap_get
  have hcC : (Value.ref C :: bm).contains (.ref C) = true := by simp
  unfold isInstance
  repeat (first | with_reducible refine wpAny_loadPart_at hget ?_ | (with_reducible refine wpAny_isSubtype_exc hC₁ ?_; rw [hcC]) | wp_step)
  show wpAny _ _ (typeLookup (.ref C) _) _ _ _
  refine (looks_findIn (M := model prog w) X₁ hi).here ?_
  refine wpAny_holding (wpAny_bind ?_)
  unfold bindSpecial
  refine wpAny_bind ((looks_typeIn (M := model prog w) X₁ hf).here ?_)
  rw [if_pos (by decide)]
  refine wpAny_pure (wpAny_bind (wpAny_mono hq (fun r s' hr => ?_) fun _ _ x => x))
  obtain ⟨rfl, hQ⟩ := hr
  wp_walk
  exact hQ
theorem x_call (F : ExcBaseFacts B newId initId bmB) (T : Tail B bm) {s : Shared} (X : K.In s.heap) {rest : List Value} {fI : Addr} {Q : Value → Shared → Prop}
    (hC : s.heap.get? C = some (excClassObj nm q C N bs bm hdct sn sub ab col dd k0 k1 k2 k3 k5 newId)) (hi : findIn K (.ref C) "__init__" = some (some (.ref fI))) (hf : typeIn K (.ref fI) = some (.type "function"))
    (hq : wpAny (model prog w) (A.under (.builtin "type.__call__" ⟨.ref C :: rest, []⟩)) (call (.ref fI) (.ref (s.heap.objs.size + 1) :: rest)) (fun r s' => r = .none ∧ Q (.ref (s.heap.objs.size + 1)) s') E
      { s with heap := (s.heap.push { cls := .type "tuple", data := .seq rest.toArray }).push { cls := .ref C, data := .fields #[.ref s.heap.objs.size, .none, .none, .none, .bool false, .none] } }) (hrest : rest.length ≤ sizeLine) :
    wpAny (model prog w) A (call (.ref C) rest) Q E s := by
  obtain ⟨h, g, d, t, os⟩ := s
  have f1 := tc_lookup
  have f2 := tc_bind (.ref C)
  have hT : (⟨h, g, d, t, os⟩ : Shared).TypeIs (.ref C) "type" := ⟨_, hC, rfl⟩
  refine wpAny_call (codeAny_of_tree ?_)
  show wpAny _ _ (callAny (.ref C) _) _ _ _
  repeat (any_goals (first | assumption | with_reducible refine wpAny_loadPart_at hC ?_ | wp_step))
  refine ⟨rfl, ?_⟩
  refine codeAny_call_builtin_at (Code.quiet_builtin _ (by decide +kernel)) entry_typeCall (wpAny_check_type_call_sub hC (x_tcall F T X hC hi hf hq hrest))
end
end SX2
section SX3
open Builtin Builtin.ObjectAttr
/-- the heap behind the first attribute that is stored in an object -/
def SetX (h : Heap) (x dx : Addr) (ox od : Obj) (h' : Heap) : Prop :=
  h'.get? x = some { ox with dict := some dx } ∧ h'.get? dx = some od ∧ h.get? dx = none ∧ (∀ b, h.get? b ≠ none → b < dx) ∧ (∀ b o, b ≠ x → h.get? b = some o → h'.get? b = some o)
theorem x_dict {prog : Program} {w : World} {A : Around} {E : Value → Shared → Prop} {s : Shared} {K : Frag} {C x : Addr} {ox : Obj} {ws : Array Value} {cd : ClassData} {name : Str} {tk : Tok} {v : Value} {b : Bool} {Q : Fin → Shared → Prop}
    (X : K.In s.heap) (hx : s.heap.get? x = some ox) (hcl : ox.cls = .ref C) (hod : ox.dict = none) (hdt : ox.data = .fields ws) (hc : clsIn K C = some cd) (hh : cd.hasDict = true)
    (h : ∀ h' dx hs k, SetX s.heap x dx ox (dictOf [⟨hs, .str name k, v⟩] 1) h' → Q (.done (.ret .none)) { s with heap := h', toks := s.toks + 1 }) :
    wpAny (model prog w) A (storeInOwnDict (.ref x) (.ref C) (.str name tk) name v b) Q E s := by
  obtain ⟨hp, g, d, t, os⟩ := s
  obtain ⟨oc, odi, oda, osl⟩ := ox
  dsimp only at hcl hod hdt hx X
  subst hcl hod hdt
  have hxs : x ≠ hp.objs.size := Nat.ne_of_lt (Heap.lt_size hx)
  have hx₁ : (hp.push { cls := .type "dict", data := .dict #[] }).get? x = _ := Heap.get?_push_of_some _ hx
  have hx₂ := Heap.get?_update_self (fun o : Obj => { o with dict := some hp.objs.size }) hx₁ rfl
  have hd₂ : ((hp.push { cls := .type "dict", data := .dict #[] }).update x fun o : Obj => { o with dict := some hp.objs.size }).get? hp.objs.size = some { cls := .type "dict", data := .dict #[] } :=
    (Heap.get?_update_ne _ _ _ _ hxs.symm).trans (Heap.get?_push_at rfl rfl)
  refine wpAny_bind (wpAny_pure (wpAny_bind (wpAny_bind (wpAny_loadPart hx (wpAny_bind ((looks_clsIn X hc).here ?_))))))
  rw [hh]
  refine wpAny_bind (wpAny_alloc (wpAny_bind (wpAny_update hx₁ ?_)))
  refine wpAny_pure (a := some hp.objs.size) ?_
  refine wpAny_bind (wpAny_pure (wpAny_bind ?_))
  unfold nsSet
  refine wpAny_bind (wpAny_bind (wpAny_askSetting (wpAny_pure (wpAny_bind (wpAny_mkText (wpAny_bind (wpAny_loadPart hd₂ ?_)))))))
  dsimp only
  rw [aRefKeyMayBeTheName_at, show (!(#[] : Array DictEntry).any (·.key.isStr name) && (#[] : Array DictEntry).any (·.refKey)) = false from by simp]
  refine wpAny_updatePart hd₂ ?_
  have hd₃ := Heap.get?_update_self (Obj.putName name (if name.cps.isEmpty then 0 else reduceHash (w.params.strHash name.cps)) (.str name t) v) hd₂ rfl
  have hx₃ := (Heap.get?_update_other _ (Obj.putName name (if name.cps.isEmpty then 0 else reduceHash (w.params.strHash name.cps)) (.str name t) v) hxs.symm).trans hx₂
  refine wpAny_bind (wpAny_lookBehind hd₃ (pastItsLine_dict (by rw [sizeLine_eq]; exact Nat.le_of_ble_eq_true rfl)) ?_)
  refine wpAny_pure (h _ hp.objs.size _ t ⟨hx₃, hd₃, Heap.get?_none_of_le (Nat.le_refl _), fun b hb => ?_, fun b o hb e => ?_⟩)
  · cases q : hp.get? b with
    | none => exact absurd q hb
    | some o => exact Heap.lt_size q
  · rw [Heap.get?_update_other _ _ (Nat.ne_of_gt (Heap.lt_size e)), Heap.get?_update_other _ _ (Ne.symm hb)]
    exact Heap.get?_push_of_some _ e
theorem x_osa {prog : Program} {w : World} {A : Around} {s : Shared} {K : Frag} {C x : Addr} {ox : Obj} {ws : Array Value} {cd : ClassData} {name : Str} {tk : Tok} {v : Value} {R : Result → Shared → Prop}
    (X : K.In s.heap) (hx : s.heap.get? x = some ox) (hcl : ox.cls = .ref C) (hod : ox.dict = none) (hdt : ox.data = .fields ws) (hc : clsIn K C = some cd) (hh : cd.hasDict = true)
    (ho : cd.mro.contains (.type "object") = true) (hr : ∀ self, refuseLoop self "__setattr__" cd.mro = pure ()) (ha : findIn K (.ref C) name = some none)
    (h : ∀ h' dx hs k, SetX s.heap x dx ox (dictOf [⟨hs, .str name k, v⟩] 1) h' → R (.ok (.ret .none)) { s with heap := h', toks := s.toks + 1 }) :
    codeAny (model prog w) A (.call (.builtin "object.__setattr__") ⟨[.ref x, .str name tk, v], []⟩) R s := by
  have SF := PySem.F.store_object
  have I : Looks (model prog w) s.heap (typeOf (.ref x)) (.ref C) := hcl ▸ (Looks.ld hx).andThen .now
  have ne : cd.mro.isEmpty = false := by cases q : cd.mro with | nil => rw [q] at ho; cases ho | cons _ _ => rfl
  have sub : Looks (model prog w) s.heap (isInstance (.ref x) (.type "object")) true := I.andThen (looks_mroIn X (by unfold mroIn; rw [hc, Option.bind_some, if_neg (by rw [ne]; decide), ho]))
  refine codeAny_call_builtin SF.slot.plain SF.entry (@check_slot (model prog w) _ _ s "object.__setattr__" "object" "__setattr__" (.ref x) [.str name tk, v] [] _ SF.kind SF.split sub (SF.args (.ref x) (.str name tk) v) ?_)
  have hm : Looks (model prog w) s.heap (mroOf (.ref C)) cd.mro := (looks_clsIn X hc).andThen .now
  rw [osa_eq, refuse_eq]
  refine wpAny_bind (wpAny_bind (I.here (wpAny_bind (hm.here ?_))))
  rw [hr]
  refine wpAny_pure (wpAny_bind (I.here (wpAny_bind ((looks_findIn X ha).here (wpAny_bind (wpAny_pure ?_))))))
  exact x_dict X hx hcl hod hdt hc hh h
theorem x_setattr {prog : Program} {w : World} {A : Around} {E : Value → Shared → Prop} {s : Shared} {K : Frag} {C x : Addr} {ox : Obj} {ws : Array Value} {cd : ClassData} {name : Str} {v : Value} {Q : Unit → Shared → Prop}
    (X : K.In s.heap) (hx : s.heap.get? x = some ox) (hcl : ox.cls = .ref C) (hod : ox.dict = none) (hdt : ox.data = .fields ws) (hc : clsIn K C = some cd) (hh : cd.hasDict = true)
    (ho : cd.mro.contains (.type "object") = true) (hr : ∀ self, refuseLoop self "__setattr__" cd.mro = pure ()) (ha : findIn K (.ref C) name = some none) (hs : findIn K (.ref C) "__setattr__" = some (some (.builtin "object.__setattr__")))
    (h : ∀ h' dx hs k tk, SetX s.heap x dx ox (dictOf [⟨hs, .str name k, v⟩] 1) h' → Q () { s with heap := h', toks := tk }) :
    wpAny (model prog w) A (setAttr (.ref x) name v) Q E s := by
  have SF := PySem.F.store_object
  have I : Looks (model prog w) s.heap (typeOf (.ref x)) (.ref C) := hcl ▸ (Looks.ld hx).andThen .now
  unfold setAttr
  refine wpAny_bind (wpAny_mkText ?_)
  refine wpAny_bind ?_
  unfold callSpecial? specialOf
  refine wpAny_bind (wpAny_bind (Looks.here (s := { s with toks := s.toks + 1 }) I (Looks.here (s := { s with toks := s.toks + 1 }) (looks_findIn (h := s.heap) X hs) ?_)))
  refine wpAny_holding ?_
  rw [SF.slot.bind]
  refine wpAny_bind (wpAny_pure (wpAny_bind (wpAny_call ?_)))
  exact x_osa (s := { s with toks := s.toks + 1 }) X hx hcl hod hdt hc hh ho hr ha fun h' dx hs k hS => wpAny_pure (wpAny_pure (h h' dx hs k _ hS))
end SX3
section SX4
open Builtin Builtin.ObjectAttr
def xMro (C : Addr) (cd : ClassData) : Bool := match cd.mro with
  | [.ref C', .ref _, .type a, .type b, .type c] => C' == C && a == "Exception" && b == "BaseException" && c == "object" && !cd.hasDel && cd.hasDict
  | _ => false
def xSlots (sl : Array (Option Value)) : Bool := match sl.toList with
  | [_, _, _, _, some (.builtin n), _] => n == "Exception.__new__"
  | _ => false
def xIn (K : Frag) (C : Addr) : Bool := match K.lookup C with
  | some ⟨.type t, _, .cls cd, sl⟩ => t == "type" && xMro C cd && xSlots sl
  | _ => false
theorem x_cls {K : Frag} {h : Heap} {C : Addr} (X : K.In h) (q : xIn K C = true) : ∃ nm qn N bs D sn sub ab col dd k0 k1 k2 k3 k5 cd,
    h.get? C = some (excClassObj nm qn C N bs [.ref D, .type "Exception", .type "BaseException", .type "object"] true sn sub ab col dd k0 k1 k2 k3 k5 "Exception.__new__") ∧ clsIn K C = some cd ∧ cd.hasDict = true ∧ cd.mro = [.ref C, .ref D, .type "Exception", .type "BaseException", .type "object"] := by
  unfold xIn at q
  split at q
  · rename_i t dd cd sl ho
    simp only [Bool.and_eq_true, beq_iff_eq] at q
    obtain ⟨⟨rfl, q1⟩, q2⟩ := q
    have hcd : clsIn K C = some cd := by unfold clsIn; rw [ho]
    obtain ⟨nm, bs, mro, ns, qn, hd, sn, sub, ab, col, del⟩ := cd
    unfold xMro at q1
    split at q1
    · rename_i C' D a b c hm
      simp only [Bool.and_eq_true, beq_iff_eq, Bool.not_eq_true'] at q1
      obtain ⟨⟨⟨⟨⟨rfl, rfl⟩, rfl⟩, rfl⟩, hdel⟩, hdict⟩ := q1
      dsimp only at hm hdel hdict
      subst hm hdel hdict
      unfold xSlots at q2
      split at q2
      · rename_i k0 k1 k2 k3 n k5 hs
        obtain rfl := beq_iff_eq.mp q2
        have hsl : sl = #[k0, k1, k2, k3, some (.builtin "Exception.__new__"), k5] := by
          obtain ⟨l⟩ := sl
          simp only at hs
          rw [hs]
        subst hsl
        exact ⟨nm, qn, ns, bs, D, sn, sub, ab, col, dd, k0, k1, k2, k3, k5, _, X _ _ ho, hcd, rfl, rfl⟩
      · cases q2
    · cases q1
  · cases q
theorem x_tail (D : Addr) : Tail "Exception" [.ref D, .type "Exception", .type "BaseException", .type "object"] := ⟨rfl, rfl, rfl, rfl⟩
theorem x_refuse (C D : Addr) (self : Value) : refuseLoop self "__setattr__" [.ref C, .ref D, .type "Exception", .type "BaseException", .type "object"] = pure () := by
  rw [refuseLoop_ref, refuseLoop_ref]
  exact PySem.F.store_Exception.passes self
theorem fx51 (w : World) : xIn (hd.heap_39 w.params) 51 = true := by kernel_rfl
theorem fi51 (w : World) : findIn (hd.heap_39 w.params) (.ref 51) "__init__" = some (some (.ref 35)) := by kernel_rfl
theorem fm51 (w : World) : findIn (hd.heap_39 w.params) (.ref 51) "message" = some none := by kernel_rfl
theorem fs51 (w : World) : findIn (hd.heap_39 w.params) (.ref 51) "__setattr__" = some (some (.builtin "object.__setattr__")) := by kernel_rfl
theorem fg51 (w : World) : findIn (hd.heap_39 w.params) (.ref 51) "__getattribute__" = some (some (.builtin "BaseException.__getattribute__")) := by kernel_rfl
theorem fh51 (w : World) : findIn (hd.heap_39 w.params) (.ref 51) "__getattr__" = some none := by kernel_rfl

theorem fx63 (w : World) : xIn (hd.heap_39 w.params) 63 = true := by kernel_rfl
theorem fi63 (w : World) : findIn (hd.heap_39 w.params) (.ref 63) "__init__" = some (some (.ref 35)) := by kernel_rfl
theorem fm63 (w : World) : findIn (hd.heap_39 w.params) (.ref 63) "message" = some none := by kernel_rfl
theorem fs63 (w : World) : findIn (hd.heap_39 w.params) (.ref 63) "__setattr__" = some (some (.builtin "object.__setattr__")) := by kernel_rfl
theorem fg63 (w : World) : findIn (hd.heap_39 w.params) (.ref 63) "__getattribute__" = some (some (.builtin "BaseException.__getattribute__")) := by kernel_rfl
theorem fh63 (w : World) : findIn (hd.heap_39 w.params) (.ref 63) "__getattr__" = some none := by kernel_rfl
theorem ft (w : World) : typeIn (hd.heap_39 w.params) (.ref 35) = some (.type "function") := by kernel_rfl
end SX4
section SX5
open Builtin Builtin.ObjectAttr
abbrev excObj (C t : Addr) (dx : Option Addr) (cx : Value) : Obj := { cls := .ref C, dict := dx, data := .fields #[.ref t, .none, cx, .none, .bool false, .none] }
abbrev msgD (hs : Int) (k : Tok) (msg : Str) (t : Tok) : Obj := dictOf [⟨hs, .str "message" k, .str msg t⟩] 1
abbrev argT (msg : Str) (t : Tok) : Obj := { cls := .type "tuple", data := .seq #[.str msg t] }
theorem execs_done {M : Model} {A : Around} {env : Env} {Q : Flow → Shared → Prop} {E : Value → Shared → Prop} {s : Shared} (h : Q .next s) : wpAny M A (execs [] env) Q E s := wpAny_pure h
theorem setx_led {g h h' : Heap} {L x dx : Addr} {m : Str → Option Value} {news : List (Addr × Obj)} {ox od : Obj} (F : Fr g L h m) (N : News g L h ((x, ox) :: news)) (hn : ∀ p ∈ news, p.1 ≠ x) (S : SetX h x dx ox od h') :
    Fr g L h' m ∧ News g L h' ((dx, od) :: (x, { ox with dict := some dx }) :: news) := by
  obtain ⟨S1, S2, S3, S4, S5⟩ := S
  have hx := N _ (.head _)
  obtain ⟨oL, es, ep, hL, r⟩ := F.ns
  have gx : ∀ b o, g.get? b = some o → b ≠ x := fun b o e q => by rw [q, hx.2.2] at e; cases e
  have gd : g.get? dx = none := by
    cases q : g.get? dx with
    | none => rfl
    | some o => have := F.keep _ _ q; rw [S3] at this; cases this
  refine ⟨⟨⟨oL, es, ep, S5 _ _ (Ne.symm hx.2.1) hL, r⟩, fun b o e => S5 b o (gx b o e) (F.keep b o e), F.above⟩, fun p hp => ?_⟩
  rcases List.mem_cons.mp hp with rfl | hp
  · exact ⟨S2, Nat.ne_of_gt (S4 L (by rw [hL]; exact Option.some_ne_none _)), gd⟩
  · rcases List.mem_cons.mp hp with rfl | hp
    · exact ⟨S1, hx.2⟩
    · have hp' := N p (.tail _ hp)
      exact ⟨S5 _ _ (hn p hp) hp'.1, hp'.2⟩
/-- the state behind X('..') -/
theorem mk_exc63 {w : World} {mean : ExcName → Option Value} {mg mb : Str → Option Value} {A A₀ : Around} {env : Env} {outer : List Env} {base h₀ : Heap} {L : Addr} {m : Str → Option Value} {s : Shared} {Q E : Value → Shared → Prop} {news : List (Addr × Obj)} (msg : Str) (t : Tok)
    (B : Below A₀ base outer h₀) (F : Fr h₀ L s.heap m) (X : (hd.heap_39 w.params).In h₀) (N : News h₀ L s.heap news) (T : Top hd.view_39 (looseW hd.view_39 [Str.ofString "MOST_VALUE", Str.ofString "fraction", Str.ofString "MOST_SIZE", Str.ofString "length", Str.ofString "length_styles", Str.ofString "Look"]) mean mg mb h₀)
    (hA : (A.under (.builtin "type.__call__" ⟨[.ref 63, .str msg t], []⟩)).frames = some (env :: outer)) (hf : env.frame = some L) (hke : env.scope.kind = .function) (hdp : (A.under (.builtin "type.__call__" ⟨[.ref 63, .str msg t], []⟩)).depth < recursionLimit)
    (ret : ∀ e dx tt hs k h' tk', (∀ p ∈ news, p.1 < tt) → @LT.lt Nat _ tt e → @LT.lt Nat _ e dx → Fr h₀ L h' m → News h₀ L h' ((dx, msgD hs k msg t) :: (e, excObj 63 tt (some dx) .none) :: (tt, argT msg t) :: news) → Q (.ref e) { s with heap := h', toks := tk' }) :
    wpAny (model PySem.Challenge.rw_xm0732_01.row.prog w) A (call (.ref 63) [.str msg t]) Q E s := by
  revert B F X N T hA hf hke hdp ret
  k_with_none; refine mark_use ?_; k_fill; intro _ B F X N T hA hf hke hdp ret
  have XS := X.keeps F.keep
  obtain ⟨nm, qn, Nn, bs, D, sn, sub, ab, col, dd, k0, k1, k2, k3, k5, cd, hC, hcd, hdi, hmro⟩ := x_cls XS (fx63 w)
  refine x_call PySem.F.excBase_Exception (x_tail D) XS hC (fi63 w) (ft w) ?_ (by rw [sizeLine_eq]; exact Nat.le_of_ble_eq_true rfl)
  have F1 := F.push (argT msg t)
  have N1 := N.push F (argT msg t)
  have F2 := F1.push (excObj 63 s.heap.objs.size none .none)
  have N2 := N1.push F1 (excObj 63 s.heap.objs.size none .none)
  rw [Heap.size_push] at N2
  refine wpAny_call ?_
  refine' code_def (env := env) ?k1 ?k2 ?k3 ?k4 ?k5 ?kA ?kF ?kK ?k6 ?k7 ?k8 ?k9 ?kB ?_ ?c2 ?c3 ?c4 ?c5
  case k1 => exact B
  case k2 => exact F2
  case k3 => exact X
  case k4 => exact N2
  case k5 => exact T
  case kA => exact hA
  case kF => exact hf
  case kK => exact hke
  case k6 => k_is
  case k7 => k_is
  case k8 => exact hdp
  case k9 => first | exact BindsTo.of_eq rfl | exact binds_K (by k_in) rfl (by k_is) rfl rfl rfl
  case c5 => decide
  case kB => exact locs rfl
  case c2 => exact rfl
  case c3 => exact rfl
  case c4 => exact rfl
  intro g' L' h' FG' F' N' B' X' T'
  dsimp only
  k_steps
  have hxe := (N' _ (.head _)).1
  refine x_setattr (X'.keeps F'.keep) hxe rfl rfl rfl hcd hdi (by rw [hmro]; rfl) (fun self => by rw [hmro]; exact x_refuse 63 D self) (fm63 w) (fs63 w) ?_
  intro h₂ dx hs k tk₂ hS
  have hne : ∀ p ∈ (s.heap.objs.size, argT msg t) :: news, p.1 ≠ s.heap.objs.size + 1 := fun p hp => by
    rcases List.mem_cons.mp hp with rfl | hp
    · exact Nat.ne_of_lt (Nat.lt_succ_self _)
    · exact Nat.ne_of_lt (Nat.lt_succ_of_lt (Heap.lt_size (N p hp).1))
  obtain ⟨F₂, N₂⟩ := setx_led F' N' hne hS
  dsimp only
  refine execs_done ?_
  exact leaveK_ F₂ N₂ fun F₃ N₃ => ⟨rfl, ret _ _ _ _ _ _ _ (fun p hp => Heap.lt_size (N p hp).1) (Nat.lt_succ_self _) (hS.2.2.2.1 _ (by rw [hxe]; exact Option.some_ne_none _)) F₃ N₃⟩
/-- the state behind X('..') -/
theorem mk_exc51 {w : World} {mean : ExcName → Option Value} {mg mb : Str → Option Value} {A A₀ : Around} {env : Env} {outer : List Env} {base h₀ : Heap} {L : Addr} {m : Str → Option Value} {s : Shared} {Q E : Value → Shared → Prop} {news : List (Addr × Obj)} (msg : Str) (t : Tok)
    (B : Below A₀ base outer h₀) (F : Fr h₀ L s.heap m) (X : (hd.heap_39 w.params).In h₀) (N : News h₀ L s.heap news) (T : Top hd.view_39 (looseW hd.view_39 [Str.ofString "MOST_VALUE", Str.ofString "fraction", Str.ofString "MOST_SIZE", Str.ofString "length", Str.ofString "length_styles", Str.ofString "Look"]) mean mg mb h₀)
    (hA : (A.under (.builtin "type.__call__" ⟨[.ref 51, .str msg t], []⟩)).frames = some (env :: outer)) (hf : env.frame = some L) (hke : env.scope.kind = .function) (hdp : (A.under (.builtin "type.__call__" ⟨[.ref 51, .str msg t], []⟩)).depth < recursionLimit)
    (ret : ∀ e dx tt hs k h' tk', (∀ p ∈ news, p.1 < tt) → @LT.lt Nat _ tt e → @LT.lt Nat _ e dx → Fr h₀ L h' m → News h₀ L h' ((dx, msgD hs k msg t) :: (e, excObj 51 tt (some dx) .none) :: (tt, argT msg t) :: news) → Q (.ref e) { s with heap := h', toks := tk' }) :
    wpAny (model PySem.Challenge.rw_xm0732_01.row.prog w) A (call (.ref 51) [.str msg t]) Q E s := by
  revert B F X N T hA hf hke hdp ret
  k_with_none; refine mark_use ?_; k_fill; intro _ B F X N T hA hf hke hdp ret
  have XS := X.keeps F.keep
  obtain ⟨nm, qn, Nn, bs, D, sn, sub, ab, col, dd, k0, k1, k2, k3, k5, cd, hC, hcd, hdi, hmro⟩ := x_cls XS (fx51 w)
  refine x_call PySem.F.excBase_Exception (x_tail D) XS hC (fi51 w) (ft w) ?_ (by rw [sizeLine_eq]; exact Nat.le_of_ble_eq_true rfl)
  have F1 := F.push (argT msg t)
  have N1 := N.push F (argT msg t)
  have F2 := F1.push (excObj 51 s.heap.objs.size none .none)
  have N2 := N1.push F1 (excObj 51 s.heap.objs.size none .none)
  rw [Heap.size_push] at N2
  refine wpAny_call ?_
  refine' code_def (env := env) ?k1 ?k2 ?k3 ?k4 ?k5 ?kA ?kF ?kK ?k6 ?k7 ?k8 ?k9 ?kB ?_ ?c2 ?c3 ?c4 ?c5
  case k1 => exact B
  case k2 => exact F2
  case k3 => exact X
  case k4 => exact N2
  case k5 => exact T
  case kA => exact hA
  case kF => exact hf
  case kK => exact hke
  case k6 => k_is
  case k7 => k_is
  case k8 => exact hdp
  case k9 => first | exact BindsTo.of_eq rfl | exact binds_K (by k_in) rfl (by k_is) rfl rfl rfl
  case c5 => decide
  case kB => exact locs rfl
  case c2 => exact rfl
  case c3 => exact rfl
  case c4 => exact rfl
  intro g' L' h' FG' F' N' B' X' T'
  dsimp only
  k_steps
  have hxe := (N' _ (.head _)).1
  refine x_setattr (X'.keeps F'.keep) hxe rfl rfl rfl hcd hdi (by rw [hmro]; rfl) (fun self => by rw [hmro]; exact x_refuse 51 D self) (fm51 w) (fs51 w) ?_
  intro h₂ dx hs k tk₂ hS
  have hne : ∀ p ∈ (s.heap.objs.size, argT msg t) :: news, p.1 ≠ s.heap.objs.size + 1 := fun p hp => by
    rcases List.mem_cons.mp hp with rfl | hp
    · exact Nat.ne_of_lt (Nat.lt_succ_self _)
    · exact Nat.ne_of_lt (Nat.lt_succ_of_lt (Heap.lt_size (N p hp).1))
  obtain ⟨F₂, N₂⟩ := setx_led F' N' hne hS
  dsimp only
  refine execs_done ?_
  exact leaveK_ F₂ N₂ fun F₃ N₃ => ⟨rfl, ret _ _ _ _ _ _ _ (fun p hp => Heap.lt_size (N p hp).1) (Nat.lt_succ_self _) (hS.2.2.2.1 _ (by rw [hxe]; exact Option.some_ne_none _)) F₃ N₃⟩
end SX5
section SX6
def RaiseP (K : Frag) (C : Addr) (hdl : Option Value) (E : Value → Shared → Prop) (v : Value) (s : Shared) : Prop :=
  ∃ e t dx, v = .ref e ∧ K.In s.heap ∧ s.heap.get? e = some (excObj C t (some dx) .none) ∧
   match hdl with
   | none => E (.ref e) s
   | some (.ref e0) => e0 ≠ e ∧ (∃ o ws, s.heap.get? e0 = some o ∧ o.data = .fields ws ∧ ws[2]? = some .none) ∧ E (.ref e) { s with heap := s.heap.update e (Obj.mapFields (·.setIfInBounds 2 (.ref e0))) }
   | _ => False
theorem entry_unchain : entryFor table "proto.unchain" = some Builtin.«proto.unchain» := entryFor_of_tree (by kernel_rfl)
theorem raise_new {prog : Program} {w : World} {A : Around} {E : Value → Shared → Prop} {s : Shared} {Q : Flow → Shared → Prop} {e t dx : Addr} {C : Addr} {K : Frag} (h : RaiseP K C A.handled E (.ref e) s) : wpAny (model prog w) A (raiseNew (.ref e) : Sem Flow) Q E s := by
  obtain ⟨e', t, dx, q, X, he, h⟩ := h
  cases q
  unfold raiseNew
  refine wpAny_bind (wpAny_handled ?_)
  revert h
  cases A.handled with
  | none => intro h; exact wpAny_bind (wpAny_pure (wpAny_throw h))
  | some v =>
    cases v with
    | ref e0 =>
      intro h
      obtain ⟨hne, ⟨o, ws, h0, hd0, h2⟩, hE⟩ := h
      have b1 : ((Value.ref e0 != Value.ref e) : Bool) = true := by simp [bne_iff_ne, hne]
      simp only [b1, if_true]
      refine wpAny_bind (wpAny_holding (runValue_entry entry_unchain ?_))
      unfold Builtin.«proto.unchain»
      refine wpAny_bind (wpAny_field h0 hd0 h2 ?_)
      rw [if_pos (by simp)]
      refine wpAny_bind (wpAny_pure (wpAny_pure ⟨.none, rfl, ?_⟩))
      unfold updateField
      refine wpAny_bind (wpAny_bind (wpAny_load he ?_))
      dsimp only
      rw [if_pos (show 2 < (#[Value.ref t, Value.none, Value.none, Value.none, Value.bool false, Value.none] : Array Value).size from Nat.le_of_ble_eq_true rfl)]
      exact wpAny_update he (wpAny_throw hE)
    | _ => intro h; exact h.elim
theorem raise_stmt {prog : Program} {w : World} {A : Around} {E : Value → Shared → Prop} {s : Shared} {Q : Flow → Shared → Prop} {C : Addr} {K : Frag} {x : Expr} {pos : Pos} {env : Env} (hx : xIn K C = true)
    (h : wpAny (model prog w) A (eval x env) (RaiseP K C A.handled E) E s) : wpAny (model prog w) A (exec (.Raise (some x) none pos) env) Q E s := by
  rw [arm_exec_Raise]
  refine wpAny_bind (wpAny_standAt ?_)
  unfold raiseStmt
  refine wpAny_bind (wpAny_bind (wpAny_mono h (fun v s₁ h₁ => wpAny_bind (wpAny_standAt (wpAny_pure ?_))) fun _ _ y => y))
  have hP := h₁
  obtain ⟨e, t, dx, rfl, X, he, -⟩ := h₁
  obtain ⟨nm, qn, Nn, bs, D, sn, sub, ab, col, dd, k0, k1, k2, k3, k5, cd, hC, hcd, hdi, hmro⟩ := x_cls X hx
  have hcB : (Value.ref C :: [.ref D, .type "Exception", .type "BaseException", .type "object"]).contains (.type "BaseException") = true := by rw [List.contains_cons, (x_tail D).e, Bool.or_true]
  obtain ⟨hp, g, d, tk, os⟩ := s₁
  repeat (first | with_reducible refine wpAny_loadPart_at he ?_ | with_reducible refine wpAny_loadPart_at hC ?_ | (with_reducible refine wpAny_isSubtype_exc hC ?_; rw [hcB]) | wp_step)
  exact raise_new (t := t) (dx := dx) hP
end SX6
section SX7
def OnX (h : Heap) (e : Addr) (dx : Addr) (cx : Value) : Prop := ∃ oe ws, h.get? e = some oe ∧ oe.dict = some dx ∧ oe.data = .fields ws ∧ ws[2]? = some cx
theorem OnX.dk {h h' : Heap} {e dx : Addr} {cx : Value} (x : OnX h e dx cx) (d : DK h h') : OnX h' e dx cx := by
  obtain ⟨oe, ws, h1, h2, h3, h4⟩ := x
  obtain ⟨o', g1, g2, g3⟩ := d e oe h1
  obtain ⟨ws', g4, g5⟩ := g3 ws h3
  exact ⟨o', ws', g1, g2.trans h2, g4, g5.trans h4⟩
section
variable {M : Model} {A : Around} {E : Value → Shared → Prop} {s : Shared} {base : Heap} {env : Env} {outer l : List Env} {L e : Addr} {cls a0 : Value} {Q : Unit → Shared → Prop}
theorem looksX (hfr : A.frames = some (env :: outer)) (hf : env.frame = some L) (hfl : Heap.FlyingW base (env :: outer) e cls a0 s.heap)
    (hQ : ∀ h', Heap.HeldW base (env :: outer) e cls a0 L h' → s.heap.UpToSlots h' → DK s.heap h' → Q () { s with heap := h' }) : wpAny M A (noteFrame (.ref e) env) Q E s :=
  wpAny_mono ((Safe.note (.ref e) env).any (wpAny_looks_onW (Q := fun _ s'' => ∃ h', s'' = { s with heap := h' } ∧ Heap.HeldW base (env :: outer) e cls a0 L h' ∧ s.heap.UpToSlots h') hfr hf hfl fun h' a b => ⟨h', rfl, a, b⟩))
    (fun _ s'' x => by obtain ⟨d, h', rfl, a, b⟩ := x; exact hQ h' a b d) fun _ _ x => x
theorem landsX (hh : Heap.HeldW base l e cls a0 L s.heap)
    (hQ : ∀ h', Heap.FlyingW base l e cls a0 h' → s.heap.UpToSlots h' → DK s.heap h' → Q () { s with heap := h' }) : wpAny M A (setFlight (.ref e) none) Q E s :=
  wpAny_mono ((Safe.setFlight (.ref e) none).any (wpAny_landsW (Q := fun _ s'' => ∃ h', s'' = { s with heap := h' } ∧ Heap.FlyingW base l e cls a0 h' ∧ s.heap.UpToSlots h') hh fun h' a b => ⟨h', rfl, a, b⟩))
    (fun _ s'' x => by obtain ⟨d, h', rfl, a, b⟩ := x; exact hQ h' a b d) fun _ _ x => x
theorem againX (hh : Heap.FlyingW base l e cls a0 s.heap)
    (hQ : ∀ h', Heap.FlyingW base l e cls a0 h' → s.heap.UpToSlots h' → DK s.heap h' → Q () { s with heap := h' }) : wpAny M A (setFlight (.ref e) none) Q E s :=
  wpAny_mono ((Safe.setFlight (.ref e) none).any (lands_againW (Q := fun _ s'' => ∃ h', s'' = { s with heap := h' } ∧ Heap.FlyingW base l e cls a0 h' ∧ s.heap.UpToSlots h') hh fun h' a b => ⟨h', rfl, a, b⟩))
    (fun _ s'' x => by obtain ⟨d, h', rfl, a, b⟩ := x; exact hQ h' a b d) fun _ _ x => x
theorem leavesX (hfr : A.frames = some (env :: outer)) (hf : env.frame = some L) (hfl : Heap.FlyingW base (env :: outer) e cls a0 s.heap)
    (hQ : ∀ h', Heap.FlyingW base outer e cls a0 h' → s.heap.UpToSlots h' → DK s.heap h' → Q () { s with heap := h' }) : wpAny M A (leaving env (.ref e)) Q E s :=
  wpAny_mono ((Safe.leaving env (.ref e)).any (wpAny_leaves_onW (Q := fun _ s'' => ∃ h', s'' = { s with heap := h' } ∧ Heap.FlyingW base outer e cls a0 h' ∧ s.heap.UpToSlots h') hfr hf hfl fun h' a b => ⟨h', rfl, a, b⟩))
    (fun _ s'' x => by obtain ⟨d, h', rfl, a, b⟩ := x; exact hQ h' a b d) fun _ _ x => x
theorem firstX {oe : Obj} {vs : Array Value} (hfr : A.frames = some (env :: outer)) (hl : s.heap.FunFrames base (env :: outer)) (hf : env.frame = some L)
    (he : s.heap.get? e = some oe) (hkb : base.StaysIn s.heap) (hen : base.get? e = none) (hd : oe.data = .fields vs) (h1 : vs[1]? = some .none) (h0 : vs[0]? = some a0)
    (h : ∀ h', Heap.LeftW base (env :: outer) e oe.cls a0 s.heap h' → DK s.heap h' → Q () { s with heap := h' }) : wpAny M A (leaving env (.ref e)) Q E s :=
  wpAny_mono ((Safe.leaving env (.ref e)).any (wpAny_leaving_firstW (Q := fun _ s'' => ∃ h', s'' = { s with heap := h' } ∧ Heap.LeftW base (env :: outer) e oe.cls a0 s.heap h') hfr hl hf he hkb hen hd h1 h0 fun h' a => ⟨h', rfl, a⟩))
    (fun _ s'' x => by obtain ⟨d, h', rfl, a⟩ := x; exact h h' a d) fun _ _ x => x
end
/-- an own exception in flight over the frames l: its dict, its context, and the ledger that stays -/
def FlyX (base G : Heap) (l : List Env) (e C dx : Addr) (cx : Value) (news : List (Addr × Obj)) (h : Heap) : Prop :=
  (∃ B a0, base.StaysIn B ∧ (∀ b o, G.get? b = some o → b ∉ l.filterMap (·.frame) → B.get? b = some o) ∧ (∀ q ∈ news, B.get? q.1 = some q.2 ∧ G.get? q.1 = none ∧ base.get? q.1 = none) ∧ Heap.FlyingW B l e (.ref C) a0 h) ∧ OnX h e dx cx
section
variable {M : Model} {A : Around} {E : Value → Shared → Prop} {s' : Shared} {base g g₂ : Heap} {outer : List Env} {L a e C dx : Addr} {cx : Value} {m : Str → Option Value} {name : Str} {scope : Scope} {cd : Value} {Q : Unit → Shared → Prop} {news : List (Addr × Obj)}
theorem leave_newX {t : Addr} (K : Below A base outer g) (F : Fr g L s'.heap m) (N : News g L s'.heap ((e, excObj C t (some dx) cx) :: news)) (hne : ∀ p ∈ news, p.1 ≠ e)
    (hQ : ∀ h', FlyX base g outer e C dx cx news h' → g.UpToSlots h' → Q () { s' with heap := h' }) (hk : scope.kind = .function := by rfl) :
    wpAny M (A.deeper (envOf name scope L a cd)) (leaving (envOf name scope L a cd) (.ref e)) Q E s' := by
  have K' := K.push (name := name) (a := a) (cd := cd) F hk
  have he := N _ (.head _)
  have nf : ∀ env ∈ (envOf name scope L a cd :: outer), ∀ b, env.frame = some b → b ∈ e :: (envOf name scope L a cd :: outer).filterMap (·.frame) := fun env hv b hb => .tail _ (List.mem_filterMap.mpr ⟨env, hv, hb⟩)
  have st : base.StaysIn (hideAll s'.heap (e :: (envOf name scope L a cd :: outer).filterMap (·.frame))) := fun b o q => hideAll_get _ (K'.stays b o q) fun hm => by
    rcases List.mem_cons.mp hm with rfl | hm
    · rw [fresh_of_stays K.stays he.2.2] at q; cases q
    · rw [(K'.frames.mem hm).1] at q; cases q
  have sg : ∀ b o, g.get? b = some o → b ∉ outer.filterMap (·.frame) → (hideAll s'.heap (e :: (envOf name scope L a cd :: outer).filterMap (·.frame))).get? b = some o := fun b o q nm => hideAll_get _ (F.keep b o q) fun hm => by
    rcases List.mem_cons.mp hm with rfl | hm
    · rw [he.2.2] at q; cases q
    · rcases kts_mem hm with z | z
      · rw [z, kts_self F] at q
        cases q
      · exact nm z
  have hl : ∀ q ∈ news, (hideAll s'.heap (e :: (envOf name scope L a cd :: outer).filterMap (·.frame))).get? q.1 = some q.2 ∧ g.get? q.1 = none ∧ base.get? q.1 = none := fun q hq => by
    have hn := N q (.tail _ hq)
    refine ⟨hideAll_get _ hn.1 fun hm => ?_, hn.2.2, fresh_of_stays K.stays hn.2.2⟩
    rcases List.mem_cons.mp hm with z | hm
    · exact hne q hq z
    · obtain ⟨env, he', hf⟩ := List.mem_filterMap.mp hm
      rcases List.mem_cons.mp he' with rfl | he'
      · exact hn.2.1 (Option.some.inj hf).symm
      · obtain ⟨o, ho, _⟩ := (K.frames.mem (List.mem_filterMap.mpr ⟨env, he', hf⟩)).2
        rw [hn.2.2] at ho; cases ho
  refine firstX (base := hideAll s'.heap (e :: (envOf name scope L a cd :: outer).filterMap (·.frame))) K'.stack (funFrames_hide K'.frames nf) rfl he.1 (fun b o q => of_hideAll _ q) (hideAll_none _ (.head _)) rfl rfl rfl fun h' hL d => ?_
  obtain ⟨k1, ⟨_, _, k2⟩, k3, k4⟩ := hL
  exact hQ h' ⟨⟨_, _, st, sg, hl, k1, hideAll_none _ (.head _), k2, k3⟩, OnX.dk ⟨_, _, he.1, rfl, rfl, rfl⟩ d⟩ ((Heap.UpToSlots.of_keeps F.keep).trans k4)
theorem leave_onX (K : Below A base outer g) (F : Fr g L g₂ m) (R : FlyX base g₂ (envOf name scope L a cd :: outer) e C dx cx news s'.heap) (hsm : g₂.UpToSlots s'.heap)
    (hQ : ∀ h', FlyX base g outer e C dx cx news h' → g.UpToSlots h' → Q () { s' with heap := h' }) :
    wpAny M (A.deeper (envOf name scope L a cd)) (leaving (envOf name scope L a cd) (.ref e)) Q E s' := by
  obtain ⟨⟨B, a0, hB, hBG, hl, hfl⟩, on⟩ := R
  exact leavesX (Around.frames_deeper K.stack) rfl hfl fun h' x1 x2 d =>
    hQ h' ⟨⟨B, a0, hB, fun b o q nm => hBG b o (F.keep b o q) (fun hm => by
      rcases kts_mem hm with z | z
      · rw [z, kts_self F] at q
        cases q
      · exact nm z), fun q hq => ⟨(hl q hq).1, kts_none F.keep (hl q hq).2.1, (hl q hq).2.2⟩, x1⟩, on.dk d⟩ ((Heap.UpToSlots.of_keeps F.keep).trans (hsm.trans x2))
end
end SX7
section SX8
section
variable {prog : Program} {w : World} {A₀ : Around} {E : Value → Shared → Prop} {s' : Shared} {base g g₀ G : Heap} {outer : List Env} {L a e dx C : Addr} {cx : Value} {m : Str → Option Value} {name : Str} {scope : Scope} {cd : Value}
  {n : Str} {b₀ : Stmt} {suite : List Stmt} {pos np : Pos} {rest : List ExceptHandler} {Q : Flow → Shared → Prop} {news : List (Addr × Obj)} {KF : Frag}
  {p : Program} {loose : List Str} {mean : ExcName → Option Value} {mg mb : Str → Option Value} {x : Str}
theorem caughtX (R : FlyX base G (envOf name scope L a cd :: outer) e C dx cx news s'.heap) (F : Fr g L G m) (K : Below A₀ base outer g) (hsm : G.UpToSlots s'.heap) (XB : KF.In base) (TB : Top p loose mean mg mb base)
    (D : KtsDicts (outer.filterMap (·.frame)) g) (T0 : KtsTurn (outer.filterMap (·.frame)) g₀ g)
    (ex : nsIn KF mainGlobals x = some (some (.ref C))) (q : ktsIn KF C "BaseException" = true)
    (k : ∀ h' g' oe ws, KtsTurn (outer.filterMap (·.frame)) g₀ g' → Fr g' L h' m → News g' L h' ((e, oe) :: news) → oe.cls = .ref C → oe.dict = some dx → oe.data = .fields ws → ws[2]? = some cx → (∀ q ∈ news, q.1 ≠ e) → Below A₀ base outer g' → KF.In g' → Top p loose mean mg mb g' → KtsDicts (outer.filterMap (·.frame)) g' →
      wpAny (model prog w) ((A₀.deeper (envOf name scope L a cd)).mark (some (.ref e))) (execs (b₀ :: suite) (envOf name scope L a cd)) Q E { s' with heap := h' })
    (hk : scope.kind = .function := by rfl) (hx : (envOf name scope L a cd).kindOf x = some .globalImplicit := by rfl) (hd : (x == ("__debug__" : Str)) = false := by decide)
    (hE : PassesOwnAt (model prog w) ((A₀.deeper (envOf name scope L a cd)).mark (some (.ref e))) (A₀.deeper (envOf name scope L a cd)) (envOf name scope L a cd) E := by passes_own) :
    wpAny (model prog w) (A₀.deeper (envOf name scope L a cd)) (noteFrame (.ref e) (envOf name scope L a cd))
      (fun _ s₂ => wpAny (model prog w) (A₀.deeper (envOf name scope L a cd)) (setFlight (.ref e) none) (fun _ s₃ =>
        wpAny (model prog w) (A₀.deeper (envOf name scope L a cd)) (handleBy (.ref e) (envOf name scope L a cd) (.ExceptHandler (some (.Name x np)) none (b₀ :: suite) pos :: rest)) Q E s₃) E s₂) E s' := by
  obtain ⟨⟨B, a0, hB, hBG, hl, hfl⟩, on⟩ := R
  have hL : B.get? L = none := by
    obtain ⟨_, ⟨L', _, hf, hn', _⟩, _⟩ := hfl.2.2.1
    obtain rfl : L = L' := Option.some.inj hf
    exact hn'
  have nee : ∀ q ∈ news, q.1 ≠ e := fun q hq z => by
    have h1 := (hl q hq).1
    rw [z, hfl.2.1] at h1
    cases h1
  refine looksX (Around.frames_deeper K.stack) rfl hfl fun h₄ hheld₄ hsm₄ dk₄ => ?_
  refine landsX hheld₄ fun h₅ hheld hsm₅' dk₅ => ?_
  have hsm₅ := hsm₄.trans hsm₅'
  obtain ⟨g₅, T₅, F₅, K₅⟩ := kts_ground K F hBG hheld.1 (hsm.trans hsm₅)
  have X₅ : KF.In g₅ := XB.keeps K₅.stays
  have P₅ : TopRead p loose mg mb g₅ := topRead_of (TB.keeps K₅.stays)
  obtain ⟨ob, hob, hobc⟩ := hheld.there
  obtain ⟨nm, q', N, bs, bm, hdct, sn, sub, ab, col, dd, k0, k1, k2, k3, k5, newId, hC, hbase, hbT⟩ := kts_cls X₅ q
  have hC₅ := F₅.keep _ _ hC
  refine wpAny_handleBy_cons (codeAny_handlers_test (name_K F₅ X₅ P₅ ex ?_ hk hx hd)) (by intro q; cases q)
  refine wpAny_excMatches_sub_self hC₅ hob hobc hbase (codeAny_handlers_suite ?_)
  refine againX hheld fun h₆ hfl₆ hsm₆ dk₆ => ?_
  obtain ⟨g₆, T₆, F₆, K₆⟩ := kts_ground K F hBG hfl₆.1 ((hsm.trans hsm₅).trans hsm₆)
  obtain ⟨oe, ws, hoe, hoe1, hoe2, hoe3⟩ := on.dk ((dk₄.trans dk₅).trans dk₆)
  obtain ⟨oe', _, hoe', hoec, hoed, _⟩ := hfl₆.first
  rw [hoe] at hoe'
  cases hoe'
  have ne₆ : g₆.get? e = none := T₆.none_ _ (kts_fresh F hBG hfl₆.2.1 fun o ho m => by
    obtain ⟨_, o', ho', hd⟩ := K.frames.mem m
    rw [ho] at ho'
    cases ho'
    obtain ⟨sl, hs⟩ := ((hsm.trans hsm₅).trans hsm₆) _ _ (F.keep _ _ ho) hd
    rw [hoe] at hs
    cases hs
    exact hd _ hoe2)
  have Nl : News g₆ L h₆ news := fun q hq => ⟨hfl₆.1 _ _ (hl q hq).1, (fun z => by have := (hl q hq).1; rw [z, hL] at this; cases this), T₆.none_ _ (kts_none F.keep (hl q hq).2.1)⟩
  have N₆ : News g₆ L h₆ ((e, oe) :: news) := News.more F₆ Nl hoe (fun es n q => by rw [hoe2] at q; cases q) ne₆
  have X₆ : KF.In g₆ := XB.keeps K₆.stays
  have P₆ : Top p loose mean mg mb g₆ := TB.keeps K₆.stays
  have D₆ : KtsDicts (outer.filterMap (·.frame)) g₆ := D.turn T₆
  exact wpAny_passesOwnAt hE (k h₆ g₆ oe ws (T0.trans T₆) F₆ N₆ hoec hoe1 hoe2 hoe3 nee K₆ X₆ P₆ D₆)
theorem caughtXB (R : FlyX base G (envOf name scope L a cd :: outer) e C dx cx news s'.heap) (F : Fr g L G m) (K : Below A₀ base outer g) (hsm : G.UpToSlots s'.heap) (XB : KF.In base) (TB : Top p loose mean mg mb base)
    (D : KtsDicts (outer.filterMap (·.frame)) g) (T0 : KtsTurn (outer.filterMap (·.frame)) g₀ g)
    (ex : nsIn KF mainGlobals x = some (some (.ref C))) (q : ktsIn KF C "BaseException" = true)
    (k : ∀ h' g' oe ws tk, KtsTurn (outer.filterMap (·.frame)) g₀ g' → Fr g' L h' (fun y => if y = n then some (.ref e) else m y) → News g' L h' ((e, oe) :: news) → oe.cls = .ref C → oe.dict = some dx → oe.data = .fields ws → ws[2]? = some cx → (∀ q ∈ news, q.1 ≠ e) → Below A₀ base outer g' → KF.In g' → Top p loose mean mg mb g' → KtsDicts (outer.filterMap (·.frame)) g' →
      wpAny (model prog w) ((A₀.deeper (envOf name scope L a cd)).mark (some (.ref e))) (execs (b₀ :: suite) (envOf name scope L a cd))
        (fun f s₄ => wpAny (model prog w) (A₀.deeper (envOf name scope L a cd)) (do bindName (envOf name scope L a cd) n .none; unbindBehindTheSuite (envOf name scope L a cd) n pos) (fun _ s₅ => Q f s₅) E s₄)
        (AsSuiteRaised (model prog w) ((A₀.deeper (envOf name scope L a cd)).mark (some (.ref e))) (envOf name scope L a cd) n pos (notedBy (model prog w) ((A₀.deeper (envOf name scope L a cd)).mark (some (.ref e))) (envOf name scope L a cd) (cameBackBy (model prog w) (A₀.deeper (envOf name scope L a cd)) (envOf name scope L a cd) E)))
        { s' with heap := h', toks := tk })
    (hk : scope.kind = .function := by rfl) (hlo : (envOf name scope L a cd).kindOf n = some .local := by rfl) (hx : (envOf name scope L a cd).kindOf x = some .globalImplicit := by rfl) (hd : (x == ("__debug__" : Str)) = false := by decide) :
    wpAny (model prog w) (A₀.deeper (envOf name scope L a cd)) (noteFrame (.ref e) (envOf name scope L a cd))
      (fun _ s₂ => wpAny (model prog w) (A₀.deeper (envOf name scope L a cd)) (setFlight (.ref e) none) (fun _ s₃ =>
        wpAny (model prog w) (A₀.deeper (envOf name scope L a cd)) (handleBy (.ref e) (envOf name scope L a cd) (.ExceptHandler (some (.Name x np)) (some n) (b₀ :: suite) pos :: rest)) Q E s₃) E s₂) E s' := by
  obtain ⟨⟨B, a0, hB, hBG, hl, hfl⟩, on⟩ := R
  have hL : B.get? L = none := by
    obtain ⟨_, ⟨L', _, hf, hn', _⟩, _⟩ := hfl.2.2.1
    obtain rfl : L = L' := Option.some.inj hf
    exact hn'
  have nee : ∀ q ∈ news, q.1 ≠ e := fun q hq z => by
    have h1 := (hl q hq).1
    rw [z, hfl.2.1] at h1
    cases h1
  refine looksX (Around.frames_deeper K.stack) rfl hfl fun h₄ hheld₄ hsm₄ dk₄ => ?_
  refine landsX hheld₄ fun h₅ hheld hsm₅' dk₅ => ?_
  have hsm₅ := hsm₄.trans hsm₅'
  obtain ⟨g₅, T₅, F₅, K₅⟩ := kts_ground K F hBG hheld.1 (hsm.trans hsm₅)
  have X₅ : KF.In g₅ := XB.keeps K₅.stays
  have P₅ : TopRead p loose mg mb g₅ := topRead_of (TB.keeps K₅.stays)
  obtain ⟨ob, hob, hobc⟩ := hheld.there
  obtain ⟨nm, q', N, bs, bm, hdct, sn, sub, ab, col, dd, k0, k1, k2, k3, k5, newId, hC, hbase, hbT⟩ := kts_cls X₅ q
  have hC₅ := F₅.keep _ _ hC
  refine wpAny_handleBy_cons (codeAny_handlers_test (name_K F₅ X₅ P₅ ex ?_ hk hx hd)) (by intro q; cases q)
  refine wpAny_excMatches_sub_self hC₅ hob hobc hbase (codeAny_handlers_suite_as ?_)
  refine againX hheld fun h₆ hfl₆ hsm₆ dk₆ => ?_
  obtain ⟨g₆, T₆, F₆, K₆⟩ := kts_ground K F hBG hfl₆.1 ((hsm.trans hsm₅).trans hsm₆)
  obtain ⟨oe, ws, hoe, hoe1, hoe2, hoe3⟩ := on.dk ((dk₄.trans dk₅).trans dk₆)
  obtain ⟨oe', _, hoe', hoec, hoed, _⟩ := hfl₆.first
  rw [hoe] at hoe'
  cases hoe'
  have ne₆ : g₆.get? e = none := T₆.none_ _ (kts_fresh F hBG hfl₆.2.1 fun o ho m => by
    obtain ⟨_, o', ho', hd⟩ := K.frames.mem m
    rw [ho] at ho'
    cases ho'
    obtain ⟨sl, hs⟩ := ((hsm.trans hsm₅).trans hsm₆) _ _ (F.keep _ _ ho) hd
    rw [hoe] at hs
    cases hs
    exact hd _ hoe2)
  have Nl : News g₆ L h₆ news := fun q hq => ⟨hfl₆.1 _ _ (hl q hq).1, (fun z => by have := (hl q hq).1; rw [z, hL] at this; cases this), T₆.none_ _ (kts_none F.keep (hl q hq).2.1)⟩
  have N₆ : News g₆ L h₆ ((e, oe) :: news) := News.more F₆ Nl hoe (fun es n q => by rw [hoe2] at q; cases q) ne₆
  have X₆ : KF.In g₆ := XB.keeps K₆.stays
  have P₆ : Top p loose mean mg mb g₆ := TB.keeps K₆.stays
  have D₆ : KtsDicts (outer.filterMap (·.frame)) g₆ := D.turn T₆
  refine stN F₆ (news := (e, oe) :: news) N₆ (fun h₇ F₇ N₇ => ?_) hk hlo
  exact k h₇ g₆ oe ws _ (T0.trans T₆) F₇ N₇ hoec hoe1 hoe2 hoe3 nee K₆ X₆ P₆ D₆
end
end SX8
section SX9
open Builtin Builtin.ObjectAttr
theorem x_getattr {prog : Program} {w : World} {A : Around} {E : Value → Shared → Prop} {s : Shared} {K : Frag} {C x : Addr} {ox od : Obj} {name : Str} {v : Value} {Q : Value → Shared → Prop} {expr : Bool}
    (X : K.In s.heap) (I : InstAt s.heap x ox C (some od)) (hga : findIn K (.ref C) "__getattribute__" = some (some (.builtin "BaseException.__getattribute__"))) (hgt : findIn K (.ref C) "__getattr__" = some none)
    (hb : mroIn K C (.type "BaseException") = some true) (hf : findObj K C (some od) name = some (.value v)) (hh : handedIn v = true) (h : Q v { s with toks := s.toks + 1 }) : wpAny (model prog w) A (getAttr (.ref x) name expr) Q E s := by
  obtain ⟨hp, g, d, t, os⟩ := s
  have L0 := I.type (M := model prog w)
  have L1 := looks_findIn (M := model prog w) X hga
  have L2 := looks_findIn (M := model prog w) X hgt
  have L3 := looks_find (M := model prog w) X I hf
  have FX := PySem.F.excAttr_ValueError
  have f3 := FX.ga.bind (.ref x)
  have hx0 : (expr && onTheHeap (Value.builtin "BaseException.__getattribute__")) = false := by cases expr <;> rfl
  have hx2 : (Value.builtin "BaseException.__getattribute__" == Value.builtin "object.__getattribute__") = false := by decide +kernel
  have hx1 : (onTheHeap (Value.ref C) && Value.builtin "BaseException.__getattribute__" == Value.builtin "object.__getattribute__") = false := by rw [hx2]; rfl
  have sub : Looks (model prog w) hp (isInstance (.ref x) (.type "BaseException")) true := L0.andThen (looks_mroIn X hb)
  unfold getAttr getAttrBy
  refine wpAny_bind (wpAny_mkText (wpAny_holding (wpAny_bind (L0.at (wpAny_bind (L1.at ?_))))))
  dsimp only
  rw [hx1, if_neg (by decide)]
  unfold getAttrByItsOwn hookBefore
  refine wpAny_bind ?_
  rw [if_pos (show onTheHeap (Value.ref C) = true from rfl)]
  refine L2.at ?_
  refine wpAny_bind (wpAny_attempt (wpAny_holding ?_))
  unfold callGetattribute
  rw [hx0, if_neg (by decide)]
  unfold boundAndCalled
  rw [f3]
  refine wpAny_bind (wpAny_pure (wpAny_call (codeAny_call_builtin FX.ga.plain PySem.F.entry_bexc_ga (@check_slot (model prog w) _ _ _ "BaseException.__getattribute__" "BaseException" "__getattribute__" (.ref x) [.str name t] [] _ (by decide +kernel) (by decide +kernel) sub (PySem.F.args_bexc_ga _ _) ?_))))
  unfold Builtin.«object.__getattribute__»
  refine wpAny_bind (m := slotArgs "__getattribute__" 1 ⟨[.ref x, .str name t], []⟩) (wpAny_pure (a := (Value.ref x, [Value.str name t])) ?_)
  refine wpAny_bind (wpAny_pure (a := name) (wpAny_bind (L0.at (wpAny_bind (L3.at ?_)))))
  refine wpAny_pure ?_
  show wpAny _ _ (handedOut v) _ _ _
  rw [handedOut_of hh]
  exact wpAny_pure h
theorem msg_find (w : World) (hs : Int) (k t : Tok) (msg : Str) : findObj (hd.heap_39 w.params) 63 (some (msgD hs k msg t)) (Str.ofString "message") = some (.value (.str msg t)) := by kernel_rfl
theorem mro63 (w : World) : mroIn (hd.heap_39 w.params) 63 (.type "BaseException") = some true := by kernel_rfl
theorem x_message {w : World} {A : Around} {E : Value → Shared → Prop} {s : Shared} {x dx : Addr} {ox : Obj} {ws : Array Value} {hs : Int} {k t : Tok} {msg : Str} {Q : Value → Shared → Prop} {expr : Bool}
    (X : (hd.heap_39 w.params).In s.heap) (hx : s.heap.get? x = some ox) (hc : ox.cls = .ref 63) (hd1 : ox.dict = some dx) (hd2 : ox.data = .fields ws) (ho : s.heap.get? dx = some (msgD hs k msg t))
    (h : Q (.str msg t) { s with toks := s.toks + 1 }) : wpAny (model PySem.Challenge.rw_xm0732_01.row.prog w) A (getAttr (.ref x) (Str.ofString "message") expr) Q E s :=
  x_getattr X ⟨hx, hc, by unfold notCls; rw [hd2], by rw [hd1]; exact ho⟩ (fg63 w) (fh63 w) (mro63 w) (msg_find w hs k t msg) rfl h
end SX9
section SB16
structure Hid (P : Prop) : Prop where
  out : P
theorem under_mark_depth (A : Around) (h : Option Value) (c : Code) : ((A.mark h).under c).depth = (A.under c).depth := rfl
/-- a contract of a call that raises: the exception's class is C, its message msg -/
def CtrXK (w : World) (f : Addr) (dn : Nat) (news keep : List (Addr × Obj)) (vs : List Value) (C : Addr) (msg : Str) : Prop :=
  ∀ (mean : ExcName → Option Value) (mg mb : Str → Option Value) (dp un : Nat) (gd : Option (List Code)) (cn : Str) (cs : Scope) (a : Addr) (ccd : Value) (cl : List (Str × Addr)) (outer : List Env) (A₀ : Around) (base h₀ : Heap) (L : Addr)
    (m : Str → Option Value) (s : Shared) (Q E : Value → Shared → Prop),
    Below A₀ base outer h₀ → Fr h₀ L s.heap m → (hd.heap_39 w.params).In h₀ → News h₀ L s.heap news →
    Top hd.view_39 (looseW hd.view_39 [Str.ofString "MOST_VALUE", Str.ofString "fraction", Str.ofString "MOST_SIZE", Str.ofString "length", Str.ofString "length_styles", Str.ofString "Look"]) mean mg mb h₀ → (hd.heap_39 w.params).In base → Top hd.view_39 (looseW hd.view_39 [Str.ofString "MOST_VALUE", Str.ofString "fraction", Str.ofString "MOST_SIZE", Str.ofString "length", Str.ofString "length_styles", Str.ofString "Look"]) mean mg mb base → KtsDicts (outer.filterMap (·.frame)) h₀ →
    cs.kind = .function → dp + dn < recursionLimit → un + 8 * dn < cLine →
    (∀ g e dx cx hs k t h' tk', (C = 51 → cx = .none) → Fr h₀ L g m → Below (ktrTop dp un gd cn cs L a ccd cl outer) base (envX cn cs L a ccd cl :: outer) g → FlyX base g (envX cn cs L a ccd cl :: outer) e C dx cx ((dx, msgD hs k msg t) :: keep) h' → g.UpToSlots h' → E (.ref e) { s with heap := h', toks := tk' }) →
    wpAny (model PySem.Challenge.rw_xm0732_01.row.prog w) (ktrTop dp un gd cn cs L a ccd cl outer) (call (.ref f) vs) Q E s
abbrev CtrX (w : World) (f : Addr) (dn : Nat) (news : List (Addr × Obj)) (vs : List Value) (C : Addr) (msg : Str) : Prop := CtrXK w f dn news news vs C msg
theorem CtrXK.use {w : World} {f : Addr} {dn : Nat} {news keep : List (Addr × Obj)} {vs : List Value} {C : Addr} {msg : Str}
    {mean : ExcName → Option Value} {mg mb : Str → Option Value} {dp un : Nat} {gd : Option (List Code)} {cn : Str} {cs : Scope} {a : Addr} {ccd : Value} {cl : List (Str × Addr)} {outer : List Env} {A₀ : Around} {base h₀ : Heap} {L : Addr}
    {m : Str → Option Value} {s : Shared} {Q E : Value → Shared → Prop} (c : CtrXK w f dn news keep vs C msg)
    (B : Below A₀ base outer h₀) (F : Fr h₀ L s.heap m) (X : (hd.heap_39 w.params).In h₀) (N : News h₀ L s.heap news)
    (T : Top hd.view_39 (looseW hd.view_39 [Str.ofString "MOST_VALUE", Str.ofString "fraction", Str.ofString "MOST_SIZE", Str.ofString "length", Str.ofString "length_styles", Str.ofString "Look"]) mean mg mb h₀) (XB : (hd.heap_39 w.params).In base) (TB : Top hd.view_39 (looseW hd.view_39 [Str.ofString "MOST_VALUE", Str.ofString "fraction", Str.ofString "MOST_SIZE", Str.ofString "length", Str.ofString "length_styles", Str.ofString "Look"]) mean mg mb base) (D : KtsDicts (outer.filterMap (·.frame)) h₀)
    (hk : cs.kind = .function) (hd : dp + dn < recursionLimit) (hu : un + 8 * dn < cLine)
    (throw : (∀ g e dx cx hs k t h' tk', (C = 51 → cx = .none) → Fr h₀ L g m → Below (ktrTop dp un gd cn cs L a ccd cl outer) base (envX cn cs L a ccd cl :: outer) g → FlyX base g (envX cn cs L a ccd cl :: outer) e C dx cx ((dx, msgD hs k msg t) :: keep) h' → g.UpToSlots h' → E (.ref e) { s with heap := h', toks := tk' })) :
    wpAny (model PySem.Challenge.rw_xm0732_01.row.prog w) (ktrTop dp un gd cn cs L a ccd cl outer) (call (.ref f) vs) Q E s :=
  c mean mg mb dp un gd cn cs a ccd cl outer A₀ base h₀ L m s Q E B F X N T XB TB D hk hd hu throw
theorem dicts_in {h₀ g : Heap} {L : Addr} {m : Str → Option Value} {cn : Str} {cs : Scope} {a : Addr} {ccd : Value} {cl : List (Str × Addr)} {outer : List Env} (D : KtsDicts (outer.filterMap (·.frame)) h₀) (F : Fr h₀ L g m) : KtsDicts ((envX cn cs L a ccd cl :: outer).filterMap (·.frame)) g := fun b hb => by
  obtain ⟨env, he, hf⟩ := List.mem_filterMap.mp hb
  rcases List.mem_cons.mp he with rfl | he
  · obtain rfl : L = b := Option.some.inj hf
    obtain ⟨oL, es, ep, hL, hd, _⟩ := F.ns
    exact ⟨oL, es, ep, hL, hd⟩
  · obtain ⟨o, es, n, ho, hd⟩ := D b (List.mem_filterMap.mpr ⟨env, he, hf⟩)
    exact ⟨o, es, n, F.keep _ _ ho, hd⟩
theorem FlyX.turn {base g g8 : Heap} {l : List Env} {e C dx : Addr} {cx : Value} {news : List (Addr × Obj)} {h : Heap} (T : KtsTurn (l.filterMap (·.frame)) g g8) (R : FlyX base g8 l e C dx cx news h) : FlyX base g l e C dx cx news h := by
  obtain ⟨⟨B, a0, h1, h2, h3, h4⟩, on⟩ := R
  refine ⟨⟨B, a0, h1, fun b o q nm => h2 b o (T.other b o q nm) nm, fun q hq => ⟨(h3 q hq).1, ?_, (h3 q hq).2.2⟩, h4⟩, on⟩
  cases z : g.get? q.1 with
  | none => rfl
  | some o =>
    obtain ⟨sl, hs⟩ := T.up z
    have := (h3 q hq).2.1
    rw [hs] at this
    cases this
theorem upto_turn {fs : List Addr} {g g8 : Heap} (T : KtsTurn fs g g8) : g.UpToSlots g8 := fun b o e _ => T.up e
section
variable {M : Model} {E E2 : Value → Shared → Prop} {s : Shared} {base h₀ g hh : Heap} {outer : List Env} {L L' a a' e C dx t : Addr} {cx : Value} {m m' : Str → Option Value} {name cn : Str} {scope cs : Scope} {cd ccd : Value} {news rest : List (Addr × Obj)} {tk : Nat} {dp un : Nat} {gd : Option (List Code)} {cl : List (Str × Addr)} {msg : Str} {hs : Int} {k : Tok} {tm : Tok} {o3 : Obj}
theorem throw_end (hthrow : (∀ (g : Heap) (e dx : Addr) (cx : Value) (hs : Int) (k t : Tok) (h' : Heap) (tk' : Nat), (C = 51 → cx = .none) → Fr h₀ L g m → Below (ktrTop dp un gd cn cs L a ccd cl outer) base (envX cn cs L a ccd cl :: outer) g → FlyX base g (envX cn cs L a ccd cl :: outer) e C dx cx ((dx, msgD hs k msg t) :: news) h' → g.UpToSlots h' → E (.ref e) { s with heap := h', toks := tk' }))
    (FG : Fr h₀ L g m) (B : Below (ktrTop dp un gd cn cs L a ccd cl outer) base (envX cn cs L a ccd cl :: outer) g) (F : Fr g L' hh m') (N : News g L' hh ((dx, msgD hs k msg tm) :: (e, excObj C t (some dx) .none) :: (t, o3) :: rest))
    (lt9 : ∀ p ∈ rest, p.1 < t) (lt8 : @LT.lt Nat _ t e) (lt7 : @LT.lt Nat _ e dx) (hs' : ∀ p ∈ news, p ∈ rest) (hk : scope.kind = .function) :
    wpAny M ((ktrTop dp un gd cn cs L a ccd cl outer).deeper (envOf name scope L' a' cd)) (leaving (envOf name scope L' a' cd) (.ref e)) (fun _ s'' => E (.ref e) s'') E2 { s with heap := hh, toks := tk } := by
  have N' : News g L' hh ((e, excObj C t (some dx) .none) :: (dx, msgD hs k msg tm) :: news) := fun p hp => by
    rcases List.mem_cons.mp hp with rfl | hp
    · exact N _ (.tail _ (.head _))
    · rcases List.mem_cons.mp hp with rfl | hp
      · exact N _ (.head _)
      · exact N _ (.tail _ (.tail _ (.tail _ (hs' p hp))))
  have hne : ∀ p ∈ (dx, msgD hs k msg tm) :: news, p.1 ≠ e := fun p hp => by
    rcases List.mem_cons.mp hp with rfl | hp
    · exact Nat.ne_of_gt lt7
    · exact Nat.ne_of_lt (Nat.lt_trans (lt9 p (hs' p hp)) lt8)
  exact leave_newX B F N' hne (fun h' fly up => hthrow g e dx .none hs k tm h' tk (fun _ => rfl) FG B fly up) hk
theorem pass_end {news' : List (Addr × Obj)} {G : Heap} (hcx : C = 51 → cx = .none) (hthrow : (∀ (g : Heap) (e dx : Addr) (cx : Value) (hs : Int) (k t : Tok) (h' : Heap) (tk' : Nat), (C = 51 → cx = .none) → Fr h₀ L g m → Below (ktrTop dp un gd cn cs L a ccd cl outer) base (envX cn cs L a ccd cl :: outer) g → FlyX base g (envX cn cs L a ccd cl :: outer) e C dx cx ((dx, msgD hs k msg t) :: news) h' → g.UpToSlots h' → E (.ref e) { s with heap := h', toks := tk' }))
    (FG : Fr h₀ L g m) (B : Below (ktrTop dp un gd cn cs L a ccd cl outer) base (envX cn cs L a ccd cl :: outer) g) (F : Fr g L' G m') (fly : FlyX base G (envOf name scope L' a' cd :: envX cn cs L a ccd cl :: outer) e C dx cx ((dx, msgD hs k msg tm) :: news') hh) (up : G.UpToSlots hh)
    (hs' : ∀ p ∈ news, p ∈ news') :
    wpAny M ((ktrTop dp un gd cn cs L a ccd cl outer).deeper (envOf name scope L' a' cd)) (leaving (envOf name scope L' a' cd) (.ref e)) (fun _ s'' => E (.ref e) s'') E2 { s with heap := hh, toks := tk } := by
  have fly' : FlyX base G (envOf name scope L' a' cd :: envX cn cs L a ccd cl :: outer) e C dx cx ((dx, msgD hs k msg tm) :: news) hh := by
    obtain ⟨⟨B, a0, h1, h2, h3, h4⟩, on⟩ := fly
    refine ⟨⟨B, a0, h1, h2, fun q hq => h3 q ?_, h4⟩, on⟩
    rcases List.mem_cons.mp hq with rfl | hq
    · exact .head _
    · exact .tail _ (hs' q hq)
  exact leave_onX B F fly' up fun h' fly up => hthrow g e dx cx hs k tm h' tk hcx FG B fly up
theorem throw_in {K : Frag} {g8 : Heap} {e0 : Addr} {oe : Obj} {ws : Array Value} (hthrow : (∀ (g : Heap) (e dx : Addr) (cx : Value) (hs : Int) (k t : Tok) (h' : Heap) (tk' : Nat), ((63 : Addr) = 51 → cx = .none) → Fr h₀ L g m → Below (ktrTop dp un gd cn cs L a ccd cl outer) base (envX cn cs L a ccd cl :: outer) g → FlyX base g (envX cn cs L a ccd cl :: outer) e 63 dx cx ((dx, msgD hs k msg t) :: news) h' → g.UpToSlots h' → E (.ref e) { s with heap := h', toks := tk' }))
    (FG : Fr h₀ L g m) (B : Below (ktrTop dp un gd cn cs L a ccd cl outer) base (envX cn cs L a ccd cl :: outer) g) (T : KtsTurn ((envX cn cs L a ccd cl :: outer).filterMap (·.frame)) g g8) (B8 : Below (ktrTop dp un gd cn cs L a ccd cl outer) base (envX cn cs L a ccd cl :: outer) g8)
    (F : Fr g8 L' hh m') (hX : K.In hh) (N : News g8 L' hh ((dx, msgD hs k msg tm) :: (e, excObj 63 t (some dx) .none) :: (t, o3) :: rest)) (h0 : (e0, oe) ∈ rest) (hd0 : oe.data = .fields ws) (h2 : ws[2]? = some .none)
    (lt9 : ∀ p ∈ rest, p.1 < t) (lt8 : @LT.lt Nat _ t e) (lt7 : @LT.lt Nat _ e dx) (hs' : ∀ p ∈ news, p ∈ rest) (hk : scope.kind = .function) :
    RaiseP K 63 (some (.ref e0)) (fun v s' => wpAny M ((ktrTop dp un gd cn cs L a ccd cl outer).deeper (envOf name scope L' a' cd)) (leaving (envOf name scope L' a' cd) v) (fun _ s'' => E v s'') E2 s') (.ref e) { s with heap := hh, toks := tk } := by
  have he0 := lt9 _ h0
  have hne0 : ∀ p ∈ (t, o3) :: rest, p.1 ≠ e := fun p hp => by
    rcases List.mem_cons.mp hp with rfl | hp
    · exact Nat.ne_of_lt lt8
    · exact Nat.ne_of_lt (Nat.lt_trans (lt9 p hp) lt8)
  refine ⟨e, t, dx, rfl, hX, (N _ (.tail _ (.head _))).1, Nat.ne_of_lt (Nat.lt_trans he0 lt8), ⟨oe, ws, (N _ (.tail _ (.tail _ (.tail _ h0)))).1, hd0, h2⟩, ?_⟩
  have e' : Obj.mapFields (·.setIfInBounds 2 (.ref e0)) (excObj 63 t (some dx) .none) = excObj 63 t (some dx) (.ref e0) := rfl
  obtain ⟨F₁, N₁⟩ := news_upd (pre := [(dx, msgD hs k msg tm)]) (post := (t, o3) :: rest) F N (fun p hp => by rw [List.mem_singleton.mp hp]; exact Nat.ne_of_gt lt7) hne0 e' rfl
  have N' : News g8 L' (hh.update e (Obj.mapFields (·.setIfInBounds 2 (.ref e0)))) ((e, excObj 63 t (some dx) (.ref e0)) :: (dx, msgD hs k msg tm) :: news) := fun p hp => by
    rcases List.mem_cons.mp hp with rfl | hp
    · exact N₁ _ (.tail _ (.head _))
    · rcases List.mem_cons.mp hp with rfl | hp
      · exact N₁ _ (.head _)
      · exact N₁ _ (.tail _ (.tail _ (.tail _ (hs' p hp))))
  have hne : ∀ p ∈ (dx, msgD hs k msg tm) :: news, p.1 ≠ e := fun p hp => by
    rcases List.mem_cons.mp hp with rfl | hp
    · exact Nat.ne_of_gt lt7
    · exact Nat.ne_of_lt (Nat.lt_trans (lt9 p (hs' p hp)) lt8)
  exact leave_newX B8 F₁ N' hne (fun h' fly up => hthrow g e dx (.ref e0) hs k tm h' tk (fun q => absurd q (by decide)) FG B (fly.turn T) ((upto_turn T).trans up)) hk
end
theorem ct_own_neg (w : World) (x : Str) (tx : Tok) (r d V S : Addr) (sz : Value) (f0 f1 a b : Int) (h1 h2 h3 : Int) (k1 k2 k3 : Tok) (news : List (Addr × Obj)) (hr : (r, instObj 317 d) ∈ news) (hd : (d, lookO h1 h2 h3 k1 k2 k3 V sz S) ∈ news)
   (hfs : ∀ nw, (∀ p ∈ news, p ∈ nw) → CtrW w 246 13 nw [.ref r] (OkM f0 f1 nw))
   (hl : ∀ (t : Tok) (W P : Addr) (t1 t2 t3 t4 : Tok) (c1 c2 : Nat) (nw : List (Addr × Obj)), (W, tup2 f0 f1 t1 t2 c1) ∈ nw → (P, tup2 f0 f1 t3 t4 c2) ∈ nw → Ctr 210 10 nw [.str x t, .ref W, .ref P] (OkT nw a b))
   (ha : a < 0) (hb : 0 < b) (m0 : IntMulOk a 1) (m1 : IntMulOk 0 b) (m2 : IntMulOk 100000000000000000000000000000000000000000000000000 b) (hlt : a < 100000000000000000000000000000000000000000000000000 * b) :
    CtrX w 335 16 news [.str x tx, .ref r] 63 (Str.ofString "a size of letters below nought") := by
  k_with_none; (k_with "binaryOp FloorDiv int int" => (refine floordiv_int (by first | assumption | omega) ?_ (Or.inl (dv_of_sm (by assumption))))); refine mark_use ?_; k_fill; intro _; (try unfold CtrX); unfold CtrXK; intro mean mg mb dp un gd cn cs a ccd cl outer A₀ base h₀ L m s Q E B F X N T XB TB D hk hdp hun hthrow
  replace XB := Hid.mk XB
  replace TB := Hid.mk TB
  refine wpAny_call ?_
  k_dflt (refine' code_def ?k1 ?k2 ?k3 ?k4 ?k5 ?kA ?kF ?kK ?k6 ?k7 ?k8 ?k9 ?kB ?_ ?c2 ?c3 ?c4 ?c5; (case kA => exact rfl); (case kF => exact rfl); (case kK => first | exact rfl | assumption); (case k1 => k_asm); (case k2 => k_asm); (case k3 => k_asm); (case k4 => k_asm); (case k5 => k_asm); (case k6 => k_is); (case k7 => k_is); (case k8 => ktr_room); (case k9 => first | exact BindsTo.of_eq rfl | exact binds_K (by k_in) rfl (by k_is) rfl rfl rfl); (case c5 => decide); (case kB => exact locs rfl); (case c2 => exact rfl); (case c3 => exact rfl); (case c4 => exact rfl); k_whole; intro g' L' h' FG' F' N' B' X' T'; (try dsimp only); (try k_lift B'); (try k_fold))
  k_with "call ref" => (k_here; (with_reducible show wpAny _ _ (call (Value.ref 246) _) _ _ _); (k_dflt (refine' CtrW.use (hfs _ ?hq) ?k1 ?k2 ?k3 ?k4 ?k5 ?kK ?kd ?ku ?_; (case k1 => k_asm); (case k2 => k_asm); (case k3 => k_asm); (case k4 => first | k_asm | exact cb_drop (by assumption) (by kcj_all)); (case k5 => k_asm); (case kK => first | exact rfl | assumption); (case kd => ktr_room); (case ku => ktr_units); (case hq => (intro p hp; repeat (first | exact hp | refine List.Mem.tail _ ?_))); k_whole)); intro r9 h9 tk9 n9 F9 N9 ho9; (obtain ⟨D9, t9, u9, c9, e9, q9⟩ := OkM.out ho9); clear ho9; subst q9; subst e9; (try dsimp only); (try k_sweep); (try k_fold))
  k_with "call ref" => (k_here; (with_reducible show wpAny _ _ (call (Value.ref 210) _) _ _ _); (k_dflt (refine' Ctr.use (hl _ _ _ _ _ _ _ _ _ _ ?hx ?hy) ?k1 ?k2 ?k3 ?k4 ?k5 ?kK ?kd ?ku ?_; (case k1 => k_asm); (case k2 => k_asm); (case k3 => k_asm); (case k4 => first | k_asm | exact cb_drop (by assumption) (by kcj_all)); (case k5 => k_asm); (case kK => first | exact rfl | assumption); (case kd => ktr_room); (case ku => ktr_units); (case hx => k_mem); (case hy => k_mem); k_whole)); intro r9 h9 tk9 n9 F9 N9 ho9; (obtain ⟨D9, t9, u9, c9, e9, q9, l9⟩ := OkT.out ho9); clear ho9; subst q9; subst e9; (try k_lt l9); (try dsimp only); (try k_sweep); (try k_fold))
  k_with "call ref" => (k_here; (with_reducible show wpAny _ _ (call (Value.ref 109) _) _ _ _); (k_dflt (refine' Ctr.use (ct_compare _ _ _ _ _ _ _ ?hx m0 m1) ?k1 ?k2 ?k3 ?k4 ?k5 ?kK ?kd ?ku ?_; (case k1 => k_asm); (case k2 => k_asm); (case k3 => k_asm); (case k4 => first | k_asm | exact cb_drop (by assumption) (by kcj_all)); (case k5 => k_asm); (case kK => first | exact rfl | assumption); (case kd => ktr_room); (case ku => ktr_units); (case hx => k_mem); k_whole)); intro r9 h9 tk9 n9 F9 N9 ho9; (obtain ⟨e9, t9, q9⟩ := OkI.out ho9); clear ho9; subst e9; subst q9; (try dsimp only); (try k_sweep); (try k_fold))
  k_with "call ref" => (k_here; (with_reducible show wpAny _ _ (call (Value.ref 63) _) _ _ _); (k_dflt (refine' mk_exc63 _ _ ?k1 ?k2 ?k3 ?k4 ?k5 ?kA ?kf ?kK ?kd ?_; (case k1 => k_asm); (case k2 => k_asm); (case k3 => k_asm); (case k4 => k_asm); (case k5 => k_asm); (case kA => exact rfl); (case kf => exact rfl); (case kK => first | exact rfl | assumption); (case kd => first | ktr_room | (rw [under_mark_depth]; ktr_room)); k_whole)); intro e9 dx9 tt9 hs9 k9 h9 tk9 lt9 lt8 lt7 F9 N9; (try dsimp only); (try k_sweep); (try k_fold))
  k_with "exec Raise some none" => (k_here; k_dflt (refine raise_stmt (K := Mine.hd.heap_39 w.params) (C := 63) (fx63 w) ?_); (try k_fold))
  k_steps
  all_goals first
    | (refine ⟨_, _, _, rfl, Frag.In.keeps (by assumption) (Fr.keep (by with_reducible assumption)), (N9 _ (.tail _ (.head _))).1, ?_⟩; refine' throw_end hthrow ?t1 ?t2 ?t3 ?t4 lt9 lt8 lt7 ?t8 rfl; (case t1 => k_asm); (case t2 => k_asm); (case t3 => k_asm); (case t4 => exact N9); (case t8 => (intro p hp; repeat (first | exact hp | refine List.Mem.tail _ ?_))))
theorem ct_own_great (w : World) (x : Str) (tx : Tok) (r d V S : Addr) (sz : Value) (f0 f1 a b : Int) (h1 h2 h3 : Int) (k1 k2 k3 : Tok) (news : List (Addr × Obj)) (hr : (r, instObj 317 d) ∈ news) (hd : (d, lookO h1 h2 h3 k1 k2 k3 V sz S) ∈ news)
   (hfs : ∀ nw, (∀ p ∈ news, p ∈ nw) → CtrW w 246 13 nw [.ref r] (OkM f0 f1 nw))
   (hl : ∀ (t : Tok) (W P : Addr) (t1 t2 t3 t4 : Tok) (c1 c2 : Nat) (nw : List (Addr × Obj)), (W, tup2 f0 f1 t1 t2 c1) ∈ nw → (P, tup2 f0 f1 t3 t4 c2) ∈ nw → Ctr 210 10 nw [.str x t, .ref W, .ref P] (OkT nw a b))
   (ha : 0 ≤ a) (hb : 0 < b) (m0 : IntMulOk a 1) (m1 : IntMulOk 0 b) (m2 : IntMulOk 100000000000000000000000000000000000000000000000000 b) (hlt : ¬ a < 100000000000000000000000000000000000000000000000000 * b) :
    CtrX w 335 16 news [.str x tx, .ref r] 63 (Str.ofString "a size of letters that is too great") := by
  k_with_none; (k_with "binaryOp FloorDiv int int" => (refine floordiv_int (by first | assumption | omega) ?_ (Or.inl (dv_of_sm (by assumption))))); refine mark_use ?_; k_fill; intro _; (try unfold CtrX); unfold CtrXK; intro mean mg mb dp un gd cn cs a ccd cl outer A₀ base h₀ L m s Q E B F X N T XB TB D hk hdp hun hthrow
  replace XB := Hid.mk XB
  replace TB := Hid.mk TB
  refine wpAny_call ?_
  k_dflt (refine' code_def ?k1 ?k2 ?k3 ?k4 ?k5 ?kA ?kF ?kK ?k6 ?k7 ?k8 ?k9 ?kB ?_ ?c2 ?c3 ?c4 ?c5; (case kA => exact rfl); (case kF => exact rfl); (case kK => first | exact rfl | assumption); (case k1 => k_asm); (case k2 => k_asm); (case k3 => k_asm); (case k4 => k_asm); (case k5 => k_asm); (case k6 => k_is); (case k7 => k_is); (case k8 => ktr_room); (case k9 => first | exact BindsTo.of_eq rfl | exact binds_K (by k_in) rfl (by k_is) rfl rfl rfl); (case c5 => decide); (case kB => exact locs rfl); (case c2 => exact rfl); (case c3 => exact rfl); (case c4 => exact rfl); k_whole; intro g' L' h' FG' F' N' B' X' T'; (try dsimp only); (try k_lift B'); (try k_fold))
  k_with "call ref" => (k_here; (with_reducible show wpAny _ _ (call (Value.ref 246) _) _ _ _); (k_dflt (refine' CtrW.use (hfs _ ?hq) ?k1 ?k2 ?k3 ?k4 ?k5 ?kK ?kd ?ku ?_; (case k1 => k_asm); (case k2 => k_asm); (case k3 => k_asm); (case k4 => first | k_asm | exact cb_drop (by assumption) (by kcj_all)); (case k5 => k_asm); (case kK => first | exact rfl | assumption); (case kd => ktr_room); (case ku => ktr_units); (case hq => (intro p hp; repeat (first | exact hp | refine List.Mem.tail _ ?_))); k_whole)); intro r9 h9 tk9 n9 F9 N9 ho9; (obtain ⟨D9, t9, u9, c9, e9, q9⟩ := OkM.out ho9); clear ho9; subst q9; subst e9; (try dsimp only); (try k_sweep); (try k_fold))
  k_with "call ref" => (k_here; (with_reducible show wpAny _ _ (call (Value.ref 210) _) _ _ _); (k_dflt (refine' Ctr.use (hl _ _ _ _ _ _ _ _ _ _ ?hx ?hy) ?k1 ?k2 ?k3 ?k4 ?k5 ?kK ?kd ?ku ?_; (case k1 => k_asm); (case k2 => k_asm); (case k3 => k_asm); (case k4 => first | k_asm | exact cb_drop (by assumption) (by kcj_all)); (case k5 => k_asm); (case kK => first | exact rfl | assumption); (case kd => ktr_room); (case ku => ktr_units); (case hx => k_mem); (case hy => k_mem); k_whole)); intro r9 h9 tk9 n9 F9 N9 ho9; (obtain ⟨D9, t9, u9, c9, e9, q9, l9⟩ := OkT.out ho9); clear ho9; subst q9; subst e9; (try k_lt l9); (try dsimp only); (try k_sweep); (try k_fold))
  k_with "call ref" => (k_here; (with_reducible show wpAny _ _ (call (Value.ref 109) _) _ _ _); (k_dflt (refine' Ctr.use (ct_compare _ _ _ _ _ _ _ ?hx m0 m1) ?k1 ?k2 ?k3 ?k4 ?k5 ?kK ?kd ?ku ?_; (case k1 => k_asm); (case k2 => k_asm); (case k3 => k_asm); (case k4 => first | k_asm | exact cb_drop (by assumption) (by kcj_all)); (case k5 => k_asm); (case kK => first | exact rfl | assumption); (case kd => ktr_room); (case ku => ktr_units); (case hx => k_mem); k_whole)); intro r9 h9 tk9 n9 F9 N9 ho9; (obtain ⟨e9, t9, q9⟩ := OkI.out ho9); clear ho9; subst e9; subst q9; (try dsimp only); (try k_sweep); (try k_fold))
  k_with "call ref" => (k_here; (with_reducible show wpAny _ _ (call (Value.ref 63) _) _ _ _); (k_dflt (refine' mk_exc63 _ _ ?k1 ?k2 ?k3 ?k4 ?k5 ?kA ?kf ?kK ?kd ?_; (case k1 => k_asm); (case k2 => k_asm); (case k3 => k_asm); (case k4 => k_asm); (case k5 => k_asm); (case kA => exact rfl); (case kf => exact rfl); (case kK => first | exact rfl | assumption); (case kd => first | ktr_room | (rw [under_mark_depth]; ktr_room)); k_whole)); intro e9 dx9 tt9 hs9 k9 h9 tk9 lt9 lt8 lt7 F9 N9; (try dsimp only); (try k_sweep); (try k_fold))
  k_with "exec Raise some none" => (k_here; k_dflt (refine raise_stmt (K := Mine.hd.heap_39 w.params) (C := 63) (fx63 w) ?_); (try k_fold))
  k_steps
  all_goals first
    | (refine ⟨_, _, _, rfl, Frag.In.keeps (by assumption) (Fr.keep (by with_reducible assumption)), (N9 _ (.tail _ (.head _))).1, ?_⟩; refine' throw_end hthrow ?t1 ?t2 ?t3 ?t4 lt9 lt8 lt7 ?t8 rfl; (case t1 => k_asm); (case t2 => k_asm); (case t3 => k_asm); (case t4 => exact N9); (case t8 => (intro p hp; repeat (first | exact hp | refine List.Mem.tail _ ?_))))
theorem ct_own_pass (w : World) (x : Str) (tx : Tok) (r d V S : Addr) (sz : Value) (f0 f1 : Int) (msg : Str) (h1 h2 h3 : Int) (k1 k2 k3 : Tok) (news : List (Addr × Obj)) (hr : (r, instObj 317 d) ∈ news) (hd : (d, lookO h1 h2 h3 k1 k2 k3 V sz S) ∈ news)
   (hfs : ∀ nw, (∀ p ∈ news, p ∈ nw) → CtrW w 246 13 nw [.ref r] (OkM f0 f1 nw))
   (hl : ∀ (t : Tok) (W P : Value) (nw : List (Addr × Obj)), CtrX w 210 12 nw [.str x t, W, P] 63 msg) :
    CtrX w 335 16 news [.str x tx, .ref r] 63 msg := by
  k_with_none; (k_with "binaryOp FloorDiv int int" => (refine floordiv_int (by first | assumption | omega) ?_ (Or.inl (dv_of_sm (by assumption))))); refine mark_use ?_; k_fill; intro _; (try unfold CtrX); unfold CtrXK; intro mean mg mb dp un gd cn cs a ccd cl outer A₀ base h₀ L m s Q E B F X N T XB TB D hk hdp hun hthrow
  replace XB := Hid.mk XB
  replace TB := Hid.mk TB
  refine wpAny_call ?_
  k_dflt (refine' code_def ?k1 ?k2 ?k3 ?k4 ?k5 ?kA ?kF ?kK ?k6 ?k7 ?k8 ?k9 ?kB ?_ ?c2 ?c3 ?c4 ?c5; (case kA => exact rfl); (case kF => exact rfl); (case kK => first | exact rfl | assumption); (case k1 => k_asm); (case k2 => k_asm); (case k3 => k_asm); (case k4 => k_asm); (case k5 => k_asm); (case k6 => k_is); (case k7 => k_is); (case k8 => ktr_room); (case k9 => first | exact BindsTo.of_eq rfl | exact binds_K (by k_in) rfl (by k_is) rfl rfl rfl); (case c5 => decide); (case kB => exact locs rfl); (case c2 => exact rfl); (case c3 => exact rfl); (case c4 => exact rfl); k_whole; intro g' L' h' FG' F' N' B' X' T'; (try dsimp only); (try k_lift B'); (try k_fold))
  k_with "call ref" => (k_here; (with_reducible show wpAny _ _ (call (Value.ref 246) _) _ _ _); (k_dflt (refine' CtrW.use (hfs _ ?hq) ?k1 ?k2 ?k3 ?k4 ?k5 ?kK ?kd ?ku ?_; (case k1 => k_asm); (case k2 => k_asm); (case k3 => k_asm); (case k4 => first | k_asm | exact cb_drop (by assumption) (by kcj_all)); (case k5 => k_asm); (case kK => first | exact rfl | assumption); (case kd => ktr_room); (case ku => ktr_units); (case hq => (intro p hp; repeat (first | exact hp | refine List.Mem.tail _ ?_))); k_whole)); intro r9 h9 tk9 n9 F9 N9 ho9; (obtain ⟨D9, t9, u9, c9, e9, q9⟩ := OkM.out ho9); clear ho9; subst q9; subst e9; (try dsimp only); (try k_sweep); (try k_fold))
  k_with "call ref" => (k_here; (with_reducible show wpAny _ _ (call (Value.ref 210) _) _ _ _); (k_dflt (refine' CtrXK.use (hl _ _ _ _) ?k1 ?k2 ?k3 ?k4 ?k5 ?k6 ?k7 ?k8 ?kK ?kd ?ku ?_; (case k1 => k_asm); (case k2 => k_asm); (case k3 => k_asm); (case k4 => first | k_asm | exact cb_drop (by assumption) (by kcj_all)); (case k5 => k_asm); (case k6 => exact XB.out); (case k7 => exact TB.out); (case k8 => first | assumption | exact dicts_in (by assumption) (by k_asm)); (case kK => first | exact rfl | assumption); (case kd => ktr_room); (case ku => ktr_units); k_whole)); intro g9 e9 dx9 cx9 hs9 k9 t9 h9 tk9 hcx9 FG9 BG9 fly9 up9; (try dsimp only))
  k_steps
  all_goals (refine' pass_end hcx9 hthrow ?t1 ?t2 FG9 fly9 up9 ?t8; (case t1 => k_asm); (case t2 => k_asm); (case t8 => (intro p hp; repeat (first | exact hp | refine List.Mem.tail _ ?_))))
end SB16
section SB17
theorem ct_length_bad (w : World) (x : Str) (tx : Tok) (z u : Str) (vw vp : Value) (m1 : Str) (news : List (Addr × Obj)) (hx : x.length ≤ 1000)
   (hu : unitL (Txt.strip x) unitsL = (z, u)) (hz : ∀ (tz : Tok) (nw : List (Addr × Obj)), CtrX w 179 10 nw [.str z tz] 51 m1) :
    CtrX w 210 12 news [.str x tx, vw, vp] 63 (Str.ofString "no length: " ++ x) := by
  have c_unit : ∀ (t : Tok) (nw : List (Addr × Obj)), Ctr 201 4 nw [.str x t] (OkS nw z u) := by
    intro t nw
    have c := ct_unit_of x t nw hx
    rw [hu] at c
    exact c

  k_with_none; (k_with "binaryOp FloorDiv int int" => (refine floordiv_int (by first | assumption | omega) ?_ (Or.inl (dv_of_sm (by assumption))))); refine mark_use ?_; k_fill; intro _; (try unfold CtrX); unfold CtrXK; intro mean mg mb dp un gd cn cs a ccd cl outer A₀ base h₀ L m s Q E B F X N T XB TB D hk hdp hun hthrow
  replace XB := Hid.mk XB
  replace TB := Hid.mk TB
  refine wpAny_call ?_
  k_dflt (refine' code_def ?k1 ?k2 ?k3 ?k4 ?k5 ?kA ?kF ?kK ?k6 ?k7 ?k8 ?k9 ?kB ?_ ?c2 ?c3 ?c4 ?c5; (case kA => exact rfl); (case kF => exact rfl); (case kK => first | exact rfl | assumption); (case k1 => k_asm); (case k2 => k_asm); (case k3 => k_asm); (case k4 => k_asm); (case k5 => k_asm); (case k6 => k_is); (case k7 => k_is); (case k8 => ktr_room); (case k9 => first | exact BindsTo.of_eq rfl | exact binds_K (by k_in) rfl (by k_is) rfl rfl rfl); (case c5 => decide); (case kB => exact locs rfl); (case c2 => exact rfl); (case c3 => exact rfl); (case c4 => exact rfl); k_whole; intro g' L' h' FG' F' N' B' X' T'; (try dsimp only); (try k_lift B'); (try k_fold); (try ((refine let_AX (P := fun AA9 => wpAny _ AA9 _ _ _ _) ?_); intro AA9)))
  k_with "call ref" => (k_here; (with_reducible show wpAny _ _ (call (Value.ref 201) _) _ _ _); (k_dflt (refine' Ctr.use (c_unit _ _) ?k1 ?k2 ?k3 ?k4 ?k5 ?kK ?kd ?ku ?_; (case k1 => k_asm); (case k2 => k_asm); (case k3 => k_asm); (case k4 => first | k_asm | exact cb_drop (by assumption) (by kcj_all)); (case k5 => k_asm); (case kK => first | exact rfl | assumption); (case kd => ktr_room); (case ku => ktr_units); k_whole)); intro r9 h9 tk9 n9 F9 N9 ho9; (obtain ⟨D9, t9, u9, c9, e9, q9⟩ := OkS.out ho9); clear ho9; subst q9; subst e9; (try dsimp only); (try k_sweep); (try k_fold))
  k_with "call ref" => (k_here; (with_reducible show wpAny _ _ (call (Value.ref 179) _) _ _ _); (k_dflt (refine' CtrXK.use (hz _ _) ?k1 ?k2 ?k3 ?k4 ?k5 ?k6 ?k7 ?k8 ?kK ?kd ?ku ?_; (case k1 => k_asm); (case k2 => k_asm); (case k3 => k_asm); (case k4 => first | k_asm | exact cb_drop (by assumption) (by kcj_all)); (case k5 => k_asm); (case k6 => exact XB.out); (case k7 => exact TB.out); (case k8 => first | assumption | exact dicts_in (by assumption) (by k_asm)); (case kK => first | exact rfl | assumption); (case kd => ktr_room); (case ku => ktr_units); k_whole)); intro g9 e9 dx9 cx9 hs9 k9 t9 h9 tk9 hcx9 FG9 BG9 fly9 up9; (try dsimp only))
  k_with "noteFrame ref" => (k_here; (refine' caughtX (KF := Mine.hd.heap_39 w.params) (C := 51) fly9 FG9 ?c1 up9 XB.out TB.out ?c2 KtsTurn.refl ?c3 ?c4 ?c5; (case c1 => k_asm); (case c2 => exact dicts_in (by assumption) (by k_asm)); (case c3 => kernel_rfl); (case c4 => kernel_rfl)); intro h8 g8 oe8 ws8 T8 F8 N8 oc8 od8 ot8 ox8 ne8 B8 X8 P8 D8; (try dsimp only))
  k_with "call ref" => (k_here; (with_reducible show wpAny _ _ (call (Value.ref 63) _) _ _ _); (k_dflt (refine' mk_exc63 _ _ ?k1 ?k2 ?k3 ?k4 ?k5 ?kA ?kf ?kK ?kd ?_; (case k1 => k_asm); (case k2 => k_asm); (case k3 => k_asm); (case k4 => k_asm); (case k5 => k_asm); (case kA => exact rfl); (case kf => exact rfl); (case kK => first | exact rfl | assumption); (case kd => first | ktr_room | (rw [under_mark_depth]; ktr_room)); k_whole)); intro e9 dx9 tt9 hs9 k9 h9 tk9 lt9 lt8 lt7 F9 N9; (try dsimp only); (try k_sweep); (try k_fold))
  k_with "exec Raise some none" => (k_here; k_dflt (refine raise_stmt (K := Mine.hd.heap_39 w.params) (C := 63) (fx63 w) ?_); (try k_fold))
  k_with "execs cons" => ((with_reducible refine wpAny_execs_cons ?_); (try dsimp only); (try ((rename Fr _ _ _ _ => FF9); (revert FF9); (refine let_mX (P := fun mm9 => Fr _ _ _ mm9 → _) ?_); intro mm9 FF9)); (try k_fold))
  k_steps
  all_goals (refine' throw_in (ws := ws8) hthrow ?t1 ?t2 T8 B8 F9 ?t3 N9 ?t4 ot8 ?t5 lt9 lt8 lt7 ?t8 rfl; (case t1 => k_asm); (case t2 => k_asm); (case t3 => exact Frag.In.keeps X8 (Fr.keep F9)); (case t4 => k_mem); (case t5 => rw [ox8, hcx9 rfl]); (case t8 => (intro p hp; repeat (first | exact hp | refine List.Mem.tail _ ?_))))
end SB17
section SB18
theorem ct_rd_none (w : World) (x : Str) (tx : Tok) (p1 p2 : Int) (sg wh : Str) (news : List (Addr × Obj)) (hx : x.length ≤ 1000) (hp1 : 0 ≤ p1) (hp2 : 0 ≤ p2)
   (hs1 : skP x 0 pm = p1) (hs2 : skV x 0 pm = sg) (hw1 : dgE x p1 = p2) (hw2 : Txt.slice x (some p1) (some p2) = wh) (hd0 : isOf x p2.toNat (Str.ofString ".") = false) (hlen : wh.length ≤ 60) (hne : (wh ++ Str.ofString "" == Str.ofString "") = true) :
    CtrX w 179 10 news [.str x tx] 51 (Str.ofString "no number: " ++ x) := by
  have n0 : (0 : Int) ≤ 0 := Int.le_refl 0
  have c_sign : ∀ (r d : Addr) (h1 h2 : Int) (k1 k2 tp ts : Tok), @LT.lt Nat _ d r → (∀ q ∈ news, q.1 ≠ d) → Ctr 144 4 ((r, instObj 154 d) :: (d, rdD h1 h2 k1 k2 x tx 0 tp) :: news) [.ref r, .str (Str.ofString "+-") ts] (OkR r d h1 h2 k1 k2 x tx news p1 sg) := by
    intro r d h1 h2 k1 k2 tp ts q1 q2
    have c := ct_skip r d h1 h2 k1 k2 x tx 0 tp pm ts news n0 hx q1 q2
    rw [hs1, hs2] at c
    exact c
  have c_dig : ∀ (r d : Addr) (h1 h2 : Int) (k1 k2 tp : Tok), @LT.lt Nat _ d r → (∀ q ∈ news, q.1 ≠ d) → Ctr 151 4 ((r, instObj 154 d) :: (d, rdD h1 h2 k1 k2 x tx p1 tp) :: news) [.ref r] (OkR r d h1 h2 k1 k2 x tx news p2 wh) := by
    intro r d h1 h2 k1 k2 tp q1 q2
    have c := ct_digits r d h1 h2 k1 k2 x tx p1 tp news hp1 hx q1 q2
    rw [hw1, hw2] at c
    exact c
  have e2 : (skV x p2 (Str.ofString ".") == Str.ofString "") = true := skV_no hd0
  have c_dot : ∀ (r d : Addr) (h1 h2 : Int) (k1 k2 tp ts : Tok), @LT.lt Nat _ d r → (∀ q ∈ news, q.1 ≠ d) → Ctr 144 4 ((r, instObj 154 d) :: (d, rdD h1 h2 k1 k2 x tx p2 tp) :: news) [.ref r, .str (Str.ofString ".") ts] (OkR r d h1 h2 k1 k2 x tx news p2 (skV x p2 (Str.ofString "."))) := by
    intro r d h1 h2 k1 k2 tp ts q1 q2
    have c := ct_skip r d h1 h2 k1 k2 x tx p2 tp (Str.ofString ".") ts news hp2 hx q1 q2
    rw [show skP x p2 (Str.ofString ".") = p2 from by unfold skP; rw [hd0]; rfl] at c
    exact c
  have hl : (wh ++ Str.ofString "").length ≤ 60 := by
    have := PySem.strLen_append wh (Str.ofString "")
    have : (Str.ofString "").length = 0 := rfl
    omega
  k_with_none; (k_with "binaryOp FloorDiv int int" => (refine floordiv_int (by first | assumption | omega) ?_ (Or.inl (dv_of_sm (by assumption))))); refine mark_use ?_; k_fill; intro _; (try unfold CtrX); unfold CtrXK; intro mean mg mb dp un gd cn cs a ccd cl outer A₀ base h₀ L m s Q E B F X N T XB TB D hk hdp hun hthrow
  replace XB := Hid.mk XB
  replace TB := Hid.mk TB
  refine wpAny_call ?_
  k_dflt (refine' code_def ?k1 ?k2 ?k3 ?k4 ?k5 ?kA ?kF ?kK ?k6 ?k7 ?k8 ?k9 ?kB ?_ ?c2 ?c3 ?c4 ?c5; (case kA => exact rfl); (case kF => exact rfl); (case kK => first | exact rfl | assumption); (case k1 => k_asm); (case k2 => k_asm); (case k3 => k_asm); (case k4 => k_asm); (case k5 => k_asm); (case k6 => k_is); (case k7 => k_is); (case k8 => ktr_room); (case k9 => first | exact BindsTo.of_eq rfl | exact binds_K (by k_in) rfl (by k_is) rfl rfl rfl); (case c5 => decide); (case kB => exact locs rfl); (case c2 => exact rfl); (case c3 => exact rfl); (case c4 => exact rfl); k_whole; intro g' L' h' FG' F' N' B' X' T'; (try dsimp only); (try k_lift B'); (try k_fold))
  k_with "call ref" => (k_here; (with_reducible show wpAny _ _ (call (Value.ref 144) _) _ _ _); (k_dflt (refine' Ctr.use (c_sign _ _ _ _ _ _ _ _ ?q1 ?q2) ?k1 ?k2 ?k3 ?k4 ?k5 ?kK ?kd ?ku ?_; (case k1 => k_asm); (case k2 => k_asm); (case k3 => k_asm); (case k4 => first | k_asm | exact cb_drop (by assumption) (by kcj_all)); (case k5 => k_asm); (case kK => first | exact rfl | assumption); (case kd => ktr_room); (case ku => ktr_units); (case q1 => assumption); (case q2 => assumption); k_whole)); intro r9 h9 tk9 n9 F9 N9 ho9; (obtain ⟨tp9, t9, e9, q9⟩ := OkR.out ho9); clear ho9; subst e9; subst q9; (try dsimp only); (try k_sweep); (try k_fold))
  k_with "call ref" => (k_here; (with_reducible show wpAny _ _ (call (Value.ref 144) _) _ _ _); (k_dflt (refine' Ctr.use (c_dot _ _ _ _ _ _ _ _ ?q1 ?q2) ?k1 ?k2 ?k3 ?k4 ?k5 ?kK ?kd ?ku ?_; (case k1 => k_asm); (case k2 => k_asm); (case k3 => k_asm); (case k4 => first | k_asm | exact cb_drop (by assumption) (by kcj_all)); (case k5 => k_asm); (case kK => first | exact rfl | assumption); (case kd => ktr_room); (case ku => ktr_units); (case q1 => assumption); (case q2 => assumption); k_whole)); intro r9 h9 tk9 n9 F9 N9 ho9; (obtain ⟨tp9, t9, e9, q9⟩ := OkR.out ho9); clear ho9; subst e9; subst q9; (try dsimp only); (try k_sweep); (try k_fold))
  k_with "call ref" => (k_here; (with_reducible show wpAny _ _ (call (Value.ref 151) _) _ _ _); (k_dflt (refine' Ctr.use (c_dig _ _ _ _ _ _ _ ?q1 ?q2) ?k1 ?k2 ?k3 ?k4 ?k5 ?kK ?kd ?ku ?_; (case k1 => k_asm); (case k2 => k_asm); (case k3 => k_asm); (case k4 => first | k_asm | exact cb_drop (by assumption) (by kcj_all)); (case k5 => k_asm); (case kK => first | exact rfl | assumption); (case kd => ktr_room); (case ku => ktr_units); (case q1 => assumption); (case q2 => assumption); k_whole)); intro r9 h9 tk9 n9 F9 N9 ho9; (obtain ⟨tp9, t9, e9, q9⟩ := OkR.out ho9); clear ho9; subst e9; subst q9; (try dsimp only); (try k_sweep); (try k_fold))
  k_with "compareOp Eq str str" => (refine eq_str_is (by assumption) ?_)
  k_with "compareOp NotEq str str" => (refine neq_str_is (by assumption) ?_)
  k_with "call ref" => (k_here; (with_reducible show wpAny _ _ (call (Value.ref 154) _) _ _ _); (k_dflt (refine' Ctr.use (ct_NumberText _ _ _) ?k1 ?k2 ?k3 ?k4 ?k5 ?kK ?kd ?ku ?_; (case k1 => k_asm); (case k2 => k_asm); (case k3 => k_asm); (case k4 => first | k_asm | exact cb_drop (by assumption) (by kcj_all)); (case k5 => k_asm); (case kK => first | exact rfl | assumption); (case kd => ktr_room); (case ku => ktr_units); k_whole)); intro r9 h9 tk9 n9 F9 N9 ho9; (obtain ⟨r9, d9, a9, b9, k9, j9, p9, e9, q9, lt9, al9⟩ := OkN.out ho9); clear ho9; subst e9; subst q9; (have ne9 := ne_of_allLt al9); (try dsimp only); (try k_sweep); (try k_fold))
  k_with "call ref" => (k_here; (with_reducible show wpAny _ _ (call (Value.ref 51) _) _ _ _); (k_dflt (refine' mk_exc51 _ _ ?k1 ?k2 ?k3 ?k4 ?k5 ?kA ?kf ?kK ?kd ?_; (case k1 => k_asm); (case k2 => k_asm); (case k3 => k_asm); (case k4 => k_asm); (case k5 => k_asm); (case kA => exact rfl); (case kf => exact rfl); (case kK => first | exact rfl | assumption); (case kd => first | ktr_room | (rw [under_mark_depth]; ktr_room)); k_whole)); intro e9 dx9 tt9 hs9 k9 h9 tk9 lt9 lt8 lt7 F9 N9; (try dsimp only); (try k_sweep); (try k_fold))
  k_with "exec Raise some none" => (k_here; k_dflt (refine raise_stmt (K := Mine.hd.heap_39 w.params) (C := 51) (fx51 w) ?_); (try k_fold))
  (repeat' (first | (k_unfold; (try dsimp only)) | (k_end; wrow_close) | (walk1; (try k_fold)) | (dsimp only; walk1; (try k_fold)) | (leave1; (try dsimp only)) | fail "no step"))
  all_goals first
    | (refine ⟨_, _, _, rfl, Frag.In.keeps (by assumption) (Fr.keep (by with_reducible assumption)), (N9 _ (.tail _ (.head _))).1, ?_⟩; refine' throw_end hthrow ?t1 ?t2 ?t3 ?t4 lt9 lt8 lt7 ?t8 rfl; (case t1 => k_asm); (case t2 => k_asm); (case t3 => k_asm); (case t4 => exact N9); (case t8 => (intro p hp; repeat (first | exact hp | refine List.Mem.tail _ ?_))))

theorem ct_rd_more (w : World) (x : Str) (tx : Tok) (p1 p2 : Int) (sg wh : Str) (news : List (Addr × Obj)) (hx : x.length ≤ 1000) (hp1 : 0 ≤ p1) (hp2 : 0 ≤ p2)
   (hs1 : skP x 0 pm = p1) (hs2 : skV x 0 pm = sg) (hw1 : dgE x p1 = p2) (hw2 : Txt.slice x (some p1) (some p2) = wh) (hd0 : isOf x p2.toNat (Str.ofString ".") = false) (p6 ev : Int) (hne : (wh ++ Str.ofString "" == Str.ofString "") = false) (hlen : wh.length ≤ 60) (hp6 : 0 ≤ p6) (hp7 : p6 < (x.length : Int))
   (hex : isOf x p2.toNat eE = true → ExOk x p2) (hev : exV x p2 = ev) (hend : exP x p2 = p6) :
    CtrX w 179 10 news [.str x tx] 51 (Str.ofString "no number: " ++ x) := by
  have n0 : (0 : Int) ≤ 0 := Int.le_refl 0
  have c_sign : ∀ (r d : Addr) (h1 h2 : Int) (k1 k2 tp ts : Tok), @LT.lt Nat _ d r → (∀ q ∈ news, q.1 ≠ d) → Ctr 144 4 ((r, instObj 154 d) :: (d, rdD h1 h2 k1 k2 x tx 0 tp) :: news) [.ref r, .str (Str.ofString "+-") ts] (OkR r d h1 h2 k1 k2 x tx news p1 sg) := by
    intro r d h1 h2 k1 k2 tp ts q1 q2
    have c := ct_skip r d h1 h2 k1 k2 x tx 0 tp pm ts news n0 hx q1 q2
    rw [hs1, hs2] at c
    exact c
  have c_dig : ∀ (r d : Addr) (h1 h2 : Int) (k1 k2 tp : Tok), @LT.lt Nat _ d r → (∀ q ∈ news, q.1 ≠ d) → Ctr 151 4 ((r, instObj 154 d) :: (d, rdD h1 h2 k1 k2 x tx p1 tp) :: news) [.ref r] (OkR r d h1 h2 k1 k2 x tx news p2 wh) := by
    intro r d h1 h2 k1 k2 tp q1 q2
    have c := ct_digits r d h1 h2 k1 k2 x tx p1 tp news hp1 hx q1 q2
    rw [hw1, hw2] at c
    exact c
  have e2 : (skV x p2 (Str.ofString ".") == Str.ofString "") = true := skV_no hd0
  have c_dot : ∀ (r d : Addr) (h1 h2 : Int) (k1 k2 tp ts : Tok), @LT.lt Nat _ d r → (∀ q ∈ news, q.1 ≠ d) → Ctr 144 4 ((r, instObj 154 d) :: (d, rdD h1 h2 k1 k2 x tx p2 tp) :: news) [.ref r, .str (Str.ofString ".") ts] (OkR r d h1 h2 k1 k2 x tx news p2 (skV x p2 (Str.ofString "."))) := by
    intro r d h1 h2 k1 k2 tp ts q1 q2
    have c := ct_skip r d h1 h2 k1 k2 x tx p2 tp (Str.ofString ".") ts news hp2 hx q1 q2
    rw [show skP x p2 (Str.ofString ".") = p2 from by unfold skP; rw [hd0]; rfl] at c
    exact c
  have hl : (wh ++ Str.ofString "").length ≤ 60 := by
    have := PySem.strLen_append wh (Str.ofString "")
    have : (Str.ofString "").length = 0 := rfl
    omega
  have c_exp : ∀ (r d : Addr) (h1 h2 : Int) (k1 k2 tp : Tok), @LT.lt Nat _ d r → (∀ q ∈ news, q.1 ≠ d) → Ctr 172 6 ((r, instObj 154 d) :: (d, rdD h1 h2 k1 k2 x tx p2 tp) :: news) [.ref r] (OkRI r d h1 h2 k1 k2 x tx news p6 ev) := by
    intro r d h1 h2 k1 k2 tp q1 q2
    have c := ct_read_exponent r d h1 h2 k1 k2 x tx p2 tp news hp2 hx q1 q2 hex
    rw [hev, hend] at c
    exact c
  k_with_none; (k_with "binaryOp FloorDiv int int" => (refine floordiv_int (by first | assumption | omega) ?_ (Or.inl (dv_of_sm (by assumption))))); refine mark_use ?_; k_fill; intro _; (try unfold CtrX); unfold CtrXK; intro mean mg mb dp un gd cn cs a ccd cl outer A₀ base h₀ L m s Q E B F X N T XB TB D hk hdp hun hthrow
  replace XB := Hid.mk XB
  replace TB := Hid.mk TB
  refine wpAny_call ?_
  k_dflt (refine' code_def ?k1 ?k2 ?k3 ?k4 ?k5 ?kA ?kF ?kK ?k6 ?k7 ?k8 ?k9 ?kB ?_ ?c2 ?c3 ?c4 ?c5; (case kA => exact rfl); (case kF => exact rfl); (case kK => first | exact rfl | assumption); (case k1 => k_asm); (case k2 => k_asm); (case k3 => k_asm); (case k4 => k_asm); (case k5 => k_asm); (case k6 => k_is); (case k7 => k_is); (case k8 => ktr_room); (case k9 => first | exact BindsTo.of_eq rfl | exact binds_K (by k_in) rfl (by k_is) rfl rfl rfl); (case c5 => decide); (case kB => exact locs rfl); (case c2 => exact rfl); (case c3 => exact rfl); (case c4 => exact rfl); k_whole; intro g' L' h' FG' F' N' B' X' T'; (try dsimp only); (try k_lift B'); (try k_fold))
  k_with "call ref" => (k_here; (with_reducible show wpAny _ _ (call (Value.ref 144) _) _ _ _); (k_dflt (refine' Ctr.use (c_sign _ _ _ _ _ _ _ _ ?q1 ?q2) ?k1 ?k2 ?k3 ?k4 ?k5 ?kK ?kd ?ku ?_; (case k1 => k_asm); (case k2 => k_asm); (case k3 => k_asm); (case k4 => first | k_asm | exact cb_drop (by assumption) (by kcj_all)); (case k5 => k_asm); (case kK => first | exact rfl | assumption); (case kd => ktr_room); (case ku => ktr_units); (case q1 => assumption); (case q2 => assumption); k_whole)); intro r9 h9 tk9 n9 F9 N9 ho9; (obtain ⟨tp9, t9, e9, q9⟩ := OkR.out ho9); clear ho9; subst e9; subst q9; (try dsimp only); (try k_sweep); (try k_fold))
  k_with "call ref" => (k_here; (with_reducible show wpAny _ _ (call (Value.ref 144) _) _ _ _); (k_dflt (refine' Ctr.use (c_dot _ _ _ _ _ _ _ _ ?q1 ?q2) ?k1 ?k2 ?k3 ?k4 ?k5 ?kK ?kd ?ku ?_; (case k1 => k_asm); (case k2 => k_asm); (case k3 => k_asm); (case k4 => first | k_asm | exact cb_drop (by assumption) (by kcj_all)); (case k5 => k_asm); (case kK => first | exact rfl | assumption); (case kd => ktr_room); (case ku => ktr_units); (case q1 => assumption); (case q2 => assumption); k_whole)); intro r9 h9 tk9 n9 F9 N9 ho9; (obtain ⟨tp9, t9, e9, q9⟩ := OkR.out ho9); clear ho9; subst e9; subst q9; (try dsimp only); (try k_sweep); (try k_fold))
  k_with "call ref" => (k_here; (with_reducible show wpAny _ _ (call (Value.ref 151) _) _ _ _); (k_dflt (refine' Ctr.use (c_dig _ _ _ _ _ _ _ ?q1 ?q2) ?k1 ?k2 ?k3 ?k4 ?k5 ?kK ?kd ?ku ?_; (case k1 => k_asm); (case k2 => k_asm); (case k3 => k_asm); (case k4 => first | k_asm | exact cb_drop (by assumption) (by kcj_all)); (case k5 => k_asm); (case kK => first | exact rfl | assumption); (case kd => ktr_room); (case ku => ktr_units); (case q1 => assumption); (case q2 => assumption); k_whole)); intro r9 h9 tk9 n9 F9 N9 ho9; (obtain ⟨tp9, t9, e9, q9⟩ := OkR.out ho9); clear ho9; subst e9; subst q9; (try dsimp only); (try k_sweep); (try k_fold))
  k_with "compareOp Eq str str" => (refine eq_str_is (by assumption) ?_)
  k_with "compareOp NotEq str str" => (refine neq_str_is (by assumption) ?_)
  k_with "call ref" => (k_here; (with_reducible show wpAny _ _ (call (Value.ref 154) _) _ _ _); (k_dflt (refine' Ctr.use (ct_NumberText _ _ _) ?k1 ?k2 ?k3 ?k4 ?k5 ?kK ?kd ?ku ?_; (case k1 => k_asm); (case k2 => k_asm); (case k3 => k_asm); (case k4 => first | k_asm | exact cb_drop (by assumption) (by kcj_all)); (case k5 => k_asm); (case kK => first | exact rfl | assumption); (case kd => ktr_room); (case ku => ktr_units); k_whole)); intro r9 h9 tk9 n9 F9 N9 ho9; (obtain ⟨r9, d9, a9, b9, k9, j9, p9, e9, q9, lt9, al9⟩ := OkN.out ho9); clear ho9; subst e9; subst q9; (have ne9 := ne_of_allLt al9); (try dsimp only); (try k_sweep); (try k_fold))
  k_with "call ref" => (k_here; (with_reducible show wpAny _ _ (call (Value.ref 172) _) _ _ _); (k_dflt (refine' Ctr.use (c_exp _ _ _ _ _ _ _ ?q1 ?q2) ?k1 ?k2 ?k3 ?k4 ?k5 ?kK ?kd ?ku ?_; (case k1 => k_asm); (case k2 => k_asm); (case k3 => k_asm); (case k4 => first | k_asm | exact cb_drop (by assumption) (by kcj_all)); (case k5 => k_asm); (case kK => first | exact rfl | assumption); (case kd => ktr_room); (case ku => ktr_units); (case q1 => assumption); (case q2 => assumption); k_whole)); intro r9 h9 tk9 n9 F9 N9 ho9; (obtain ⟨tp9, t9, e9, q9⟩ := OkRI.out ho9); clear ho9; subst e9; subst q9; (try dsimp only); (try k_sweep); (try k_fold))
  k_with "call ref" => (k_here; (with_reducible show wpAny _ _ (call (Value.ref 51) _) _ _ _); (k_dflt (refine' mk_exc51 _ _ ?k1 ?k2 ?k3 ?k4 ?k5 ?kA ?kf ?kK ?kd ?_; (case k1 => k_asm); (case k2 => k_asm); (case k3 => k_asm); (case k4 => k_asm); (case k5 => k_asm); (case kA => exact rfl); (case kf => exact rfl); (case kK => first | exact rfl | assumption); (case kd => first | ktr_room | (rw [under_mark_depth]; ktr_room)); k_whole)); intro e9 dx9 tt9 hs9 k9 h9 tk9 lt9 lt8 lt7 F9 N9; (try dsimp only); (try k_sweep); (try k_fold))
  k_with "exec Raise some none" => (k_here; k_dflt (refine raise_stmt (K := Mine.hd.heap_39 w.params) (C := 51) (fx51 w) ?_); (try k_fold))
  (repeat' (first | (k_unfold; (try dsimp only)) | (k_end; wrow_close) | (walk1; (try k_fold)) | (dsimp only; walk1; (try k_fold)) | (leave1; (try dsimp only)) | fail "no step"))
  all_goals first
    | (refine ⟨_, _, _, rfl, Frag.In.keeps (by assumption) (Fr.keep (by with_reducible assumption)), (N9 _ (.tail _ (.head _))).1, ?_⟩; refine' throw_end hthrow ?t1 ?t2 ?t3 ?t4 lt9 lt8 lt7 ?t8 rfl; (case t1 => k_asm); (case t2 => k_asm); (case t3 => k_asm); (case t4 => exact N9); (case t8 => (intro p hp; repeat (first | exact hp | refine List.Mem.tail _ ?_))))

theorem ct_rd_big (w : World) (x : Str) (tx : Tok) (p1 p2 : Int) (sg wh : Str) (news : List (Addr × Obj)) (hx : x.length ≤ 1000) (hp1 : 0 ≤ p1) (hp2 : 0 ≤ p2)
   (hs1 : skP x 0 pm = p1) (hs2 : skV x 0 pm = sg) (hw1 : dgE x p1 = p2) (hw2 : Txt.slice x (some p1) (some p2) = wh) (hd0 : isOf x p2.toNat (Str.ofString ".") = false)(ev PA PB T1 M1 M2 : Int) (hne : (wh ++ Str.ofString "" == Str.ofString "") = false) (hfig : figs (wh ++ Str.ofString "")) (hlen : wh.length ≤ 60)
   (hex : isOf x p2.toNat eE = true → ExOk x p2) (hev : exV x p2 = ev) (hend : exP x p2 = (x.length : Int))
   (he1 : -1000 ≤ ev) (he2 : ev ≤ 1000) (hPA : (10 : Int) ^ (max 0 (ev - ((0 : Nat) : Int))).toNat = PA) (hPB : (10 : Int) ^ (max 0 (-(ev - ((0 : Nat) : Int)))).toNat = PB) (hT : whZ (KStt.codes (wh ++ Str.ofString "")) * PA = T1)
   (hM1 : 1000000000000000000000000000000000000000000000000000000000000 * PB = M1) (hM2 : T1 * 1000000000000000000000000000000000000000000000000000000000000 = M2) (hTB : M1 ≤ T1 ∨ (T1 < M1 ∧ 0 < M2 ∧ M2 < PB))
   (hm1 : IntMulOk (whZ (KStt.codes (wh ++ Str.ofString ""))) PA) (hm2 : IntMulOk 1000000000000000000000000000000000000000000000000000000000000 PB) (hm3 : IntMulOk T1 1000000000000000000000000000000000000000000000000000000000000) :
    CtrX w 179 10 news [.str x tx] 51 (Str.ofString "a number that is too great, or too close to 0") := by
  rw [max_is] at hPA hPB
  have n0 : (0 : Int) ≤ 0 := Int.le_refl 0
  have c_sign : ∀ (r d : Addr) (h1 h2 : Int) (k1 k2 tp ts : Tok), @LT.lt Nat _ d r → (∀ q ∈ news, q.1 ≠ d) → Ctr 144 4 ((r, instObj 154 d) :: (d, rdD h1 h2 k1 k2 x tx 0 tp) :: news) [.ref r, .str (Str.ofString "+-") ts] (OkR r d h1 h2 k1 k2 x tx news p1 sg) := by
    intro r d h1 h2 k1 k2 tp ts q1 q2
    have c := ct_skip r d h1 h2 k1 k2 x tx 0 tp pm ts news n0 hx q1 q2
    rw [hs1, hs2] at c
    exact c
  have c_dig : ∀ (r d : Addr) (h1 h2 : Int) (k1 k2 tp : Tok), @LT.lt Nat _ d r → (∀ q ∈ news, q.1 ≠ d) → Ctr 151 4 ((r, instObj 154 d) :: (d, rdD h1 h2 k1 k2 x tx p1 tp) :: news) [.ref r] (OkR r d h1 h2 k1 k2 x tx news p2 wh) := by
    intro r d h1 h2 k1 k2 tp q1 q2
    have c := ct_digits r d h1 h2 k1 k2 x tx p1 tp news hp1 hx q1 q2
    rw [hw1, hw2] at c
    exact c
  have e2 : (skV x p2 (Str.ofString ".") == Str.ofString "") = true := skV_no hd0
  have c_dot : ∀ (r d : Addr) (h1 h2 : Int) (k1 k2 tp ts : Tok), @LT.lt Nat _ d r → (∀ q ∈ news, q.1 ≠ d) → Ctr 144 4 ((r, instObj 154 d) :: (d, rdD h1 h2 k1 k2 x tx p2 tp) :: news) [.ref r, .str (Str.ofString ".") ts] (OkR r d h1 h2 k1 k2 x tx news p2 (skV x p2 (Str.ofString "."))) := by
    intro r d h1 h2 k1 k2 tp ts q1 q2
    have c := ct_skip r d h1 h2 k1 k2 x tx p2 tp (Str.ofString ".") ts news hp2 hx q1 q2
    rw [show skP x p2 (Str.ofString ".") = p2 from by unfold skP; rw [hd0]; rfl] at c
    exact c
  have hl : (wh ++ Str.ofString "").length ≤ 60 := by
    have := PySem.strLen_append wh (Str.ofString "")
    have : (Str.ofString "").length = 0 := rfl
    omega
  have c_exp : ∀ (r d : Addr) (h1 h2 : Int) (k1 k2 tp : Tok), @LT.lt Nat _ d r → (∀ q ∈ news, q.1 ≠ d) → Ctr 172 6 ((r, instObj 154 d) :: (d, rdD h1 h2 k1 k2 x tx p2 tp) :: news) [.ref r] (OkRI r d h1 h2 k1 k2 x tx news (x.length : Int) ev) := by
    intro r d h1 h2 k1 k2 tp q1 q2
    have c := ct_read_exponent r d h1 h2 k1 k2 x tx p2 tp news hp2 hx q1 q2 hex
    rw [hev, hend] at c
    exact c
  k_with_none; (k_with "binaryOp FloorDiv int int" => (refine floordiv_int (by first | assumption | omega) ?_ (Or.inl (dv_of_sm (by assumption))))); refine mark_use ?_; k_fill; intro _; (try unfold CtrX); unfold CtrXK; intro mean mg mb dp un gd cn cs a ccd cl outer A₀ base h₀ L m s Q E B F X N T XB TB D hk hdp hun hthrow
  replace XB := Hid.mk XB
  replace TB := Hid.mk TB
  refine wpAny_call ?_
  k_dflt (refine' code_def ?k1 ?k2 ?k3 ?k4 ?k5 ?kA ?kF ?kK ?k6 ?k7 ?k8 ?k9 ?kB ?_ ?c2 ?c3 ?c4 ?c5; (case kA => exact rfl); (case kF => exact rfl); (case kK => first | exact rfl | assumption); (case k1 => k_asm); (case k2 => k_asm); (case k3 => k_asm); (case k4 => k_asm); (case k5 => k_asm); (case k6 => k_is); (case k7 => k_is); (case k8 => ktr_room); (case k9 => first | exact BindsTo.of_eq rfl | exact binds_K (by k_in) rfl (by k_is) rfl rfl rfl); (case c5 => decide); (case kB => exact locs rfl); (case c2 => exact rfl); (case c3 => exact rfl); (case c4 => exact rfl); k_whole; intro g' L' h' FG' F' N' B' X' T'; (try dsimp only); (try k_lift B'); (try k_fold))
  k_with "call ref" => (k_here; (with_reducible show wpAny _ _ (call (Value.ref 144) _) _ _ _); (k_dflt (refine' Ctr.use (c_sign _ _ _ _ _ _ _ _ ?q1 ?q2) ?k1 ?k2 ?k3 ?k4 ?k5 ?kK ?kd ?ku ?_; (case k1 => k_asm); (case k2 => k_asm); (case k3 => k_asm); (case k4 => first | k_asm | exact cb_drop (by assumption) (by kcj_all)); (case k5 => k_asm); (case kK => first | exact rfl | assumption); (case kd => ktr_room); (case ku => ktr_units); (case q1 => assumption); (case q2 => assumption); k_whole)); intro r9 h9 tk9 n9 F9 N9 ho9; (obtain ⟨tp9, t9, e9, q9⟩ := OkR.out ho9); clear ho9; subst e9; subst q9; (try dsimp only); (try k_sweep); (try k_fold))
  k_with "call ref" => (k_here; (with_reducible show wpAny _ _ (call (Value.ref 144) _) _ _ _); (k_dflt (refine' Ctr.use (c_dot _ _ _ _ _ _ _ _ ?q1 ?q2) ?k1 ?k2 ?k3 ?k4 ?k5 ?kK ?kd ?ku ?_; (case k1 => k_asm); (case k2 => k_asm); (case k3 => k_asm); (case k4 => first | k_asm | exact cb_drop (by assumption) (by kcj_all)); (case k5 => k_asm); (case kK => first | exact rfl | assumption); (case kd => ktr_room); (case ku => ktr_units); (case q1 => assumption); (case q2 => assumption); k_whole)); intro r9 h9 tk9 n9 F9 N9 ho9; (obtain ⟨tp9, t9, e9, q9⟩ := OkR.out ho9); clear ho9; subst e9; subst q9; (try dsimp only); (try k_sweep); (try k_fold))
  k_with "call ref" => (k_here; (with_reducible show wpAny _ _ (call (Value.ref 151) _) _ _ _); (k_dflt (refine' Ctr.use (c_dig _ _ _ _ _ _ _ ?q1 ?q2) ?k1 ?k2 ?k3 ?k4 ?k5 ?kK ?kd ?ku ?_; (case k1 => k_asm); (case k2 => k_asm); (case k3 => k_asm); (case k4 => first | k_asm | exact cb_drop (by assumption) (by kcj_all)); (case k5 => k_asm); (case kK => first | exact rfl | assumption); (case kd => ktr_room); (case ku => ktr_units); (case q1 => assumption); (case q2 => assumption); k_whole)); intro r9 h9 tk9 n9 F9 N9 ho9; (obtain ⟨tp9, t9, e9, q9⟩ := OkR.out ho9); clear ho9; subst e9; subst q9; (try dsimp only); (try k_sweep); (try k_fold))
  k_with "compareOp Eq str str" => (refine eq_str_is (by assumption) ?_)
  k_with "compareOp NotEq str str" => (refine neq_str_is (by assumption) ?_)
  k_with "call ref" => (k_here; (with_reducible show wpAny _ _ (call (Value.ref 154) _) _ _ _); (k_dflt (refine' Ctr.use (ct_NumberText _ _ _) ?k1 ?k2 ?k3 ?k4 ?k5 ?kK ?kd ?ku ?_; (case k1 => k_asm); (case k2 => k_asm); (case k3 => k_asm); (case k4 => first | k_asm | exact cb_drop (by assumption) (by kcj_all)); (case k5 => k_asm); (case kK => first | exact rfl | assumption); (case kd => ktr_room); (case ku => ktr_units); k_whole)); intro r9 h9 tk9 n9 F9 N9 ho9; (obtain ⟨r9, d9, a9, b9, k9, j9, p9, e9, q9, lt9, al9⟩ := OkN.out ho9); clear ho9; subst e9; subst q9; (have ne9 := ne_of_allLt al9); (try dsimp only); (try k_sweep); (try k_fold))
  k_with "call ref" => (k_here; (with_reducible show wpAny _ _ (call (Value.ref 172) _) _ _ _); (k_dflt (refine' Ctr.use (c_exp _ _ _ _ _ _ _ ?q1 ?q2) ?k1 ?k2 ?k3 ?k4 ?k5 ?kK ?kd ?ku ?_; (case k1 => k_asm); (case k2 => k_asm); (case k3 => k_asm); (case k4 => first | k_asm | exact cb_drop (by assumption) (by kcj_all)); (case k5 => k_asm); (case kK => first | exact rfl | assumption); (case kd => ktr_room); (case ku => ktr_units); (case q1 => assumption); (case q2 => assumption); k_whole)); intro r9 h9 tk9 n9 F9 N9 ho9; (obtain ⟨tp9, t9, e9, q9⟩ := OkRI.out ho9); clear ho9; subst e9; subst q9; (try dsimp only); (try k_sweep); (try k_fold))
  k_with "call ref" => (k_here; (with_reducible show wpAny _ _ (call (Value.ref 165) _) _ _ _); (k_dflt (refine' Ctr.use (ct_whole_of _ _ hfig _) ?k1 ?k2 ?k3 ?k4 ?k5 ?kK ?kd ?ku ?_; (case k1 => k_asm); (case k2 => k_asm); (case k3 => k_asm); (case k4 => first | k_asm | exact cb_drop (by assumption) (by kcj_all)); (case k5 => k_asm); (case kK => first | exact rfl | assumption); (case kd => ktr_room); (case ku => ktr_units); k_whole)); intro r9 h9 tk9 n9 F9 N9 ho9; (obtain ⟨e9, t9, q9⟩ := OkI.out ho9); clear ho9; subst e9; subst q9; (try dsimp only); (try k_sweep); (try k_fold))
  k_with "binaryOp Pow int int" => (refine pow10_is (by (split <;> omega)) (by (split <;> omega)) (by first | exact hPA | exact hPB) ?_)
  k_with "binaryOp Mult int int" => (refine mul_is (by assumption) (by assumption) ?_)
  k_with "call ref" => (k_here; (with_reducible show wpAny _ _ (call (Value.ref 51) _) _ _ _); (k_dflt (refine' mk_exc51 _ _ ?k1 ?k2 ?k3 ?k4 ?k5 ?kA ?kf ?kK ?kd ?_; (case k1 => k_asm); (case k2 => k_asm); (case k3 => k_asm); (case k4 => k_asm); (case k5 => k_asm); (case kA => exact rfl); (case kf => exact rfl); (case kK => first | exact rfl | assumption); (case kd => first | ktr_room | (rw [under_mark_depth]; ktr_room)); k_whole)); intro e9 dx9 tt9 hs9 k9 h9 tk9 lt9 lt8 lt7 F9 N9; (try dsimp only); (try k_sweep); (try k_fold))
  k_with "exec Raise some none" => (k_here; k_dflt (refine raise_stmt (K := Mine.hd.heap_39 w.params) (C := 51) (fx51 w) ?_); (try k_fold))
  (repeat' (first | (k_unfold; (try dsimp only)) | (k_end; wrow_close) | (walk1; (try k_fold)) | (dsimp only; walk1; (try k_fold)) | (leave1; (try dsimp only)) | fail "no step"))
  all_goals first
    | (refine ⟨_, _, _, rfl, Frag.In.keeps (by assumption) (Fr.keep (by with_reducible assumption)), (N9 _ (.tail _ (.head _))).1, ?_⟩; refine' throw_end hthrow ?t1 ?t2 ?t3 ?t4 lt9 lt8 lt7 ?t8 rfl; (case t1 => k_asm); (case t2 => k_asm); (case t3 => k_asm); (case t4 => exact N9); (case t8 => (intro p hp; repeat (first | exact hp | refine List.Mem.tail _ ?_))))

theorem ct_ex_bad (w : World) (r d : Addr) (h1 h2 : Int) (k1 k2 : Tok) (x : Str) (tx : Tok) (p : Int) (tp : Tok) (rest : List (Addr × Obj))
   (hp : 0 ≤ p) (hx : x.length ≤ 1000) (hrd : @LT.lt Nat _ d r) (hdr : ∀ q ∈ rest, q.1 ≠ d) (hn : isOf x p.toNat eE = true) (f4 : (exD x p == Str.ofString "") = true) :
    CtrXK w 172 8 ((r, instObj 154 d) :: (d, rdD h1 h2 k1 k2 x tx p tp) :: rest) rest [.ref r] 51 (Str.ofString "an exponent that is not read") := by
  have e1 := skV_ne hn
  have p1 := skP_nonneg (x := x) (sg := eE) hp
  have p2 := skP_nonneg (x := x) (sg := pm) p1
  simp only [exD, exB, eE, pm] at f4
  k_with_none; (k_with "binaryOp FloorDiv int int" => (refine floordiv_int (by first | assumption | omega) ?_ (Or.inl (dv_of_sm (by assumption))))); refine mark_use ?_; k_fill; intro _; (try unfold CtrX); unfold CtrXK; intro mean mg mb dp un gd cn cs a ccd cl outer A₀ base h₀ L m s Q E B F X N T XB TB D hk hdp hun hthrow
  replace XB := Hid.mk XB
  replace TB := Hid.mk TB
  refine wpAny_call ?_
  k_dflt (refine' code_def ?k1 ?k2 ?k3 ?k4 ?k5 ?kA ?kF ?kK ?k6 ?k7 ?k8 ?k9 ?kB ?_ ?c2 ?c3 ?c4 ?c5; (case kA => exact rfl); (case kF => exact rfl); (case kK => first | exact rfl | assumption); (case k1 => k_asm); (case k2 => k_asm); (case k3 => k_asm); (case k4 => k_asm); (case k5 => k_asm); (case k6 => k_is); (case k7 => k_is); (case k8 => ktr_room); (case k9 => first | exact BindsTo.of_eq rfl | exact binds_K (by k_in) rfl (by k_is) rfl rfl rfl); (case c5 => decide); (case kB => exact locs rfl); (case c2 => exact rfl); (case c3 => exact rfl); (case c4 => exact rfl); k_whole; intro g' L' h' FG' F' N' B' X' T'; (try dsimp only); (try k_lift B'); (try k_fold))
  k_with "call ref" => (k_here; (with_reducible show wpAny _ _ (call (Value.ref 144) _) _ _ _); (k_dflt (refine' Ctr.use (ct_skip _ _ _ _ _ _ x _ _ _ _ _ rest ?hq hx hrd hdr) ?k1 ?k2 ?k3 ?k4 ?k5 ?kK ?kd ?ku ?_; (case k1 => k_asm); (case k2 => k_asm); (case k3 => k_asm); (case k4 => first | k_asm | exact cb_drop (by assumption) (by kcj_all)); (case k5 => k_asm); (case kK => first | exact rfl | assumption); (case kd => ktr_room); (case ku => ktr_units); (case hq => assumption); k_whole)); intro r9 h9 tk9 n9 F9 N9 ho9; (obtain ⟨tp9, t9, e9, q9⟩ := OkR.out ho9); clear ho9; subst e9; subst q9; (try dsimp only); (try k_sweep); (try k_fold))
  k_with "call ref" => (k_here; (with_reducible show wpAny _ _ (call (Value.ref 151) _) _ _ _); (k_dflt (refine' Ctr.use (ct_digits _ _ _ _ _ _ x _ _ _ rest ?hq hx hrd hdr) ?k1 ?k2 ?k3 ?k4 ?k5 ?kK ?kd ?ku ?_; (case k1 => k_asm); (case k2 => k_asm); (case k3 => k_asm); (case k4 => first | k_asm | exact cb_drop (by assumption) (by kcj_all)); (case k5 => k_asm); (case kK => first | exact rfl | assumption); (case kd => ktr_room); (case ku => ktr_units); (case hq => assumption); k_whole)); intro r9 h9 tk9 n9 F9 N9 ho9; (obtain ⟨tp9, t9, e9, q9⟩ := OkR.out ho9); clear ho9; subst e9; subst q9; (try dsimp only); (try k_sweep); (try k_fold))
  k_with "compareOp Eq str str" => (refine eq_str_is (by assumption) ?_)
  k_with "call ref" => (k_here; (with_reducible show wpAny _ _ (call (Value.ref 51) _) _ _ _); (k_dflt (refine' mk_exc51 _ _ ?k1 ?k2 ?k3 ?k4 ?k5 ?kA ?kf ?kK ?kd ?_; (case k1 => k_asm); (case k2 => k_asm); (case k3 => k_asm); (case k4 => k_asm); (case k5 => k_asm); (case kA => exact rfl); (case kf => exact rfl); (case kK => first | exact rfl | assumption); (case kd => first | ktr_room | (rw [under_mark_depth]; ktr_room)); k_whole)); intro e9 dx9 tt9 hs9 k9 h9 tk9 lt9 lt8 lt7 F9 N9; (try dsimp only); (try k_sweep); (try k_fold))
  k_with "exec Raise some none" => (k_here; k_dflt (refine raise_stmt (K := Mine.hd.heap_39 w.params) (C := 51) (fx51 w) ?_); (try k_fold))
  (repeat' (first | (k_unfold; (try dsimp only)) | (k_end; wrow_close) | (walk1; (try k_fold)) | (dsimp only; walk1; (try k_fold)) | (leave1; (try dsimp only)) | fail "no step"))
  all_goals first
    | (refine ⟨_, _, _, rfl, Frag.In.keeps (by assumption) (Fr.keep (by with_reducible assumption)), (N9 _ (.tail _ (.head _))).1, ?_⟩; refine' throw_end hthrow ?t1 ?t2 ?t3 ?t4 lt9 lt8 lt7 ?t8 rfl; (case t1 => k_asm); (case t2 => k_asm); (case t3 => k_asm); (case t4 => exact N9); (case t8 => (intro p hp; repeat (first | exact hp | refine List.Mem.tail _ ?_))))
theorem ct_rd_exbad (w : World) (x : Str) (tx : Tok) (p1 p2 : Int) (sg wh : Str) (news : List (Addr × Obj)) (hx : x.length ≤ 1000) (hp1 : 0 ≤ p1) (hp2 : 0 ≤ p2)
   (hs1 : skP x 0 pm = p1) (hs2 : skV x 0 pm = sg) (hw1 : dgE x p1 = p2) (hw2 : Txt.slice x (some p1) (some p2) = wh) (hd0 : isOf x p2.toNat (Str.ofString ".") = false) (hlen : wh.length ≤ 60) (hne : (wh ++ Str.ofString "" == Str.ofString "") = false) (hn : isOf x p2.toNat eE = true) (f4 : (exD x p2 == Str.ofString "") = true) :
    CtrX w 179 10 news [.str x tx] 51 (Str.ofString "an exponent that is not read") := by
  have c_exb : ∀ (r d : Addr) (h1 h2 : Int) (k1 k2 tp : Tok), @LT.lt Nat _ d r → (∀ q ∈ news, q.1 ≠ d) → CtrXK w 172 8 ((r, instObj 154 d) :: (d, rdD h1 h2 k1 k2 x tx p2 tp) :: news) news [.ref r] 51 (Str.ofString "an exponent that is not read") :=
    fun r d h1 h2 k1 k2 tp q1 q2 => ct_ex_bad w r d h1 h2 k1 k2 x tx p2 tp news hp2 hx q1 q2 hn f4
  have n0 : (0 : Int) ≤ 0 := Int.le_refl 0
  have c_sign : ∀ (r d : Addr) (h1 h2 : Int) (k1 k2 tp ts : Tok), @LT.lt Nat _ d r → (∀ q ∈ news, q.1 ≠ d) → Ctr 144 4 ((r, instObj 154 d) :: (d, rdD h1 h2 k1 k2 x tx 0 tp) :: news) [.ref r, .str (Str.ofString "+-") ts] (OkR r d h1 h2 k1 k2 x tx news p1 sg) := by
    intro r d h1 h2 k1 k2 tp ts q1 q2
    have c := ct_skip r d h1 h2 k1 k2 x tx 0 tp pm ts news n0 hx q1 q2
    rw [hs1, hs2] at c
    exact c
  have c_dig : ∀ (r d : Addr) (h1 h2 : Int) (k1 k2 tp : Tok), @LT.lt Nat _ d r → (∀ q ∈ news, q.1 ≠ d) → Ctr 151 4 ((r, instObj 154 d) :: (d, rdD h1 h2 k1 k2 x tx p1 tp) :: news) [.ref r] (OkR r d h1 h2 k1 k2 x tx news p2 wh) := by
    intro r d h1 h2 k1 k2 tp q1 q2
    have c := ct_digits r d h1 h2 k1 k2 x tx p1 tp news hp1 hx q1 q2
    rw [hw1, hw2] at c
    exact c
  have e2 : (skV x p2 (Str.ofString ".") == Str.ofString "") = true := skV_no hd0
  have c_dot : ∀ (r d : Addr) (h1 h2 : Int) (k1 k2 tp ts : Tok), @LT.lt Nat _ d r → (∀ q ∈ news, q.1 ≠ d) → Ctr 144 4 ((r, instObj 154 d) :: (d, rdD h1 h2 k1 k2 x tx p2 tp) :: news) [.ref r, .str (Str.ofString ".") ts] (OkR r d h1 h2 k1 k2 x tx news p2 (skV x p2 (Str.ofString "."))) := by
    intro r d h1 h2 k1 k2 tp ts q1 q2
    have c := ct_skip r d h1 h2 k1 k2 x tx p2 tp (Str.ofString ".") ts news hp2 hx q1 q2
    rw [show skP x p2 (Str.ofString ".") = p2 from by unfold skP; rw [hd0]; rfl] at c
    exact c
  have hl : (wh ++ Str.ofString "").length ≤ 60 := by
    have := PySem.strLen_append wh (Str.ofString "")
    have : (Str.ofString "").length = 0 := rfl
    omega
  k_with_none; (k_with "binaryOp FloorDiv int int" => (refine floordiv_int (by first | assumption | omega) ?_ (Or.inl (dv_of_sm (by assumption))))); refine mark_use ?_; k_fill; intro _; (try unfold CtrX); unfold CtrXK; intro mean mg mb dp un gd cn cs a ccd cl outer A₀ base h₀ L m s Q E B F X N T XB TB D hk hdp hun hthrow
  replace XB := Hid.mk XB
  replace TB := Hid.mk TB
  refine wpAny_call ?_
  k_dflt (refine' code_def ?k1 ?k2 ?k3 ?k4 ?k5 ?kA ?kF ?kK ?k6 ?k7 ?k8 ?k9 ?kB ?_ ?c2 ?c3 ?c4 ?c5; (case kA => exact rfl); (case kF => exact rfl); (case kK => first | exact rfl | assumption); (case k1 => k_asm); (case k2 => k_asm); (case k3 => k_asm); (case k4 => k_asm); (case k5 => k_asm); (case k6 => k_is); (case k7 => k_is); (case k8 => ktr_room); (case k9 => first | exact BindsTo.of_eq rfl | exact binds_K (by k_in) rfl (by k_is) rfl rfl rfl); (case c5 => decide); (case kB => exact locs rfl); (case c2 => exact rfl); (case c3 => exact rfl); (case c4 => exact rfl); k_whole; intro g' L' h' FG' F' N' B' X' T'; (try dsimp only); (try k_lift B'); (try k_fold))
  k_with "call ref" => (k_here; (with_reducible show wpAny _ _ (call (Value.ref 144) _) _ _ _); (k_dflt (refine' Ctr.use (c_sign _ _ _ _ _ _ _ _ ?q1 ?q2) ?k1 ?k2 ?k3 ?k4 ?k5 ?kK ?kd ?ku ?_; (case k1 => k_asm); (case k2 => k_asm); (case k3 => k_asm); (case k4 => first | k_asm | exact cb_drop (by assumption) (by kcj_all)); (case k5 => k_asm); (case kK => first | exact rfl | assumption); (case kd => ktr_room); (case ku => ktr_units); (case q1 => assumption); (case q2 => assumption); k_whole)); intro r9 h9 tk9 n9 F9 N9 ho9; (obtain ⟨tp9, t9, e9, q9⟩ := OkR.out ho9); clear ho9; subst e9; subst q9; (try dsimp only); (try k_sweep); (try k_fold))
  k_with "call ref" => (k_here; (with_reducible show wpAny _ _ (call (Value.ref 144) _) _ _ _); (k_dflt (refine' Ctr.use (c_dot _ _ _ _ _ _ _ _ ?q1 ?q2) ?k1 ?k2 ?k3 ?k4 ?k5 ?kK ?kd ?ku ?_; (case k1 => k_asm); (case k2 => k_asm); (case k3 => k_asm); (case k4 => first | k_asm | exact cb_drop (by assumption) (by kcj_all)); (case k5 => k_asm); (case kK => first | exact rfl | assumption); (case kd => ktr_room); (case ku => ktr_units); (case q1 => assumption); (case q2 => assumption); k_whole)); intro r9 h9 tk9 n9 F9 N9 ho9; (obtain ⟨tp9, t9, e9, q9⟩ := OkR.out ho9); clear ho9; subst e9; subst q9; (try dsimp only); (try k_sweep); (try k_fold))
  k_with "call ref" => (k_here; (with_reducible show wpAny _ _ (call (Value.ref 151) _) _ _ _); (k_dflt (refine' Ctr.use (c_dig _ _ _ _ _ _ _ ?q1 ?q2) ?k1 ?k2 ?k3 ?k4 ?k5 ?kK ?kd ?ku ?_; (case k1 => k_asm); (case k2 => k_asm); (case k3 => k_asm); (case k4 => first | k_asm | exact cb_drop (by assumption) (by kcj_all)); (case k5 => k_asm); (case kK => first | exact rfl | assumption); (case kd => ktr_room); (case ku => ktr_units); (case q1 => assumption); (case q2 => assumption); k_whole)); intro r9 h9 tk9 n9 F9 N9 ho9; (obtain ⟨tp9, t9, e9, q9⟩ := OkR.out ho9); clear ho9; subst e9; subst q9; (try dsimp only); (try k_sweep); (try k_fold))
  k_with "compareOp Eq str str" => (refine eq_str_is (by assumption) ?_)
  k_with "compareOp NotEq str str" => (refine neq_str_is (by assumption) ?_)
  k_with "call ref" => (k_here; (with_reducible show wpAny _ _ (call (Value.ref 154) _) _ _ _); (k_dflt (refine' Ctr.use (ct_NumberText _ _ _) ?k1 ?k2 ?k3 ?k4 ?k5 ?kK ?kd ?ku ?_; (case k1 => k_asm); (case k2 => k_asm); (case k3 => k_asm); (case k4 => first | k_asm | exact cb_drop (by assumption) (by kcj_all)); (case k5 => k_asm); (case kK => first | exact rfl | assumption); (case kd => ktr_room); (case ku => ktr_units); k_whole)); intro r9 h9 tk9 n9 F9 N9 ho9; (obtain ⟨r9, d9, a9, b9, k9, j9, p9, e9, q9, lt9, al9⟩ := OkN.out ho9); clear ho9; subst e9; subst q9; (have ne9 := ne_of_allLt al9); (try dsimp only); (try k_sweep); (try k_fold))
  k_with "call ref" => (k_here; (with_reducible show wpAny _ _ (call (Value.ref 172) _) _ _ _); (k_dflt (refine' CtrXK.use (c_exb _ _ _ _ _ _ _ ?q1 ?q2) ?k1 ?k2 ?k3 ?k4 ?k5 ?k6 ?k7 ?k8 ?kK ?kd ?ku ?_; (case k1 => k_asm); (case k2 => k_asm); (case k3 => k_asm); (case k4 => first | k_asm | exact cb_drop (by assumption) (by kcj_all)); (case k5 => k_asm); (case k6 => exact XB.out); (case k7 => exact TB.out); (case k8 => first | assumption | exact dicts_in (by assumption) (by k_asm)); (case kK => first | exact rfl | assumption); (case kd => ktr_room); (case ku => ktr_units); (case q1 => assumption); (case q2 => assumption); k_whole)); intro g9 e9 dx9 cx9 hs9 k9 t9 h9 tk9 hcx9 FG9 BG9 fly9 up9; (try dsimp only))
  (repeat' (first | (k_unfold; (try dsimp only)) | (k_end; wrow_close) | (walk1; (try k_fold)) | (dsimp only; walk1; (try k_fold)) | (leave1; (try dsimp only)) | fail "no step"))
  all_goals (refine' pass_end hcx9 hthrow ?t1 ?t2 FG9 fly9 up9 ?t8; (case t1 => k_asm); (case t2 => k_asm); (case t8 => (intro p hp; repeat (first | exact hp | refine List.Mem.tail _ ?_))))
end SB18
section SB19
/-- a contract of a call that catches: the outer frames may have been turned -/
def CtrS (w : World) (f : Addr) (dn : Nat) (news : List (Addr × Obj)) (vs : List Value) (Ok : List (Addr × Obj) → Value → Prop) : Prop :=
  ∀ (mean : ExcName → Option Value) (mg mb : Str → Option Value) (dp un : Nat) (gd : Option (List Code)) (cn : Str) (cs : Scope) (a : Addr) (ccd : Value) (outer : List Env) (A₀ : Around) (base g₀ h₀ : Heap) (L : Addr)
    (m : Str → Option Value) (s : Shared) (Q E : Value → Shared → Prop),
    Below A₀ base outer h₀ → Fr h₀ L s.heap m → (hd.heap_39 w.params).In h₀ → News h₀ L s.heap news →
    Top hd.view_39 (looseW hd.view_39 [Str.ofString "MOST_VALUE", Str.ofString "fraction", Str.ofString "MOST_SIZE", Str.ofString "length", Str.ofString "length_styles", Str.ofString "Look"]) mean mg mb h₀ → (hd.heap_39 w.params).In base → Top hd.view_39 (looseW hd.view_39 [Str.ofString "MOST_VALUE", Str.ofString "fraction", Str.ofString "MOST_SIZE", Str.ofString "length", Str.ofString "length_styles", Str.ofString "Look"]) mean mg mb base → KtsDicts (outer.filterMap (·.frame)) h₀ → KtsTurn (outer.filterMap (·.frame)) g₀ h₀ →
    cs.kind = .function → dp + dn < recursionLimit → un + 8 * dn < cLine →
    (∀ r h₀' h' tk' news', KtsTurn (outer.filterMap (·.frame)) g₀ h₀' → Fr h₀' L h' m → News h₀' L h' news' → Below A₀ base outer h₀' → (hd.heap_39 w.params).In h₀' → Top hd.view_39 (looseW hd.view_39 [Str.ofString "MOST_VALUE", Str.ofString "fraction", Str.ofString "MOST_SIZE", Str.ofString "length", Str.ofString "length_styles", Str.ofString "Look"]) mean mg mb h₀' → KtsDicts (outer.filterMap (·.frame)) h₀' → Ok news' r → Q r { s with heap := h', toks := tk' }) →
    wpAny (model PySem.Challenge.rw_xm0732_01.row.prog w) (ktrTop dp un gd cn cs L a ccd [] outer) (call (.ref f) vs) Q E s
theorem ct_answer_bad (w : World) (x : Str) (tx : Tok) (r : Addr) (news : List (Addr × Obj)) (msg : Str)
   (hown : ∀ (t : Tok) (nw : List (Addr × Obj)), (∀ p ∈ news, p ∈ nw) → CtrX w 335 16 nw [.str x t, .ref r] 63 msg) :
    CtrS w 370 20 news [.str x tx, .ref r] (fun n y => n = news ∧ ∃ t, y = .str msg t) := by
  k_with_none; (k_with "binaryOp FloorDiv int int" => (refine floordiv_int (by first | assumption | omega) ?_ (Or.inl (dv_of_sm (by assumption))))); refine mark_use ?_; k_fill; intro _; unfold CtrS; intro mean mg mb dp un gd cn cs a ccd outer A₀ base g₀ h₀ L m s Q E B F X N T XB TB D T0 hk hdp hun hret
  replace XB := Hid.mk XB
  replace TB := Hid.mk TB
  refine wpAny_call ?_
  k_dflt (refine' code_defS (g₀ := g₀) ?k1 ?k2 ?k3 ?k4 ?k5 ?k5a ?k5b ?k5c ?k5d ?kA ?k6 ?k7 ?k8 ?k9 ?kB ?_ ?kK ?c2 ?c3 ?c4 ?c5; (case k5a => exact XB.out); (case k5b => exact TB.out); (case k5c => exact D); (case k5d => exact T0); (case kA => exact rfl); (case kK => first | exact rfl | assumption); (case k1 => exact B); (case k2 => k_asm); (case k3 => exact X); (case k4 => k_asm); (case k5 => exact T); (case k6 => k_is); (case k7 => k_is); (case k8 => ktr_room); (case k9 => first | exact BindsTo.of_eq rfl | exact binds_K (by k_in) rfl (by k_is) rfl rfl rfl); (case c5 => decide); (case kB => exact locs rfl); (case c2 => exact rfl); (case c3 => exact rfl); (case c4 => exact rfl); k_whole; intro g' L' h' FG' F' N' B' X' T' D'; (try dsimp only); (try k_lift B'); (try k_fold))
  k_with "call ref" => (k_here; (with_reducible show wpAny _ _ (call (Value.ref 335) _) _ _ _); (k_dflt (refine' CtrXK.use (hown _ _ ?hq) ?k1 ?k2 ?k3 ?k4 ?k5 ?k6 ?k7 ?k8 ?kK ?kd ?ku ?_; (case k1 => k_asm); (case k2 => k_asm); (case k3 => k_asm); (case k4 => first | k_asm | exact cb_drop (by assumption) (by kcj_all)); (case k5 => k_asm); (case k6 => exact XB.out); (case k7 => exact TB.out); (case k8 => first | assumption | exact dicts_in (by assumption) (by k_asm)); (case kK => first | exact rfl | assumption); (case kd => ktr_room); (case ku => ktr_units); (case hq => (intro p hp; repeat (first | exact hp | refine List.Mem.tail _ ?_))); k_whole)); intro g9 e9 dx9 cx9 hs9 k9 t9 h9 tk9 hcx9 FG9 BG9 fly9 up9; (try dsimp only))
  k_with "noteFrame ref" => (k_here; (refine' caughtXB (KF := Mine.hd.heap_39 w.params) (C := 63) fly9 FG9 ?c1 up9 XB.out TB.out ?c2 KtsTurn.refl ?c3 ?c4 ?c5; (case c1 => k_asm); (case c2 => first | assumption | exact dicts_in (by assumption) (by k_asm)); (case c3 => kernel_rfl); (case c4 => kernel_rfl)); intro h8 g8 oe8 ws8 tk8 T8 F8 N8 oc8 od8 ot8 ox8 ne8 B8 X8 P8 D8; (try dsimp only))
  k_with "getAttr ref" => (k_here; (refine x_message (Frag.In.keeps X8 (Fr.keep F8)) (N8 _ (.head _)).1 oc8 od8 ot8 (N8 _ (.tail _ (.head _))).1 ?_))
  k_steps
  all_goals (refine' hret _ _ _ _ news ?e1 ?e2 ?e3 ?e4 ?e5 ?e6 ?e7 ?e8; (case e1 => assumption); (case e2 => assumption); (case e3 => exact cb_drop (by assumption) (by intro p hp; repeat (first | exact hp | refine List.Mem.tail _ ?_))); (case e4 => assumption); (case e5 => assumption); (case e6 => assumption); (case e7 => assumption); (case e8 => exact ⟨rfl, _, rfl⟩))
end SB19
section SB20
abbrev lst2 (a b : Int) (t u : Tok) (c : Nat) : Obj := { cls := .type "list", data := .seq #[.int a t, .int b u] c }
def OkTk (S : Addr) (rest : List (Addr × Obj)) (top : Int) (n : List (Addr × Obj)) (y : Value) : Prop := ∃ r v0 v1 t t0 t1 c, n = (S, lst2 v0 v1 t0 t1 c) :: rest ∧ y = .int r t ∧ 0 ≤ r ∧ r < top ∧ 0 ≤ v0 ∧ 0 ≤ v1 ∧ v1 < 2147483647
theorem ct_take0 (S : Addr) (v0 v1 top : Int) (t0 t1 tt : Tok) (c : Nat) (rest : List (Addr × Obj)) (hr : ∀ p ∈ rest, p.1 ≠ S) (h0 : 0 ≤ v0) (h1 : 0 ≤ v1) (h2 : v1 < 2147483647) (ht : 0 < top) (ht2 : top < 100000) :
    Ctr 349 2 ((S, lst2 v0 v1 t0 t1 c) :: rest) [.ref S, .int top tt] (OkTk S rest top) := by
  have hb : ∀ x : Int, 0 ≤ x.fmod 2147483647 ∧ x.fmod 2147483647 < 2147483647 := fun x => ⟨Int.fmod_nonneg_of_pos x (by decide), Int.fmod_lt_of_pos x (by decide)⟩
  have hm : IntMulOk ((v1 * 39373 + 7).fmod 2147483647) ((v1 * 39373 + 7).fmod 2147483647) := by
    have h := hb (v1 * 39373 + 7)
    exact IntMulOk.of_left (intBits_le_64 (by omega) (by omega))
  (k_with_none; (k_with "binaryOp FloorDiv int int" => (refine floordiv_int (by first | assumption | omega) ?_ (Or.inl (dv_of_sm (by assumption))))); refine mark_use ?_; k_fill; intro _; unfold Ctr; intro w_q mean_q mg_q mb_q dp_q un_q gd_q cn_q cs_q a_q ccd_q cl_q outer_q A_q base_q h_q L_q m_q s_q Q_q E_q B_q F_q X_q N T_q hk_q hdp_q hun_q hret; refine wpAny_call ?_; k_dflt (refine' code_def ?k1 ?k2 ?k3 ?k4 ?k5 ?kA ?kF ?kK ?k6 ?k7 ?k8 ?k9 ?kB ?_ ?c2 ?c3 ?c4 ?c5; (case kA => exact rfl); (case kF => exact rfl); (case kK => assumption); (case k1 => k_asm); (case k2 => k_asm); (case k3 => k_asm); (case k4 => k_asm); (case k5 => k_asm); (case k6 => k_is); (case k7 => k_is); (case k8 => ktr_room); (case k9 => first | exact BindsTo.of_eq rfl | exact binds_K (by k_in) rfl (by k_is) rfl rfl rfl); (case c5 => decide); (case kB => exact locs rfl); (case c2 => exact rfl); (case c3 => exact rfl); (case c4 => exact rfl); k_whole; intro g_r L_r h_r FG_r F_r N_r B_r X_r T_r; (try dsimp only); (try k_lift B_r); (try k_fold)))
  k_with "binaryOp Mult int int" => first | (refine mul_int ?_ (show IntMulOk _ _ from hm)) | (refine mul_int ?_ (IntMulOk.of_right (by decide)))
  k_steps
  all_goals first
    | exact hret _ _ _ _ (by k_asm) (by assumption) ⟨_, _, _, _, _, _, _, rfl, rfl, Int.fmod_nonneg_of_pos _ ht, Int.fmod_lt_of_pos _ ht, Int.fdiv_nonneg h0 (Int.le_of_lt ht), h1, h2⟩
    | exact hret _ _ _ _ (by k_asm) (by assumption) ⟨_, _, _, _, _, _, _, rfl, rfl, Int.fmod_nonneg_of_pos _ ht, Int.fmod_lt_of_pos _ ht, h0, (hb _).1, (hb _).2⟩
theorem Ctr.sub {f : Addr} {dn : Nat} {news l : List (Addr × Obj)} {vs : List Value} {Ok : List (Addr × Obj) → Value → Prop} (C : Ctr f dn l vs Ok) (h : ∀ p ∈ l, p ∈ news) : Ctr f dn news vs Ok :=
  fun w mean mg mb dp un gd cn cs a ccd cl outer A₀ base h₀ L m s Q E B F X N T hk hdp hun ret => C w mean mg mb dp un gd cn cs a ccd cl outer A₀ base h₀ L m s Q E B F X (cb_drop N h) T hk hdp hun ret
theorem ct_take (S : Addr) (v0 v1 top : Int) (t0 t1 tt : Tok) (c : Nat) (rest news : List (Addr × Obj)) (hr : ∀ p ∈ rest, p.1 ≠ S) (h0 : 0 ≤ v0) (h1 : 0 ≤ v1) (h2 : v1 < 2147483647) (ht : 0 < top) (ht2 : top < 100000) (hS : (S, lst2 v0 v1 t0 t1 c) ∈ news) (hk : ∀ p ∈ rest, p ∈ news) :
    Ctr 349 2 news [.ref S, .int top tt] (OkTk S rest top) :=
  (ct_take0 S v0 v1 top t0 t1 tt c rest hr h0 h1 h2 ht ht2).sub fun p hp => by
    rcases List.mem_cons.mp hp with rfl | hp
    · exact hS
    · exact hk p hp
end SB20
section SB21
theorem sub_list {prog : Program} {w : World} {A : Around} {E : Value → Shared → Prop} {s : Shared} {value slice : PySem.Expr} {a : Addr} {items : Array Value} {k : Int} {u : Tok} {Q : Value → Shared → Prop} (hl : s.heap.IsList a items)
    (h0 : 0 ≤ k) (hk : k < items.size) (h : ∀ y, y ∈ items.toList → Q y s) (hsz : items.size < 100 := by exact Nat.le_of_ble_eq_true rfl)
    (hs : subscripted slice false (.ref a) (.int k u) = operate [.ref a, .int k u] (getItem (.ref a) (.int k u)) := by with_unfolding_all rfl) :
    wpAny (model prog w) A (subscriptTail value slice (.ref a) (.int k u)) Q E s := by
  have hlt : k.toNat < items.size := by omega
  exact tail_any hl.typeIs slot_list_getitem.lookup (wpAny_getItem_list (x := items[k.toNat]) hl h0 (by omega) (by simp [hlt]) (h _ (by simp))) hs
def OkOne (S : Addr) (rest : List (Addr × Obj)) (items : List Value) (n : List (Addr × Obj)) (y : Value) : Prop := ∃ v0 v1 t0 t1 c, n = (S, lst2 v0 v1 t0 t1 c) :: rest ∧ y ∈ items ∧ 0 ≤ v0 ∧ 0 ≤ v1 ∧ v1 < 2147483647

theorem ct_one2 (S P : Addr) (v0 v1 : Int) (t0 t1 : Tok) (c c2 : Nat) (a0 a1 : Value) (rest news : List (Addr × Obj)) (hr : ∀ p ∈ rest, p.1 ≠ S) (hPS : P ≠ S) (h0 : 0 ≤ v0) (h1 : 0 ≤ v1) (h2 : v1 < 2147483647) (hS : (S, lst2 v0 v1 t0 t1 c) ∈ news) (hP : (P, W.listOf #[a0, a1] c2) ∈ news) (hk : ∀ p ∈ rest, p ∈ news) :
    Ctr 356 4 news [.ref S, .ref P] (OkOne S rest [a0, a1]) := by
  have hr2 : ∀ p ∈ (P, W.listOf #[a0, a1] c2) :: rest, p.1 ≠ S := fun p hp => by
    rcases List.mem_cons.mp hp with rfl | hp
    · exact hPS
    · exact hr p hp
  refine Ctr.sub (l := (S, lst2 v0 v1 t0 t1 c) :: (P, W.listOf #[a0, a1] c2) :: rest) ?_ (fun p hp => by
    rcases List.mem_cons.mp hp with rfl | hp
    · exact hS
    · rcases List.mem_cons.mp hp with rfl | hp
      · exact hP
      · exact hk p hp)
  (k_with_none; (k_with "binaryOp FloorDiv int int" => (refine floordiv_int (by first | assumption | omega) ?_ (Or.inl (dv_of_sm (by assumption))))); refine mark_use ?_; k_fill; intro _; unfold Ctr; intro w_q mean_q mg_q mb_q dp_q un_q gd_q cn_q cs_q a_q ccd_q cl_q outer_q A_q base_q h_q L_q m_q s_q Q_q E_q B_q F_q X_q N T_q hk_q hdp_q hun_q hret; refine wpAny_call ?_; k_dflt (refine' code_def ?k1 ?k2 ?k3 ?k4 ?k5 ?kA ?kF ?kK ?k6 ?k7 ?k8 ?k9 ?kB ?_ ?c2 ?c3 ?c4 ?c5; (case kA => exact rfl); (case kF => exact rfl); (case kK => assumption); (case k1 => k_asm); (case k2 => k_asm); (case k3 => k_asm); (case k4 => k_asm); (case k5 => k_asm); (case k6 => k_is); (case k7 => k_is); (case k8 => ktr_room); (case k9 => first | exact BindsTo.of_eq rfl | exact binds_K (by k_in) rfl (by k_is) rfl rfl rfl); (case c5 => decide); (case kB => exact locs rfl); (case c2 => exact rfl); (case c3 => exact rfl); (case c4 => exact rfl); k_whole; intro g_r L_r h_r FG_r F_r N_r B_r X_r T_r; (try dsimp only); (try k_lift B_r); (try k_fold)))
  k_with "call ref" => (k_here; (with_reducible show wpAny _ _ (call (Value.ref 349) _) _ _ _); (k_dflt (refine' Ctr.use (ct_take _ _ _ _ _ _ _ _ ((P, W.listOf #[a0, a1] c2) :: rest) _ hr2 h0 h1 h2 (by decide) (by decide) ?hS ?hk) ?k1 ?k2 ?k3 ?k4 ?k5 ?kK ?kd ?ku ?_; (case k1 => k_asm); (case k2 => k_asm); (case k3 => k_asm); (case k4 => first | k_asm | exact cb_drop (by assumption) (by kcj_all)); (case k5 => k_asm); (case kK => first | exact rfl | assumption); (case kd => ktr_room); (case ku => ktr_units); (case hS => k_mem); (case hk => (intro p hp; repeat (first | exact hp | refine List.Mem.tail _ ?_))); k_whole)); intro r9 h9 tk9 n9 F9 N9 ho9; (obtain ⟨r9, v8, v9, t9, t8, t7, c9, e9, q9, b1, b2, b3, b4, b5⟩ := ho9); subst e9; subst q9; (try dsimp only); (try k_sweep); (try k_fold))
  k_with "subscriptTail" => (k_here; (refine sub_list (PySem.IsL.isList (N9 _ (.tail _ (.head _))).1) b1 (by first | exact b2 | (simp; omega)) ?_); intro y9 hy9)
  k_steps
  all_goals exact hret _ _ _ _ (by k_asm) (cb_drop (by assumption) (by intro p hp; rcases List.mem_cons.mp hp with rfl | hp; exact .head _; exact .tail _ (.tail _ hp))) ⟨_, _, _, _, _, rfl, by simpa using hy9, b3, b4, b5⟩

theorem ct_one3 (S P : Addr) (v0 v1 : Int) (t0 t1 : Tok) (c c2 : Nat) (a0 a1 a2 : Value) (rest news : List (Addr × Obj)) (hr : ∀ p ∈ rest, p.1 ≠ S) (hPS : P ≠ S) (h0 : 0 ≤ v0) (h1 : 0 ≤ v1) (h2 : v1 < 2147483647) (hS : (S, lst2 v0 v1 t0 t1 c) ∈ news) (hP : (P, W.listOf #[a0, a1, a2] c2) ∈ news) (hk : ∀ p ∈ rest, p ∈ news) :
    Ctr 356 4 news [.ref S, .ref P] (OkOne S rest [a0, a1, a2]) := by
  have hr2 : ∀ p ∈ (P, W.listOf #[a0, a1, a2] c2) :: rest, p.1 ≠ S := fun p hp => by
    rcases List.mem_cons.mp hp with rfl | hp
    · exact hPS
    · exact hr p hp
  refine Ctr.sub (l := (S, lst2 v0 v1 t0 t1 c) :: (P, W.listOf #[a0, a1, a2] c2) :: rest) ?_ (fun p hp => by
    rcases List.mem_cons.mp hp with rfl | hp
    · exact hS
    · rcases List.mem_cons.mp hp with rfl | hp
      · exact hP
      · exact hk p hp)
  (k_with_none; (k_with "binaryOp FloorDiv int int" => (refine floordiv_int (by first | assumption | omega) ?_ (Or.inl (dv_of_sm (by assumption))))); refine mark_use ?_; k_fill; intro _; unfold Ctr; intro w_q mean_q mg_q mb_q dp_q un_q gd_q cn_q cs_q a_q ccd_q cl_q outer_q A_q base_q h_q L_q m_q s_q Q_q E_q B_q F_q X_q N T_q hk_q hdp_q hun_q hret; refine wpAny_call ?_; k_dflt (refine' code_def ?k1 ?k2 ?k3 ?k4 ?k5 ?kA ?kF ?kK ?k6 ?k7 ?k8 ?k9 ?kB ?_ ?c2 ?c3 ?c4 ?c5; (case kA => exact rfl); (case kF => exact rfl); (case kK => assumption); (case k1 => k_asm); (case k2 => k_asm); (case k3 => k_asm); (case k4 => k_asm); (case k5 => k_asm); (case k6 => k_is); (case k7 => k_is); (case k8 => ktr_room); (case k9 => first | exact BindsTo.of_eq rfl | exact binds_K (by k_in) rfl (by k_is) rfl rfl rfl); (case c5 => decide); (case kB => exact locs rfl); (case c2 => exact rfl); (case c3 => exact rfl); (case c4 => exact rfl); k_whole; intro g_r L_r h_r FG_r F_r N_r B_r X_r T_r; (try dsimp only); (try k_lift B_r); (try k_fold)))
  k_with "call ref" => (k_here; (with_reducible show wpAny _ _ (call (Value.ref 349) _) _ _ _); (k_dflt (refine' Ctr.use (ct_take _ _ _ _ _ _ _ _ ((P, W.listOf #[a0, a1, a2] c2) :: rest) _ hr2 h0 h1 h2 (by decide) (by decide) ?hS ?hk) ?k1 ?k2 ?k3 ?k4 ?k5 ?kK ?kd ?ku ?_; (case k1 => k_asm); (case k2 => k_asm); (case k3 => k_asm); (case k4 => first | k_asm | exact cb_drop (by assumption) (by kcj_all)); (case k5 => k_asm); (case kK => first | exact rfl | assumption); (case kd => ktr_room); (case ku => ktr_units); (case hS => k_mem); (case hk => (intro p hp; repeat (first | exact hp | refine List.Mem.tail _ ?_))); k_whole)); intro r9 h9 tk9 n9 F9 N9 ho9; (obtain ⟨r9, v8, v9, t9, t8, t7, c9, e9, q9, b1, b2, b3, b4, b5⟩ := ho9); subst e9; subst q9; (try dsimp only); (try k_sweep); (try k_fold))
  k_with "subscriptTail" => (k_here; (refine sub_list (PySem.IsL.isList (N9 _ (.tail _ (.head _))).1) b1 (by first | exact b2 | (simp; omega)) ?_); intro y9 hy9)
  k_steps
  all_goals exact hret _ _ _ _ (by k_asm) (cb_drop (by assumption) (by intro p hp; rcases List.mem_cons.mp hp with rfl | hp; exact .head _; exact .tail _ (.tail _ hp))) ⟨_, _, _, _, _, rfl, by simpa using hy9, b3, b4, b5⟩

theorem ct_one5 (S P : Addr) (v0 v1 : Int) (t0 t1 : Tok) (c c2 : Nat) (a0 a1 a2 a3 a4 : Value) (rest news : List (Addr × Obj)) (hr : ∀ p ∈ rest, p.1 ≠ S) (hPS : P ≠ S) (h0 : 0 ≤ v0) (h1 : 0 ≤ v1) (h2 : v1 < 2147483647) (hS : (S, lst2 v0 v1 t0 t1 c) ∈ news) (hP : (P, W.listOf #[a0, a1, a2, a3, a4] c2) ∈ news) (hk : ∀ p ∈ rest, p ∈ news) :
    Ctr 356 4 news [.ref S, .ref P] (OkOne S rest [a0, a1, a2, a3, a4]) := by
  have hr2 : ∀ p ∈ (P, W.listOf #[a0, a1, a2, a3, a4] c2) :: rest, p.1 ≠ S := fun p hp => by
    rcases List.mem_cons.mp hp with rfl | hp
    · exact hPS
    · exact hr p hp
  refine Ctr.sub (l := (S, lst2 v0 v1 t0 t1 c) :: (P, W.listOf #[a0, a1, a2, a3, a4] c2) :: rest) ?_ (fun p hp => by
    rcases List.mem_cons.mp hp with rfl | hp
    · exact hS
    · rcases List.mem_cons.mp hp with rfl | hp
      · exact hP
      · exact hk p hp)
  (k_with_none; (k_with "binaryOp FloorDiv int int" => (refine floordiv_int (by first | assumption | omega) ?_ (Or.inl (dv_of_sm (by assumption))))); refine mark_use ?_; k_fill; intro _; unfold Ctr; intro w_q mean_q mg_q mb_q dp_q un_q gd_q cn_q cs_q a_q ccd_q cl_q outer_q A_q base_q h_q L_q m_q s_q Q_q E_q B_q F_q X_q N T_q hk_q hdp_q hun_q hret; refine wpAny_call ?_; k_dflt (refine' code_def ?k1 ?k2 ?k3 ?k4 ?k5 ?kA ?kF ?kK ?k6 ?k7 ?k8 ?k9 ?kB ?_ ?c2 ?c3 ?c4 ?c5; (case kA => exact rfl); (case kF => exact rfl); (case kK => assumption); (case k1 => k_asm); (case k2 => k_asm); (case k3 => k_asm); (case k4 => k_asm); (case k5 => k_asm); (case k6 => k_is); (case k7 => k_is); (case k8 => ktr_room); (case k9 => first | exact BindsTo.of_eq rfl | exact binds_K (by k_in) rfl (by k_is) rfl rfl rfl); (case c5 => decide); (case kB => exact locs rfl); (case c2 => exact rfl); (case c3 => exact rfl); (case c4 => exact rfl); k_whole; intro g_r L_r h_r FG_r F_r N_r B_r X_r T_r; (try dsimp only); (try k_lift B_r); (try k_fold)))
  k_with "call ref" => (k_here; (with_reducible show wpAny _ _ (call (Value.ref 349) _) _ _ _); (k_dflt (refine' Ctr.use (ct_take _ _ _ _ _ _ _ _ ((P, W.listOf #[a0, a1, a2, a3, a4] c2) :: rest) _ hr2 h0 h1 h2 (by decide) (by decide) ?hS ?hk) ?k1 ?k2 ?k3 ?k4 ?k5 ?kK ?kd ?ku ?_; (case k1 => k_asm); (case k2 => k_asm); (case k3 => k_asm); (case k4 => first | k_asm | exact cb_drop (by assumption) (by kcj_all)); (case k5 => k_asm); (case kK => first | exact rfl | assumption); (case kd => ktr_room); (case ku => ktr_units); (case hS => k_mem); (case hk => (intro p hp; repeat (first | exact hp | refine List.Mem.tail _ ?_))); k_whole)); intro r9 h9 tk9 n9 F9 N9 ho9; (obtain ⟨r9, v8, v9, t9, t8, t7, c9, e9, q9, b1, b2, b3, b4, b5⟩ := ho9); subst e9; subst q9; (try dsimp only); (try k_sweep); (try k_fold))
  k_with "subscriptTail" => (k_here; (refine sub_list (PySem.IsL.isList (N9 _ (.tail _ (.head _))).1) b1 (by first | exact b2 | (simp; omega)) ?_); intro y9 hy9)
  k_steps
  all_goals exact hret _ _ _ _ (by k_asm) (cb_drop (by assumption) (by intro p hp; rcases List.mem_cons.mp hp with rfl | hp; exact .head _; exact .tail _ (.tail _ hp))) ⟨_, _, _, _, _, rfl, by simpa using hy9, b3, b4, b5⟩

theorem ct_one9 (S P : Addr) (v0 v1 : Int) (t0 t1 : Tok) (c c2 : Nat) (a0 a1 a2 a3 a4 a5 a6 a7 a8 : Value) (rest news : List (Addr × Obj)) (hr : ∀ p ∈ rest, p.1 ≠ S) (hPS : P ≠ S) (h0 : 0 ≤ v0) (h1 : 0 ≤ v1) (h2 : v1 < 2147483647) (hS : (S, lst2 v0 v1 t0 t1 c) ∈ news) (hP : (P, W.listOf #[a0, a1, a2, a3, a4, a5, a6, a7, a8] c2) ∈ news) (hk : ∀ p ∈ rest, p ∈ news) :
    Ctr 356 4 news [.ref S, .ref P] (OkOne S rest [a0, a1, a2, a3, a4, a5, a6, a7, a8]) := by
  have hr2 : ∀ p ∈ (P, W.listOf #[a0, a1, a2, a3, a4, a5, a6, a7, a8] c2) :: rest, p.1 ≠ S := fun p hp => by
    rcases List.mem_cons.mp hp with rfl | hp
    · exact hPS
    · exact hr p hp
  refine Ctr.sub (l := (S, lst2 v0 v1 t0 t1 c) :: (P, W.listOf #[a0, a1, a2, a3, a4, a5, a6, a7, a8] c2) :: rest) ?_ (fun p hp => by
    rcases List.mem_cons.mp hp with rfl | hp
    · exact hS
    · rcases List.mem_cons.mp hp with rfl | hp
      · exact hP
      · exact hk p hp)
  (k_with_none; (k_with "binaryOp FloorDiv int int" => (refine floordiv_int (by first | assumption | omega) ?_ (Or.inl (dv_of_sm (by assumption))))); refine mark_use ?_; k_fill; intro _; unfold Ctr; intro w_q mean_q mg_q mb_q dp_q un_q gd_q cn_q cs_q a_q ccd_q cl_q outer_q A_q base_q h_q L_q m_q s_q Q_q E_q B_q F_q X_q N T_q hk_q hdp_q hun_q hret; refine wpAny_call ?_; k_dflt (refine' code_def ?k1 ?k2 ?k3 ?k4 ?k5 ?kA ?kF ?kK ?k6 ?k7 ?k8 ?k9 ?kB ?_ ?c2 ?c3 ?c4 ?c5; (case kA => exact rfl); (case kF => exact rfl); (case kK => assumption); (case k1 => k_asm); (case k2 => k_asm); (case k3 => k_asm); (case k4 => k_asm); (case k5 => k_asm); (case k6 => k_is); (case k7 => k_is); (case k8 => ktr_room); (case k9 => first | exact BindsTo.of_eq rfl | exact binds_K (by k_in) rfl (by k_is) rfl rfl rfl); (case c5 => decide); (case kB => exact locs rfl); (case c2 => exact rfl); (case c3 => exact rfl); (case c4 => exact rfl); k_whole; intro g_r L_r h_r FG_r F_r N_r B_r X_r T_r; (try dsimp only); (try k_lift B_r); (try k_fold)))
  k_with "call ref" => (k_here; (with_reducible show wpAny _ _ (call (Value.ref 349) _) _ _ _); (k_dflt (refine' Ctr.use (ct_take _ _ _ _ _ _ _ _ ((P, W.listOf #[a0, a1, a2, a3, a4, a5, a6, a7, a8] c2) :: rest) _ hr2 h0 h1 h2 (by decide) (by decide) ?hS ?hk) ?k1 ?k2 ?k3 ?k4 ?k5 ?kK ?kd ?ku ?_; (case k1 => k_asm); (case k2 => k_asm); (case k3 => k_asm); (case k4 => first | k_asm | exact cb_drop (by assumption) (by kcj_all)); (case k5 => k_asm); (case kK => first | exact rfl | assumption); (case kd => ktr_room); (case ku => ktr_units); (case hS => k_mem); (case hk => (intro p hp; repeat (first | exact hp | refine List.Mem.tail _ ?_))); k_whole)); intro r9 h9 tk9 n9 F9 N9 ho9; (obtain ⟨r9, v8, v9, t9, t8, t7, c9, e9, q9, b1, b2, b3, b4, b5⟩ := ho9); subst e9; subst q9; (try dsimp only); (try k_sweep); (try k_fold))
  k_with "subscriptTail" => (k_here; (refine sub_list (PySem.IsL.isList (N9 _ (.tail _ (.head _))).1) b1 (by first | exact b2 | (simp; omega)) ?_); intro y9 hy9)
  k_steps
  all_goals exact hret _ _ _ _ (by k_asm) (cb_drop (by assumption) (by intro p hp; rcases List.mem_cons.mp hp with rfl | hp; exact .head _; exact .tail _ (.tail _ hp))) ⟨_, _, _, _, _, rfl, by simpa using hy9, b3, b4, b5⟩
end SB21
section SB22
theorem ct_lowest (top bottom : Int) (hb : 0 < bottom) (hs : Sm 8000 bottom) (t1 t2 : Tok) (news : List (Addr × Obj)) :
    Ctr 363 3 news [.int top t1, .int bottom t2] (OkT news (loT top bottom) (loB top bottom)) := by
  have hg : gd top bottom ≠ 0 := Int.ne_of_gt (gd_pos top hb)
  have hg2 := gd_sm top hb hs
  (k_with_none; (k_with "binaryOp FloorDiv int int" => (refine floordiv_int (by first | assumption | omega) ?_ (Or.inl (dv_of_sm (by assumption))))); refine mark_use ?_; k_fill; intro _; unfold Ctr; intro w_q mean_q mg_q mb_q dp_q un_q gd_q cn_q cs_q a_q ccd_q cl_q outer_q A_q base_q h_q L_q m_q s_q Q_q E_q B_q F_q X_q N T_q hk_q hdp_q hun_q hret; refine wpAny_call ?_; k_dflt (refine' code_def ?k1 ?k2 ?k3 ?k4 ?k5 ?kA ?kF ?kK ?k6 ?k7 ?k8 ?k9 ?kB ?_ ?c2 ?c3 ?c4 ?c5; (case kA => exact rfl); (case kF => exact rfl); (case kK => assumption); (case k1 => k_asm); (case k2 => k_asm); (case k3 => k_asm); (case k4 => k_asm); (case k5 => k_asm); (case k6 => k_is); (case k7 => k_is); (case k8 => ktr_room); (case k9 => first | exact BindsTo.of_eq rfl | exact binds_K (by k_in) rfl (by k_is) rfl rfl rfl); (case c5 => decide); (case kB => exact locs rfl); (case c2 => exact rfl); (case c3 => exact rfl); (case c4 => exact rfl); k_whole; intro g_r L_r h_r FG_r F_r N_r B_r X_r T_r; (try dsimp only); (try k_lift B_r); (try k_fold)))
  k_with "exec While Compare cons nil" => k_while (fun _ a b => 0 ≤ a ∧ Nat.gcd a.natAbs b.toNat = Nat.gcd top.natAbs bottom.toNat) (fun _ _ b => b.toNat) "one" "other"
  k_with "state" => first | exact cd_start _ _ | exact cd_turn ⟨by assumption, by assumption⟩ (by assumption)
  k_with "measure" => exact cd_less ⟨by assumption, by assumption⟩ (by assumption)
  k_with "binaryOp FloorDiv int int" => (have e9 := cd_end ⟨by assumption, by assumption⟩ (by assumption); refine floordiv_int (by rw [e9]; exact hg) ?_ (Or.inl (dv_of_sm (by rw [e9]; exact hg2))))
  (repeat' (first | (k_unfold; (try dsimp only)) | (k_end; wrow_close) | (walk1; (try k_fold)) | (dsimp only; walk1; (try k_fold)) | (leave1; (try dsimp only)) | fail "no step"))
  all_goals (have e9 := cd_end ⟨by assumption, by assumption⟩ (by assumption); refine' okT_end hret ?e1 ?e2 ?e3 ?e4 ?e5 ?e6 ?e7; (case e1 => k_asm); (case e2 => first | with_reducible assumption | assumption); (case e3 => k_mem); (case e4 => (intro p hp; repeat (first | exact hp | refine List.Mem.tail _ ?_))); (case e5 => exact ktn_ltOf (by first | assumption | first | exact (And.right (by with_reducible assumption)) | exact (And.right (And.right (by with_reducible assumption))) | exact (And.right (And.right (And.right (by with_reducible assumption)))) | exact (And.right (And.right (And.right (And.right (by with_reducible assumption))))) | exact (And.right (And.right (And.right (And.right (And.right (by with_reducible assumption)))))) | exact (And.right (And.right (And.right (And.right (And.right (And.right (by with_reducible assumption))))))) | exact (And.right (And.right (And.right (And.right (And.right (And.right (And.right (by with_reducible assumption)))))))) | exact (And.right (And.right (And.right (And.right (And.right (And.right (And.right (And.right (by with_reducible assumption))))))))) | exact (And.right (And.right (And.right (And.right (And.right (And.right (And.right (And.right (And.right (by with_reducible assumption)))))))))) | exact (And.right (And.right (And.right (And.right (And.right (And.right (And.right (And.right (And.right (And.right (by with_reducible assumption))))))))))) | exact (And.right (And.right (And.right (And.right (And.right (And.right (And.right (And.right (And.right (And.right (And.right (by with_reducible assumption)))))))))))) | exact (And.right (And.right (And.right (And.right (And.right (And.right (And.right (And.right (And.right (And.right (And.right (And.right (by with_reducible assumption))))))))))))) | exact (And.right (And.right (And.right (And.right (And.right (And.right (And.right (And.right (And.right (And.right (And.right (And.right (And.right (by with_reducible assumption)))))))))))))) | exact (And.right (And.right (And.right (And.right (And.right (And.right (And.right (And.right (And.right (And.right (And.right (And.right (And.right (And.right (by with_reducible assumption))))))))))))))) | ktn_lt)); (case e6 => rw [e9]; rfl); (case e7 => rw [e9]; rfl))
end SB22
section SB23
theorem ct_due_neg (top bottom : Int) (t1 t2 : Tok) (news : List (Addr × Obj)) (hb : 0 < bottom) (hs : Sm 8000 bottom) (h : top < 0) : Ctr 377 6 news [.int top t1, .int bottom t2] (fun n y => n = news ∧ ∃ t, y = .str (Str.ofString "a size of letters below nought") t) := by
  (k_with_none; (k_with "binaryOp FloorDiv int int" => (refine floordiv_int (by first | assumption | omega) ?_ (Or.inl (dv_of_sm (by assumption))))); refine mark_use ?_; k_fill; intro _; unfold Ctr; intro w_q mean_q mg_q mb_q dp_q un_q gd_q cn_q cs_q a_q ccd_q cl_q outer_q A_q base_q h_q L_q m_q s_q Q_q E_q B_q F_q X_q N T_q hk_q hdp_q hun_q hret; refine wpAny_call ?_; k_dflt (refine' code_def ?k1 ?k2 ?k3 ?k4 ?k5 ?kA ?kF ?kK ?k6 ?k7 ?k8 ?k9 ?kB ?_ ?c2 ?c3 ?c4 ?c5; (case kA => exact rfl); (case kF => exact rfl); (case kK => assumption); (case k1 => k_asm); (case k2 => k_asm); (case k3 => k_asm); (case k4 => k_asm); (case k5 => k_asm); (case k6 => k_is); (case k7 => k_is); (case k8 => ktr_room); (case k9 => first | exact BindsTo.of_eq rfl | exact binds_K (by k_in) rfl (by k_is) rfl rfl rfl); (case c5 => decide); (case kB => exact locs rfl); (case c2 => exact rfl); (case c3 => exact rfl); (case c4 => exact rfl); k_whole; intro g_r L_r h_r FG_r F_r N_r B_r X_r T_r; (try dsimp only); (try k_lift B_r); (try k_fold); (try ((refine let_AX (P := fun AA9 => wpAny _ AA9 _ _ _ _) ?_); intro AA9))))
  k_with "execs cons" => ((with_reducible refine wpAny_execs_cons ?_); (try dsimp only); (try ((rename Fr _ _ _ _ => FF9); (revert FF9); (refine let_mX (P := fun mm9 => Fr _ _ _ mm9 → _) ?_); intro mm9 FF9)))
  (repeat' (first | (k_unfold; (try dsimp only)) | (k_end; wrow_close) | (walk1; (try k_fold)) | (dsimp only; walk1; (try k_fold)) | (leave1; (try dsimp only)) | fail "no step"))
  all_goals exact hret _ _ _ _ (by k_asm) (cb_drop (by assumption) (by intro p hp; repeat (first | exact hp | refine List.Mem.tail _ ?_))) ⟨rfl, _, rfl⟩
theorem ct_due_great (top bottom : Int) (t1 t2 : Tok) (news : List (Addr × Obj)) (hb : 0 < bottom) (hs : Sm 8000 bottom) (h : 0 ≤ top) (h2 : 100000000000000000000000000000000000000000000000000 ≤ top.fdiv bottom) : Ctr 377 6 news [.int top t1, .int bottom t2] (fun n y => n = news ∧ ∃ t, y = .str (Str.ofString "a size of letters that is too great") t) := by
  have hn : bottom ≠ 0 := by omega
  (k_with_none; (k_with "binaryOp FloorDiv int int" => (refine floordiv_int (by first | assumption | omega) ?_ (Or.inl (dv_of_sm (by assumption))))); refine mark_use ?_; k_fill; intro _; unfold Ctr; intro w_q mean_q mg_q mb_q dp_q un_q gd_q cn_q cs_q a_q ccd_q cl_q outer_q A_q base_q h_q L_q m_q s_q Q_q E_q B_q F_q X_q N T_q hk_q hdp_q hun_q hret; refine wpAny_call ?_; k_dflt (refine' code_def ?k1 ?k2 ?k3 ?k4 ?k5 ?kA ?kF ?kK ?k6 ?k7 ?k8 ?k9 ?kB ?_ ?c2 ?c3 ?c4 ?c5; (case kA => exact rfl); (case kF => exact rfl); (case kK => assumption); (case k1 => k_asm); (case k2 => k_asm); (case k3 => k_asm); (case k4 => k_asm); (case k5 => k_asm); (case k6 => k_is); (case k7 => k_is); (case k8 => ktr_room); (case k9 => first | exact BindsTo.of_eq rfl | exact binds_K (by k_in) rfl (by k_is) rfl rfl rfl); (case c5 => decide); (case kB => exact locs rfl); (case c2 => exact rfl); (case c3 => exact rfl); (case c4 => exact rfl); k_whole; intro g_r L_r h_r FG_r F_r N_r B_r X_r T_r; (try dsimp only); (try k_lift B_r); (try k_fold); (try ((refine let_AX (P := fun AA9 => wpAny _ AA9 _ _ _ _) ?_); intro AA9))))
  k_with "binaryOp Pow int int" => (refine pow10_is (by decide) (by decide) (show (10 : Int) ^ (Int.toNat 50) = 100000000000000000000000000000000000000000000000000 by decide) ?_)
  k_with "binaryOp FloorDiv int int" => (refine floordiv_int (by first | assumption | omega) ?_ (Or.inl (dv_of_sm (by assumption))))

  k_with "execs cons" => ((with_reducible refine wpAny_execs_cons ?_); (try dsimp only); (try ((rename Fr _ _ _ _ => FF9); (revert FF9); (refine let_mX (P := fun mm9 => Fr _ _ _ mm9 → _) ?_); intro mm9 FF9)))
  (repeat' (first | (k_unfold; (try dsimp only)) | (k_end; wrow_close) | (walk1; (try k_fold)) | (dsimp only; walk1; (try k_fold)) | (leave1; (try dsimp only)) | fail "no step"))
  all_goals exact hret _ _ _ _ (by k_asm) (cb_drop (by assumption) (by intro p hp; repeat (first | exact hp | refine List.Mem.tail _ ?_))) ⟨rfl, _, rfl⟩
theorem ct_due_small (top bottom : Int) (t1 t2 : Tok) (news : List (Addr × Obj)) (hb : 0 < bottom) (hs : Sm 8000 bottom) (h : 0 ≤ top) (h2 : top.fdiv bottom < 100000000000000000000000000000000000000000000000000) (h3 : loB top bottom ≤ 100000000000000000000000000000000000000000000000000) : Ctr 377 6 news [.int top t1, .int bottom t2] (OkT news (loT top bottom) (loB top bottom)) := by
  have hn : bottom ≠ 0 := by omega
  (k_with_none; (k_with "binaryOp FloorDiv int int" => (refine floordiv_int (by first | assumption | omega) ?_ (Or.inl (dv_of_sm (by assumption))))); refine mark_use ?_; k_fill; intro _; unfold Ctr; intro w_q mean_q mg_q mb_q dp_q un_q gd_q cn_q cs_q a_q ccd_q cl_q outer_q A_q base_q h_q L_q m_q s_q Q_q E_q B_q F_q X_q N T_q hk_q hdp_q hun_q hret; refine wpAny_call ?_; k_dflt (refine' code_def ?k1 ?k2 ?k3 ?k4 ?k5 ?kA ?kF ?kK ?k6 ?k7 ?k8 ?k9 ?kB ?_ ?c2 ?c3 ?c4 ?c5; (case kA => exact rfl); (case kF => exact rfl); (case kK => assumption); (case k1 => k_asm); (case k2 => k_asm); (case k3 => k_asm); (case k4 => k_asm); (case k5 => k_asm); (case k6 => k_is); (case k7 => k_is); (case k8 => ktr_room); (case k9 => first | exact BindsTo.of_eq rfl | exact binds_K (by k_in) rfl (by k_is) rfl rfl rfl); (case c5 => decide); (case kB => exact locs rfl); (case c2 => exact rfl); (case c3 => exact rfl); (case c4 => exact rfl); k_whole; intro g_r L_r h_r FG_r F_r N_r B_r X_r T_r; (try dsimp only); (try k_lift B_r); (try k_fold); (try ((refine let_AX (P := fun AA9 => wpAny _ AA9 _ _ _ _) ?_); intro AA9))))
  k_with "binaryOp Pow int int" => (refine pow10_is (by decide) (by decide) (show (10 : Int) ^ (Int.toNat 50) = 100000000000000000000000000000000000000000000000000 by decide) ?_)
  k_with "binaryOp FloorDiv int int" => (refine floordiv_int (by first | assumption | omega) ?_ (Or.inl (dv_of_sm (by assumption))))
  k_with "call ref" => (k_here; (with_reducible show wpAny _ _ (call (Value.ref 363) _) _ _ _); (k_dflt (refine' Ctr.use (ct_lowest _ _ hb hs _ _ _) ?k1 ?k2 ?k3 ?k4 ?k5 ?kK ?kd ?ku ?_; (case k1 => k_asm); (case k2 => k_asm); (case k3 => k_asm); (case k4 => first | k_asm | exact cb_drop (by assumption) (by kcj_all)); (case k5 => k_asm); (case kK => first | exact rfl | assumption); (case kd => ktr_room); (case ku => ktr_units); k_whole)); intro r9 h9 tk9 n9 F9 N9 ho9; (obtain ⟨D9, t9, u9, c9, e9, q9, l9⟩ := OkT.out ho9); clear ho9; subst q9; subst e9; (try k_lt l9); (try dsimp only); (try k_sweep); (try k_fold))
  k_with "execs cons" => ((with_reducible refine wpAny_execs_cons ?_); (try dsimp only); (try ((rename Fr _ _ _ _ => FF9); (revert FF9); (refine let_mX (P := fun mm9 => Fr _ _ _ mm9 → _) ?_); intro mm9 FF9)))
  (repeat' (first | (k_unfold; (try dsimp only)) | (k_end; wrow_close) | (walk1; (try k_fold)) | (dsimp only; walk1; (try k_fold)) | (leave1; (try dsimp only)) | fail "no step"))
  all_goals first | (exfalso; omega) | (refine' okI_end hret ?e1 ?e2 ?e3 ?e4; (case e1 => k_asm); (case e2 => first | with_reducible assumption | assumption); (case e3 => (intro p hp; repeat (first | exact hp | refine List.Mem.tail _ ?_))); (case e4 => first | rfl | assumption | ((repeat' split) <;> omega) | (simp; done))) | (refine' okT_end hret ?e1 ?e2 ?e3 ?e4 ?e5 ?e6 ?e7; (case e1 => k_asm); (case e2 => first | with_reducible assumption | assumption); (case e3 => k_mem); (case e4 => (intro p hp; repeat (first | exact hp | refine List.Mem.tail _ ?_))); (case e5 => exact ktn_ltOf (by first | exact (And.right (by with_reducible assumption)) | exact (And.right (And.right (by with_reducible assumption))) | exact (And.right (And.right (And.right (by with_reducible assumption)))) | exact (And.right (And.right (And.right (And.right (by with_reducible assumption))))) | exact (And.right (And.right (And.right (And.right (And.right (by with_reducible assumption)))))) | exact (And.right (And.right (And.right (And.right (And.right (And.right (by with_reducible assumption))))))) | exact (And.right (And.right (And.right (And.right (And.right (And.right (And.right (by with_reducible assumption)))))))) | exact (And.right (And.right (And.right (And.right (And.right (And.right (And.right (And.right (by with_reducible assumption))))))))) | exact (And.right (And.right (And.right (And.right (And.right (And.right (And.right (And.right (And.right (by with_reducible assumption)))))))))) | exact (And.right (And.right (And.right (And.right (And.right (And.right (And.right (And.right (And.right (And.right (by with_reducible assumption))))))))))) | exact (And.right (And.right (And.right (And.right (And.right (And.right (And.right (And.right (And.right (And.right (And.right (by with_reducible assumption)))))))))))) | exact (And.right (And.right (And.right (And.right (And.right (And.right (And.right (And.right (And.right (And.right (And.right (And.right (by with_reducible assumption))))))))))))) | exact (And.right (And.right (And.right (And.right (And.right (And.right (And.right (And.right (And.right (And.right (And.right (And.right (And.right (by with_reducible assumption)))))))))))))) | exact (And.right (And.right (And.right (And.right (And.right (And.right (And.right (And.right (And.right (And.right (And.right (And.right (And.right (And.right (by with_reducible assumption))))))))))))))) | ktn_lt)); (case e6 => rfl); (case e7 => rfl))
theorem ct_due_big (top bottom : Int) (t1 t2 : Tok) (news : List (Addr × Obj)) (hb : 0 < bottom) (hs : Sm 8000 bottom) (h : 0 ≤ top) (h2 : top.fdiv bottom < 100000000000000000000000000000000000000000000000000) (a b q r : Int) (ha : loT top bottom = a) (hbb : loB top bottom = b) (h3 : 100000000000000000000000000000000000000000000000000 < b) (hq : (a * 100000000000000000000000000000000000000000000000000).fdiv b = q) (hr : (a * 100000000000000000000000000000000000000000000000000).fmod b = r) (hm : IntMulOk a 100000000000000000000000000000000000000000000000000) (hsb : Sm 8000 b) (hsm : Sm 8000 100000000000000000000000000000000000000000000000000) :
    Ctr 377 6 news [.int top t1, .int bottom t2] (OkT news (loT (q + (if b - r ≤ r then 1 else 0)) 100000000000000000000000000000000000000000000000000) (loB (q + (if b - r ≤ r then 1 else 0)) 100000000000000000000000000000000000000000000000000)) := by
  have hn : bottom ≠ 0 := by omega
  have hnb : b ≠ 0 := by omega
  have hc : ∀ (t1 t2 : Tok) (nw : List (Addr × Obj)), Ctr 363 3 nw [.int top t1, .int bottom t2] (OkT nw a b) := by
    intro t1 t2 nw
    have c := ct_lowest top bottom hb hs t1 t2 nw
    rw [ha, hbb] at c
    exact c
  (k_with_none; (k_with "binaryOp FloorDiv int int" => (refine floordiv_int (by first | assumption | omega) ?_ (Or.inl (dv_of_sm (by assumption))))); refine mark_use ?_; k_fill; intro _; unfold Ctr; intro w_q mean_q mg_q mb_q dp_q un_q gd_q cn_q cs_q a_q ccd_q cl_q outer_q A_q base_q h_q L_q m_q s_q Q_q E_q B_q F_q X_q N T_q hk_q hdp_q hun_q hret; refine wpAny_call ?_; k_dflt (refine' code_def ?k1 ?k2 ?k3 ?k4 ?k5 ?kA ?kF ?kK ?k6 ?k7 ?k8 ?k9 ?kB ?_ ?c2 ?c3 ?c4 ?c5; (case kA => exact rfl); (case kF => exact rfl); (case kK => assumption); (case k1 => k_asm); (case k2 => k_asm); (case k3 => k_asm); (case k4 => k_asm); (case k5 => k_asm); (case k6 => k_is); (case k7 => k_is); (case k8 => ktr_room); (case k9 => first | exact BindsTo.of_eq rfl | exact binds_K (by k_in) rfl (by k_is) rfl rfl rfl); (case c5 => decide); (case kB => exact locs rfl); (case c2 => exact rfl); (case c3 => exact rfl); (case c4 => exact rfl); k_whole; intro g_r L_r h_r FG_r F_r N_r B_r X_r T_r; (try dsimp only); (try k_lift B_r); (try k_fold); (try ((refine let_AX (P := fun AA9 => wpAny _ AA9 _ _ _ _) ?_); intro AA9))))
  k_with "binaryOp Pow int int" => (refine pow10_is (by decide) (by decide) (show (10 : Int) ^ (Int.toNat 50) = 100000000000000000000000000000000000000000000000000 by decide) ?_)
  k_with "binaryOp FloorDiv int int" => (refine floordiv_int (by first | assumption | omega) ?_ (Or.inl (dv_of_sm (by assumption))))
  k_with "call ref" => (k_here; (with_reducible show wpAny _ _ (call (Value.ref 363) _) _ _ _); (k_dflt (refine' Ctr.use (ct_lowest _ 100000000000000000000000000000000000000000000000000 (by decide) hsm _ _ _) ?k1 ?k2 ?k3 ?k4 ?k5 ?kK ?kd ?ku ?_; (case k1 => k_asm); (case k2 => k_asm); (case k3 => k_asm); (case k4 => first | k_asm | exact cb_drop (by assumption) (by kcj_all)); (case k5 => k_asm); (case kK => first | exact rfl | assumption); (case kd => ktr_room); (case ku => ktr_units); k_whole)); intro r9 h9 tk9 n9 F9 N9 ho9; (obtain ⟨D9, t9, u9, c9, e9, q9, l9⟩ := OkT.out ho9); clear ho9; subst q9; subst e9; (try k_lt l9); (try dsimp only); (try k_sweep); (try k_fold))
  k_with "call ref" => (k_here; (with_reducible show wpAny _ _ (call (Value.ref 363) _) _ _ _); (k_dflt (refine' Ctr.use (hc _ _ _) ?k1 ?k2 ?k3 ?k4 ?k5 ?kK ?kd ?ku ?_; (case k1 => k_asm); (case k2 => k_asm); (case k3 => k_asm); (case k4 => first | k_asm | exact cb_drop (by assumption) (by kcj_all)); (case k5 => k_asm); (case kK => first | exact rfl | assumption); (case kd => ktr_room); (case ku => ktr_units); k_whole)); intro r9 h9 tk9 n9 F9 N9 ho9; (obtain ⟨D9, t9, u9, c9, e9, q9, l9⟩ := OkT.out ho9); clear ho9; subst q9; subst e9; (try k_lt l9); (try dsimp only); (try k_sweep); (try k_fold))
  k_with "execs cons" => ((with_reducible refine wpAny_execs_cons ?_); (try dsimp only); (try ((rename Fr _ _ _ _ => FF9); (revert FF9); (refine let_mX (P := fun mm9 => Fr _ _ _ mm9 → _) ?_); intro mm9 FF9)))
  (repeat' (first | (k_unfold; (try dsimp only)) | (k_end; wrow_close) | (walk1; (try k_fold)) | (dsimp only; walk1; (try k_fold)) | (leave1; (try dsimp only)) | fail "no step"))
  subst hq
  subst hr
  all_goals (refine' okT_end hret ?e1 ?e2 ?e3 ?e4 ?e5 ?e6 ?e7; (case e1 => k_asm); (case e2 => first | with_reducible assumption | assumption); (case e3 => k_mem); (case e4 => (intro p hp; repeat (first | exact hp | refine List.Mem.tail _ ?_))); (case e5 => exact ktn_ltOf (by first | assumption | first | exact (And.right (by with_reducible assumption)) | exact (And.right (And.right (by with_reducible assumption))) | exact (And.right (And.right (And.right (by with_reducible assumption)))) | exact (And.right (And.right (And.right (And.right (by with_reducible assumption))))) | exact (And.right (And.right (And.right (And.right (And.right (by with_reducible assumption)))))) | exact (And.right (And.right (And.right (And.right (And.right (And.right (by with_reducible assumption))))))) | exact (And.right (And.right (And.right (And.right (And.right (And.right (And.right (by with_reducible assumption)))))))) | exact (And.right (And.right (And.right (And.right (And.right (And.right (And.right (And.right (by with_reducible assumption))))))))) | exact (And.right (And.right (And.right (And.right (And.right (And.right (And.right (And.right (And.right (by with_reducible assumption)))))))))) | exact (And.right (And.right (And.right (And.right (And.right (And.right (And.right (And.right (And.right (And.right (by with_reducible assumption))))))))))) | exact (And.right (And.right (And.right (And.right (And.right (And.right (And.right (And.right (And.right (And.right (And.right (by with_reducible assumption)))))))))))) | exact (And.right (And.right (And.right (And.right (And.right (And.right (And.right (And.right (And.right (And.right (And.right (And.right (by with_reducible assumption))))))))))))) | exact (And.right (And.right (And.right (And.right (And.right (And.right (And.right (And.right (And.right (And.right (And.right (And.right (And.right (by with_reducible assumption)))))))))))))) | exact (And.right (And.right (And.right (And.right (And.right (And.right (And.right (And.right (And.right (And.right (And.right (And.right (And.right (And.right (by with_reducible assumption))))))))))))))) | ktn_lt)); (case e6 => first | rfl | (congr 2; split <;> simp_all)); (case e7 => first | rfl | (congr 2; split <;> simp_all)))
end SB23
section SB24
theorem hk9 {q x0 x1 x2 x3 x4 x5 x6 x7 x8 y : Addr × Obj} {rest : List (Addr × Obj)} : ∀ p ∈ x0 :: x1 :: x2 :: x3 :: x4 :: x5 :: x6 :: x7 :: x8 :: rest, p ∈ q :: x0 :: x1 :: x2 :: x3 :: x4 :: x5 :: x6 :: x7 :: x8 :: y :: rest := by
  intro p hp
  simp only [List.mem_cons] at hp ⊢
  repeat (rcases hp with hp | hp; · simp [hp])
  simp [hp]

abbrev tup3 (u : Str) (a b : Int) (t0 t1 t2 : Tok) (c : Nat) : Obj := { cls := .type "tuple", data := .seq #[.str u t0, .int a t1, .int b t2] c }
def unitT (u : Str) (a b : Int) : Prop := (u = Str.ofString "" ∧ a = 1 ∧ b = 1) ∨ (u = Str.ofString "px" ∧ a = 1 ∧ b = 1) ∨ (u = Str.ofString "pt" ∧ a = 4 ∧ b = 3) ∨ (u = Str.ofString "pc" ∧ a = 16 ∧ b = 1) ∨ (u = Str.ofString "mm" ∧ a = 480 ∧ b = 127) ∨ (u = Str.ofString "cm" ∧ a = 4800 ∧ b = 127) ∨ (u = Str.ofString "in" ∧ a = 96 ∧ b = 1) ∨ (u = Str.ofString "em" ∧ a = 0 ∧ b = 1) ∨ (u = Str.ofString "%" ∧ a = 0 ∧ b = 100)
def OkUnit (S : Addr) (rest : List (Addr × Obj)) (n : List (Addr × Obj)) (y : Value) : Prop := ∃ v0 v1 t0 t1 c D u a b k0 k1 k2 d, n = (S, lst2 v0 v1 t0 t1 c) :: (D, tup3 u a b k0 k1 k2 d) :: rest ∧ y = .ref D ∧ unitT u a b ∧ D ≠ S ∧ 0 ≤ v0 ∧ 0 ≤ v1 ∧ v1 < 2147483647
theorem unit_end {S D : Addr} {v0 v1 : Int} {t0 t1 : Tok} {c d : Nat} {u : Str} {a b : Int} {k0 k1 k2 : Tok} {h₀ h' : Heap} {L : Addr} {m : Str → Option Value} {rest news' : List (Addr × Obj)} {s : Shared} {Q : Value → Shared → Prop} {tk' : Nat}
    (hret : ∀ r h' tk' news', Fr h₀ L h' m → News h₀ L h' news' → OkUnit S rest news' r → Q r { s with heap := h', toks := tk' })
    (F : Fr h₀ L h' m) (N : News h₀ L h' ((S, lst2 v0 v1 t0 t1 c) :: news')) (hm : (D, tup3 u a b k0 k1 k2 d) ∈ news') (hs : ∀ p ∈ rest, p ∈ news') (hu : unitT u a b) (hne : D ≠ S) (b3 : 0 ≤ v0) (b4 : 0 ≤ v1) (b5 : v1 < 2147483647) : Q (.ref D) { s with heap := h', toks := tk' } := by
  refine hret _ _ _ ((S, lst2 v0 v1 t0 t1 c) :: (D, tup3 u a b k0 k1 k2 d) :: rest) F (fun p hp => ?_) ⟨_, _, _, _, _, _, _, _, _, _, _, _, _, rfl, rfl, hu, hne, b3, b4, b5⟩
  rcases List.mem_cons.mp hp with rfl | hp
  · exact N _ (.head _)
  · rcases List.mem_cons.mp hp with rfl | hp
    · exact N _ (.tail _ hm)
    · exact N _ (.tail _ (hs p hp))
theorem ct_unit (S : Addr) (v0 v1 : Int) (t0 t1 : Tok) (c : Nat) (rest : List (Addr × Obj)) (hr : ∀ p ∈ rest, p.1 ≠ S) (h0 : 0 ≤ v0) (h1 : 0 ≤ v1) (h2 : v1 < 2147483647) :
    Ctr 398 6 ((S, lst2 v0 v1 t0 t1 c) :: rest) [.ref S] (OkUnit S rest) := by
  (k_with_none; (k_with "binaryOp FloorDiv int int" => (refine floordiv_int (by first | assumption | omega) ?_ (Or.inl (dv_of_sm (by assumption))))); refine mark_use ?_; k_fill; intro _; unfold Ctr; intro w_q mean_q mg_q mb_q dp_q un_q gd_q cn_q cs_q a_q ccd_q cl_q outer_q A_q base_q h_q L_q m_q s_q Q_q E_q B_q F_q X_q N T_q hk_q hdp_q hun_q hret; refine wpAny_call ?_; k_dflt (refine' code_def ?k1 ?k2 ?k3 ?k4 ?k5 ?kA ?kF ?kK ?k6 ?k7 ?k8 ?k9 ?kB ?_ ?c2 ?c3 ?c4 ?c5; (case kA => exact rfl); (case kF => exact rfl); (case kK => assumption); (case k1 => k_asm); (case k2 => k_asm); (case k3 => k_asm); (case k4 => k_asm); (case k5 => k_asm); (case k6 => k_is); (case k7 => k_is); (case k8 => ktr_room); (case k9 => first | exact BindsTo.of_eq rfl | exact binds_K (by k_in) rfl (by k_is) rfl rfl rfl); (case c5 => decide); (case kB => exact locs rfl); (case c2 => exact rfl); (case c3 => exact rfl); (case c4 => exact rfl); k_whole; intro g_r L_r h_r FG_r F_r N_r B_r X_r T_r; (try dsimp only); (try k_lift B_r); (try k_fold); (try ((refine let_AX (P := fun AA9 => wpAny _ AA9 _ _ _ _) ?_); intro AA9))))
  k_with "call ref" => (k_here; (with_reducible show wpAny _ _ (call (Value.ref 356) _) _ _ _); (k_dflt (refine' Ctr.use (ct_one9 _ _ _ _ _ _ _ _ _ _ _ _ _ _ _ _ _ _ _ ?hr ?hps h0 h1 h2 ?hS ?hP ?hk) ?k1 ?k2 ?k3 ?k4 ?k5 ?kK ?kd ?ku ?_; (case k1 => k_asm); (case k2 => k_asm); (case k3 => k_asm); (case k4 => first | k_asm | exact cb_drop (by assumption) (by kcj_all)); (case k5 => k_asm); (case kK => first | exact rfl | assumption); (case kd => ktr_room); (case ku => ktr_units); (case hS => k_mem); (case hP => k_mem); (case hk => exact hk9); (case hr => (intro p hp; (repeat (rcases List.mem_cons.mp hp with rfl | hp; exact (Nat.ne_of_gt (by dsimp only; omega)))); exact hr p hp)); (case hps => exact (Nat.ne_of_gt (by omega))); k_whole)); intro r9 h9 tk9 n9 F9 N9 ho9; (obtain ⟨v8, v9, t8, t7, c9, e9, q9, b3, b4, b5⟩ := ho9); subst e9; (try dsimp only); (try k_sweep); (try k_fold))
  k_with "execs cons" => ((with_reducible refine wpAny_execs_cons ?_); (try dsimp only); (try ((rename Fr _ _ _ _ => FF9); (revert FF9); (refine let_mX (P := fun mm9 => Fr _ _ _ mm9 → _) ?_); intro mm9 FF9)); (try k_fold))
  k_steps
  all_goals (simp only [List.mem_cons, List.not_mem_nil, or_false] at q9; rcases q9 with q9 | q9 | q9 | q9 | q9 | q9 | q9 | q9 | q9)
  all_goals subst q9
  all_goals (refine' unit_end hret ?f ?n ?m ?sb ?u ?ne b3 b4 b5; (case f => k_asm); (case n => assumption); (case m => k_mem); (case sb => (intro p hp; repeat (first | exact hp | refine List.Mem.tail _ ?_))); (case u => (unfold unitT; simp)); (case ne => exact (Nat.ne_of_gt (by omega))))
end SB24
section SB25
theorem ct_answer_ok (w : World) (x : Str) (tx : Tok) (r : Addr) (a b : Int) (news : List (Addr × Obj))
   (hown : ∀ (t : Tok) (nw : List (Addr × Obj)), (∀ p ∈ news, p ∈ nw) → CtrW w 335 16 nw [.str x t, .ref r] (OkT nw a b)) :
    CtrW w 370 18 news [.str x tx, .ref r] (OkT news a b) := by
  k_with_none; (k_with "binaryOp FloorDiv int int" => (refine floordiv_int (by first | assumption | omega) ?_ (Or.inl (dv_of_sm (by assumption))))); refine mark_use ?_; k_fill; intro _; unfold CtrW; intro mean mg mb dp un gd cn cs a ccd cl outer A₀ base h₀ L m s Q E B F X N T hk hdp hun hret
  refine wpAny_call ?_
  k_dflt (refine' code_def ?k1 ?k2 ?k3 ?k4 ?k5 ?kA ?kF ?kK ?k6 ?k7 ?k8 ?k9 ?kB ?_ ?c2 ?c3 ?c4 ?c5; (case kA => exact rfl); (case kF => exact rfl); (case kK => first | exact rfl | assumption); (case k1 => k_asm); (case k2 => k_asm); (case k3 => k_asm); (case k4 => k_asm); (case k5 => k_asm); (case k6 => k_is); (case k7 => k_is); (case k8 => ktr_room); (case k9 => first | exact BindsTo.of_eq rfl | exact binds_K (by k_in) rfl (by k_is) rfl rfl rfl); (case c5 => decide); (case kB => exact locs rfl); (case c2 => exact rfl); (case c3 => exact rfl); (case c4 => exact rfl); k_whole; intro g' L' h' FG' F' N' B' X' T'; (try dsimp only); (try k_lift B'); (try k_fold))
  k_with "call ref" => (k_here; (with_reducible show wpAny _ _ (call (Value.ref 335) _) _ _ _); (k_dflt (refine' CtrW.use (hown _ _ ?hq) ?k1 ?k2 ?k3 ?k4 ?k5 ?kK ?kd ?ku ?_; (case k1 => k_asm); (case k2 => k_asm); (case k3 => k_asm); (case k4 => first | k_asm | exact cb_drop (by assumption) (by kcj_all)); (case k5 => k_asm); (case kK => first | exact rfl | assumption); (case kd => ktr_room); (case ku => ktr_units); (case hq => (intro p hp; repeat (first | exact hp | refine List.Mem.tail _ ?_))); k_whole)); intro r9 h9 tk9 n9 F9 N9 ho9; (obtain ⟨D9, t9, u9, c9, e9, q9, l9⟩ := OkT.out ho9); clear ho9; subst q9; subst e9; (try k_lt l9); (try dsimp only); (try k_sweep); (try k_fold))
  k_steps
  all_goals first | (exfalso; omega) | (refine' okI_end hret ?e1 ?e2 ?e3 ?e4; (case e1 => k_asm); (case e2 => first | with_reducible assumption | assumption); (case e3 => (intro p hp; repeat (first | exact hp | refine List.Mem.tail _ ?_))); (case e4 => first | rfl | assumption | ((repeat' split) <;> omega) | (simp; done))) | (refine' okT_end hret ?e1 ?e2 ?e3 ?e4 ?e5 ?e6 ?e7; (case e1 => k_asm); (case e2 => first | with_reducible assumption | assumption); (case e3 => k_mem); (case e4 => (intro p hp; repeat (first | exact hp | refine List.Mem.tail _ ?_))); (case e5 => exact ktn_ltOf (by first | exact (And.right (by with_reducible assumption)) | exact (And.right (And.right (by with_reducible assumption))) | exact (And.right (And.right (And.right (by with_reducible assumption)))) | exact (And.right (And.right (And.right (And.right (by with_reducible assumption))))) | exact (And.right (And.right (And.right (And.right (And.right (by with_reducible assumption)))))) | exact (And.right (And.right (And.right (And.right (And.right (And.right (by with_reducible assumption))))))) | exact (And.right (And.right (And.right (And.right (And.right (And.right (And.right (by with_reducible assumption)))))))) | exact (And.right (And.right (And.right (And.right (And.right (And.right (And.right (And.right (by with_reducible assumption))))))))) | exact (And.right (And.right (And.right (And.right (And.right (And.right (And.right (And.right (And.right (by with_reducible assumption)))))))))) | exact (And.right (And.right (And.right (And.right (And.right (And.right (And.right (And.right (And.right (And.right (by with_reducible assumption))))))))))) | exact (And.right (And.right (And.right (And.right (And.right (And.right (And.right (And.right (And.right (And.right (And.right (by with_reducible assumption)))))))))))) | exact (And.right (And.right (And.right (And.right (And.right (And.right (And.right (And.right (And.right (And.right (And.right (And.right (by with_reducible assumption))))))))))))) | exact (And.right (And.right (And.right (And.right (And.right (And.right (And.right (And.right (And.right (And.right (And.right (And.right (And.right (by with_reducible assumption)))))))))))))) | exact (And.right (And.right (And.right (And.right (And.right (And.right (And.right (And.right (And.right (And.right (And.right (And.right (And.right (And.right (by with_reducible assumption))))))))))))))) | ktn_lt)); (case e6 => rfl); (case e7 => rfl))
end SB25
section SB27
/-- what Look(values, size) makes -/
def OkLook (V : Addr) (sz : Value) (news n : List (Addr × Obj)) (y : Value) : Prop :=
  ∃ r d S h1 h2 h3 k1 k2 k3, n = (r, instObj 317 d) :: (d, lookO h1 h2 h3 k1 k2 k3 V sz S) :: news ∧ y = .ref r
theorem ct_look (V : Addr) (sz : Value) (news : List (Addr × Obj)) : Ctr 317 4 news [.ref V, sz] (OkLook V sz news) := by
  k_with_none; (k_with "binaryOp FloorDiv int int" => (refine floordiv_int (by first | assumption | omega) ?_ (Or.inl (dv_of_sm (by assumption))))); refine mark_use ?_; k_fill; intro _; unfold Ctr; intro w mean mg mb dp un gd cn cs a ccd cl outer A₀ base h₀ L m s Q E B F X N T hk hdp hun hret
  k_dflt (refine' call_cls ?k1 ?k2 ?k3 ?k4 ?k5 ?k6 ?_; (case k1 => k_asm); (case k2 => k_asm); (case k3 => k_asm); (case k4 => k_is); (case k5 => k_is); (case k6 => k_is); k_whole; intro x' d' h' F' N' l1 l2; (try k_lt l1); (try k_lt2 l2); (refine' code_def ?k1 ?k2 ?k3 ?k4 ?k5 ?kA ?kF ?kK ?k6 ?k7 ?k8 ?k9 ?kB ?_ ?c2 ?c3 ?c4 ?c5; (case kA => exact rfl); (case kF => exact rfl); (case kK => first | exact rfl | assumption); (case k1 => k_asm); (case k2 => k_asm); (case k3 => k_asm); (case k4 => k_asm); (case k5 => k_asm); (case k6 => k_is); (case k7 => k_is); (case k8 => ktr_room); (case k9 => first | exact BindsTo.of_eq rfl | exact binds_K (by k_in) rfl (by k_is) rfl rfl rfl); (case c5 => decide); (case kB => exact locs rfl); (case c2 => exact rfl); (case c3 => exact rfl); (case c4 => exact rfl); k_whole; intro g' L' h' FG' F' N' B' X' T'; (try dsimp only); (try k_lift B'); (try k_fold)))
  k_steps
  all_goals exact hret _ _ _ _ (by k_asm) (cb_drop (by assumption) (by intro p hp; rcases List.mem_cons.mp hp with rfl | hp; k_mem; rcases List.mem_cons.mp hp with rfl | hp; k_mem; (repeat (first | exact hp | refine List.Mem.tail _ ?_)))) ⟨_, _, _, _, _, _, _, _, _, rfl, rfl⟩
end SB27
section SL1
theorem gd_gcd (t : Int) {b : Int} (hb : 0 < b) : gd t b = (Int.gcd t b : Int) := by
  unfold gd
  have : b.toNat = b.natAbs := by omega
  rw [this]
  rfl
theorem loT_mul (t : Int) {b : Int} (hb : 0 < b) : loT t b * gd t b = t := by
  have hg := gd_pos t hb
  have hd : gd t b ∣ t := by rw [gd_gcd t hb]; exact Int.gcd_dvd_left ..
  unfold loT
  rw [Int.fdiv_eq_ediv_of_nonneg _ (Int.le_of_lt hg)]
  exact Int.ediv_mul_cancel hd
theorem loB_mul (t : Int) {b : Int} (hb : 0 < b) : loB t b * gd t b = b := by
  have hg := gd_pos t hb
  have hd : gd t b ∣ b := by rw [gd_gcd t hb]; exact Int.gcd_dvd_right ..
  unfold loB
  rw [Int.fdiv_eq_ediv_of_nonneg _ (Int.le_of_lt hg)]
  exact Int.ediv_mul_cancel hd
theorem loB_pos (t : Int) {b : Int} (hb : 0 < b) : 0 < loB t b := by
  have hg := gd_pos t hb
  have h := loB_mul t hb
  exact Int.pos_of_mul_pos_left (by rw [h]; exact hb) hg
theorem loB_le (t : Int) {b : Int} (hb : 0 < b) : loB t b ≤ b := by
  have hg := gd_pos t hb
  have h := loB_mul t hb
  have hp := loB_pos t hb
  have := Int.mul_le_mul_of_nonneg_left (show (1:Int) ≤ gd t b by omega) (Int.le_of_lt hp)
  omega
theorem loT_pos {t b : Int} (ht : 0 < t) (hb : 0 < b) : 0 < loT t b := by
  have hg := gd_pos t hb
  have h := loT_mul t hb
  exact Int.pos_of_mul_pos_left (by rw [h]; exact ht) hg
theorem loT_nn {t b : Int} (ht : 0 ≤ t) (hb : 0 < b) : 0 ≤ loT t b := by
  have hg := gd_pos t hb
  unfold loT
  exact Int.fdiv_nonneg ht (Int.le_of_lt hg)
theorem loT_le {t b : Int} (ht : 0 ≤ t) (hb : 0 < b) : loT t b ≤ t := by
  have hg := gd_pos t hb
  have h := loT_mul t hb
  have hp := loT_nn ht hb
  have := Int.mul_le_mul_of_nonneg_left (show (1:Int) ≤ gd t b by omega) hp
  omega
theorem lo_eq (t : Int) {b : Int} (hb : 0 < b) : loT t b * b = t * loB t b := by
  have h1 := loT_mul t hb
  have h2 := loB_mul t hb
  calc loT t b * b = loT t b * (loB t b * gd t b) := by rw [h2]
    _ = (loT t b * gd t b) * loB t b := by rw [Int.mul_comm (loB t b), ← Int.mul_assoc]
    _ = t * loB t b := by rw [h1]
theorem lo_cop (t : Int) {b : Int} (hb : 0 < b) : Int.gcd (loT t b) (loB t b) = 1 := by
  have hg := gd_pos t hb
  have e := gd_gcd t hb
  have hp : 0 < Int.gcd t b := by omega
  unfold loT loB
  rw [Int.fdiv_eq_ediv_of_nonneg _ (Int.le_of_lt hg), Int.fdiv_eq_ediv_of_nonneg _ (Int.le_of_lt hg), e]
  exact Int.gcd_ediv_gcd_ediv_gcd hp
theorem cop_dvd {k n m : Int} (h : Int.gcd k n = 1) (hd : k ∣ n * m) : k ∣ m := by
  have := Int.dvd_gcd_mul_iff_dvd_mul.mpr hd
  rw [h] at this
  rwa [show ((1 : Nat) : Int) * m = m from Int.one_mul m] at this
theorem cop_uniq {a b c d : Int} (hb : 0 < b) (hd : 0 < d) (h1 : Int.gcd a b = 1) (h2 : Int.gcd c d = 1) (h : a * d = c * b) : a = c ∧ b = d := by
  have d1 : b ∣ d := cop_dvd (by rw [Int.gcd_comm]; exact h1) (show b ∣ a * d by rw [h]; exact Int.dvd_mul_left ..)
  have d2 : d ∣ b := cop_dvd (by rw [Int.gcd_comm]; exact h2) (show d ∣ c * b by rw [← h]; exact Int.dvd_mul_left ..)
  have e : b = d := Int.le_antisymm (Int.le_of_dvd hd d1) (Int.le_of_dvd hb d2)
  subst e
  exact ⟨Int.eq_of_mul_eq_mul_right (Int.ne_of_gt hb) h, rfl⟩
theorem lo_uniq {t b t' b' : Int} (hb : 0 < b) (hb' : 0 < b') (h : t * b' = t' * b) : loT t b = loT t' b' ∧ loB t b = loB t' b' := by
  refine cop_uniq (loB_pos t hb) (loB_pos t' hb') (lo_cop t hb) (lo_cop t' hb') ?_
  have e1 := loT_mul t hb
  have e2 := loB_mul t hb
  have e3 := loT_mul t' hb'
  have e4 := loB_mul t' hb'
  have g1 := gd_pos t hb
  have g2 := gd_pos t' hb'
  have : loT t b * loB t' b' * (gd t b * gd t' b') = loT t' b' * loB t b * (gd t b * gd t' b') := by
    calc loT t b * loB t' b' * (gd t b * gd t' b') = (loT t b * gd t b) * (loB t' b' * gd t' b') := by ac_rfl
      _ = t * b' := by rw [e1, e4]
      _ = t' * b := h
      _ = (loT t' b' * gd t' b') * (loB t b * gd t b) := by rw [e3, e2]
      _ = loT t' b' * loB t b * (gd t b * gd t' b') := by ac_rfl
  exact Int.eq_of_mul_eq_mul_right (Int.ne_of_gt (Int.mul_pos g1 g2)) this
end SL1
section SB26
theorem hk4 {q x0 x1 x2 x3 y : Addr × Obj} {rest : List (Addr × Obj)} : ∀ p ∈ x0 :: x1 :: x2 :: x3 :: rest, p ∈ q :: x0 :: x1 :: x2 :: x3 :: y :: rest := by
  intro p hp
  simp only [List.mem_cons] at hp ⊢
  repeat (rcases hp with hp | hp; · simp [hp])
  simp [hp]

abbrev tupR (a b : Addr) (c : Nat) : Obj := { cls := .type "tuple", data := .seq #[.ref a, .ref b] c }
def OkAround (w : World) (S : Addr) (rest n : List (Addr × Obj)) (y : Value) : Prop :=
  ∃ v0 v1 t0 t1 c Y rL dL V o Z SL told f0 f1 z1 z2 z3 y1 y2 y3 g0 g1 c2 c3, n = (S, lst2 v0 v1 t0 t1 c) :: (Y, tupR rL Z c3) :: (rL, instObj 317 dL) :: (dL, lookO z1 z2 z3 y1 y2 y3 V told SL) :: (V, o) :: (Z, tup2 f0 f1 g0 g1 c2) :: rest ∧ y = .ref Y ∧ TabO w V o ∧ ((told = .none ∧ f0 = 16 ∧ f1 = 1) ∨ told = .ref Z) ∧ 0 < f0 ∧ f0 ≤ 10 ^ 40 ∧ 0 < f1 ∧ f1 ≤ 10 ^ 40 ∧ 0 ≤ v0 ∧ 0 ≤ v1 ∧ v1 < 2147483647
theorem around_end {w : World} {S Y rL dL V Z SL : Addr} {o : Obj} {told : Value} {f0 f1 : Int} {v0 v1 : Int} {t0 t1 : Tok} {c c2 c3 : Nat} {z1 z2 z3 : Int} {y1 y2 y3 g0 g1 : Tok} {h₀ h' : Heap} {L : Addr} {m : Str → Option Value} {rest news' : List (Addr × Obj)} {s : Shared} {Q : Value → Shared → Prop} {tk' : Nat}
    (hret : ∀ r h' tk' news', Fr h₀ L h' m → News h₀ L h' news' → OkAround w S rest news' r → Q r { s with heap := h', toks := tk' })
    (F : Fr h₀ L h' m) (N : News h₀ L h' news') (e1 : (S, lst2 v0 v1 t0 t1 c) ∈ news') (e2 : (Y, tupR rL Z c3) ∈ news') (e3 : (rL, instObj 317 dL) ∈ news') (e4 : (dL, lookO z1 z2 z3 y1 y2 y3 V told SL) ∈ news') (e5 : (V, o) ∈ news') (e6 : (Z, tup2 f0 f1 g0 g1 c2) ∈ news') (hs : ∀ p ∈ rest, p ∈ news')
    (ht : TabO w V o) (hd : (told = .none ∧ f0 = 16 ∧ f1 = 1) ∨ told = .ref Z) (hf : (0 < f0 ∧ f0 ≤ 10 ^ 40) ∧ 0 < f1 ∧ f1 ≤ 10 ^ 40) (b3 : 0 ≤ v0) (b4 : 0 ≤ v1) (b5 : v1 < 2147483647) : Q (.ref Y) { s with heap := h', toks := tk' } := by
  refine hret _ _ _ ((S, lst2 v0 v1 t0 t1 c) :: (Y, tupR rL Z c3) :: (rL, instObj 317 dL) :: (dL, lookO z1 z2 z3 y1 y2 y3 V told SL) :: (V, o) :: (Z, tup2 f0 f1 g0 g1 c2) :: rest) F (fun p hp => ?_) ⟨_, _, _, _, _, _, _, _, _, _, _, _, _, _, _, _, _, _, _, _, _, _, _, _, _, rfl, rfl, ht, hd, hf.1.1, hf.1.2, hf.2.1, hf.2.2, b3, b4, b5⟩
  rcases List.mem_cons.mp hp with rfl | hp
  · exact N _ e1
  rcases List.mem_cons.mp hp with rfl | hp
  · exact N _ e2
  rcases List.mem_cons.mp hp with rfl | hp
  · exact N _ e3
  rcases List.mem_cons.mp hp with rfl | hp
  · exact N _ e4
  rcases List.mem_cons.mp hp with rfl | hp
  · exact N _ e5
  rcases List.mem_cons.mp hp with rfl | hp
  · exact N _ e6
  · exact N _ (hs p hp)
theorem eq161 {a b : Int} (h : (a == 16 && b == 1) = true) : a = 16 ∧ b = 1 := by simpa using h
theorem lo_bds {a b : Int} (h1 : 0 ≤ a) (h2 : a < 40) (h3 : 0 ≤ b) (h4 : b < 9) : (0 < loT (1 + a) (1 + b) ∧ loT (1 + a) (1 + b) ≤ 10 ^ 40) ∧ 0 < loB (1 + a) (1 + b) ∧ loB (1 + a) (1 + b) ≤ 10 ^ 40 := by
  have k1 : (0 : Int) < 1 + a := by omega
  have k2 : (0 : Int) < 1 + b := by omega
  have h5 := loT_le (Int.le_of_lt k1) k2
  have h6 := loB_le (1 + a) k2
  have e : (10 : Int) ^ 40 = 10000000000000000000000000000000000000000 := by decide
  rw [e]
  exact ⟨⟨loT_pos k1 k2, by omega⟩, loB_pos _ k2, by omega⟩
theorem size5 {g h : Heap} {L S Da Db Dc D9 : Addr} {ol : Obj} {a b : Int} {t1 t2 t3 t4 t5 t6 t7 t8 : Tok} {c1 c2 c3 c4 : Nat} {rest : List (Addr × Obj)} {y : Value} (N : News g L h ((S, ol) :: (Dc, tup2 1 (10 ^ Int.toNat 40) t1 t2 c1) :: (Db, tup2 (10 ^ Int.toNat 40) 1 t3 t4 c2) :: (Da, tup2 16 1 t5 t6 c3) :: (D9, tup2 a b t7 t8 c4) :: rest)) (q : y ∈ [Value.ref Da, .ref D9, .ref D9, .ref Db, .ref Dc]) (hb : (0 < a ∧ a ≤ 10 ^ 40) ∧ 0 < b ∧ b ≤ 10 ^ 40) :
    ∃ Z fa fb ga gb gc, y = .ref Z ∧ News g L h ((Z, tup2 fa fb ga gb gc) :: (S, ol) :: rest) ∧ ((0 < fa ∧ fa ≤ 10 ^ 40) ∧ 0 < fb ∧ fb ≤ 10 ^ 40) := by
  have key : ∀ {Z : Addr} {fa fb : Int} {ga gb : Tok} {gc : Nat}, (Z, tup2 fa fb ga gb gc) ∈ ((S, ol) :: (Dc, tup2 1 (10 ^ Int.toNat 40) t1 t2 c1) :: (Db, tup2 (10 ^ Int.toNat 40) 1 t3 t4 c2) :: (Da, tup2 16 1 t5 t6 c3) :: (D9, tup2 a b t7 t8 c4) :: rest) → News g L h ((Z, tup2 fa fb ga gb gc) :: (S, ol) :: rest) := fun hm p hp => by
    rcases List.mem_cons.mp hp with rfl | hp
    · exact N _ hm
    rcases List.mem_cons.mp hp with rfl | hp
    · exact N _ (.head _)
    · exact N _ (.tail _ (.tail _ (.tail _ (.tail _ (.tail _ hp)))))
  simp only [List.mem_cons, List.not_mem_nil, or_false] at q
  rcases q with q | q | q | q | q
  · exact ⟨_, _, _, _, _, _, q, key (.tail _ (.tail _ (.tail _ (.head _)))), by decide⟩
  · exact ⟨_, _, _, _, _, _, q, key (.tail _ (.tail _ (.tail _ (.tail _ (.head _))))), hb⟩
  · exact ⟨_, _, _, _, _, _, q, key (.tail _ (.tail _ (.tail _ (.tail _ (.head _))))), hb⟩
  · exact ⟨_, _, _, _, _, _, q, key (.tail _ (.tail _ (.head _))), by decide⟩
  · exact ⟨_, _, _, _, _, _, q, key (.tail _ (.head _)), by decide⟩
theorem ct_around (w : World) (S : Addr) (v0 v1 : Int) (t0 t1 : Tok) (c : Nat) (rest : List (Addr × Obj)) (hr : ∀ p ∈ rest, p.1 ≠ S) (h0 : 0 ≤ v0) (h1 : 0 ≤ v1) (h2 : v1 < 2147483647) :
    CtrW w 391 9 ((S, lst2 v0 v1 t0 t1 c) :: rest) [.ref S] (OkAround w S rest) := by
  k_with_none; (k_with "binaryOp FloorDiv int int" => (refine floordiv_int (by first | assumption | omega) ?_ (Or.inl (dv_of_sm (by assumption))))); refine mark_use ?_; k_fill; intro _; unfold CtrW; intro mean mg mb dp un gd cn cs a ccd cl outer A₀ base h₀ L m s Q E B F X N T hk hdp hun hret
  refine wpAny_call ?_
  k_dflt (refine' code_def ?k1 ?k2 ?k3 ?k4 ?k5 ?kA ?kF ?kK ?k6 ?k7 ?k8 ?k9 ?kB ?_ ?c2 ?c3 ?c4 ?c5; (case kA => exact rfl); (case kF => exact rfl); (case kK => first | exact rfl | assumption); (case k1 => k_asm); (case k2 => k_asm); (case k3 => k_asm); (case k4 => k_asm); (case k5 => k_asm); (case k6 => k_is); (case k7 => k_is); (case k8 => ktr_room); (case k9 => first | exact BindsTo.of_eq rfl | exact binds_K (by k_in) rfl (by k_is) rfl rfl rfl); (case c5 => decide); (case kB => exact locs rfl); (case c2 => exact rfl); (case c3 => exact rfl); (case c4 => exact rfl); k_whole; intro g' L' h' FG' F' N' B' X' T'; (try dsimp only); (try k_lift B'); (try k_fold))
  k_with "call ref" => (k_here; (with_reducible show wpAny _ _ (call (Value.ref 349) _) _ _ _); (k_dflt (refine' Ctr.use (ct_take _ _ _ _ _ _ _ _ rest _ hr ?h0 ?h1 ?h2 (by decide) (by decide) ?hS ?hk) ?k1 ?k2 ?k3 ?k4 ?k5 ?kK ?kd ?ku ?_; (case k1 => k_asm); (case k2 => k_asm); (case k3 => k_asm); (case k4 => first | k_asm | exact cb_drop (by assumption) (by kcj_all)); (case k5 => k_asm); (case kK => first | exact rfl | assumption); (case kd => ktr_room); (case ku => ktr_units); (case hS => k_mem); (case h0 => assumption); (case h1 => assumption); (case h2 => assumption); (case hk => (intro p hp; repeat (first | exact hp | refine List.Mem.tail _ ?_))); k_whole)); intro r9 h9 tk9 n9 F9 N9 ho9; (obtain ⟨r9, v8, v9, t9, t8, t7, c9, e9, q9, b1, b2, b3, b4, b5⟩ := ho9); subst e9; subst q9; (try dsimp only); (try k_sweep); (try k_fold))
  k_with "call ref" => (k_here; (with_reducible show wpAny _ _ (call (Value.ref 363) _) _ _ _); (k_dflt (refine' Ctr.use (ct_lowest _ _ ?hb ?hs _ _ _) ?k1 ?k2 ?k3 ?k4 ?k5 ?kK ?kd ?ku ?_; (case k1 => k_asm); (case k2 => k_asm); (case k3 => k_asm); (case k4 => first | k_asm | exact cb_drop (by assumption) (by kcj_all)); (case k5 => k_asm); (case kK => first | exact rfl | assumption); (case kd => ktr_room); (case ku => ktr_units); (case hb => omega); (case hs => (unfold Sm; omega)); k_whole)); intro r9 h9 tk9 n9 F9 N9 ho9; (obtain ⟨D9, t9, u9, c9, e9, q9, l9⟩ := OkT.out ho9); clear ho9; subst q9; subst e9; (try k_lt l9); (try dsimp only); (try k_sweep); (try k_fold))
  k_with "call ref" => (k_here; (with_reducible show wpAny _ _ (call (Value.ref 356) _) _ _ _); (k_dflt (refine' Ctr.use (ct_one5 _ _ _ _ _ _ _ _ _ _ _ _ _ _ _ ?hr ?hps ?h0 ?h1 ?h2 ?hS ?hP ?hk) ?k1 ?k2 ?k3 ?k4 ?k5 ?kK ?kd ?ku ?_; (case k1 => k_asm); (case k2 => k_asm); (case k3 => k_asm); (case k4 => first | k_asm | exact cb_drop (by assumption) (by kcj_all)); (case k5 => k_asm); (case kK => first | exact rfl | assumption); (case kd => ktr_room); (case ku => ktr_units); (case hS => k_mem); (case hP => k_mem); (case hk => exact hk4); (case hr => (intro p hp; (repeat (rcases List.mem_cons.mp hp with rfl | hp; exact (Nat.ne_of_gt (by dsimp only; omega)))); exact hr p hp)); (case hps => exact (Nat.ne_of_gt (by omega))); (case h0 => assumption); (case h1 => assumption); (case h2 => assumption); k_whole)); intro r9 h9 tk9 n9 F9 N9 ho9; (obtain ⟨v8, v9, t8, t7, c9, e9, q9, b3, b4, b5⟩ := ho9); subst e9; (obtain ⟨Z9, fa9, fb9, ga9, gb9, gc9, e8, N8, bd9⟩ := size5 N9 q9 (lo_bds (by assumption) (by assumption) (by assumption) (by assumption))); clear N9 q9; subst e8; (try dsimp only); (try k_sweep); (try k_fold))
  k_with "call ref" => (k_here; (with_reducible show wpAny _ _ (call (Value.ref 328) _) _ _ _); (k_dflt (refine' CtrW.use (ct_first_look _ _) ?k1 ?k2 ?k3 ?k4 ?k5 ?kK ?kd ?ku ?_; (case k1 => k_asm); (case k2 => k_asm); (case k3 => k_asm); (case k4 => first | k_asm | exact cb_drop (by assumption) (by kcj_all)); (case k5 => k_asm); (case kK => first | exact rfl | assumption); (case kd => ktr_room); (case ku => ktr_units); k_whole)); intro r9 h9 tk9 n9 F9 N9 ho9; (obtain ⟨r9, d9, V9, S9, o9, a1, a2, a3, k1, k2, k3, e9, q9, lo1, lo2, lo3, lo4⟩ := OkL.out ho9); clear ho9; subst q9; subst e9; (try k_lt lo1); (try dsimp only); (try k_sweep); (try k_fold))
  k_with "call ref" => (k_here; (with_reducible show wpAny _ _ (call (Value.ref 317) _) _ _ _); (k_dflt (refine' Ctr.use (ct_look _ _ _) ?k1 ?k2 ?k3 ?k4 ?k5 ?kK ?kd ?ku ?_; (case k1 => k_asm); (case k2 => k_asm); (case k3 => k_asm); (case k4 => first | k_asm | exact cb_drop (by assumption) (by kcj_all)); (case k5 => k_asm); (case kK => first | exact rfl | assumption); (case kd => ktr_room); (case ku => ktr_units); k_whole)); intro r9 h9 tk9 n9 F9 N9 ho9; (obtain ⟨rL, dL, SL, z1, z2, z3, y1, y2, y3, e9, q9⟩ := ho9); subst e9; subst q9; (try dsimp only); (try k_sweep); (try k_fold))
  (repeat' (first | (k_unfold; (try dsimp only)) | (k_end; wrow_close) | (walk1; (try k_fold)) | (dsimp only; walk1; (try k_fold)) | (leave1; (try dsimp only)) | fail "no step"))
  all_goals (refine' around_end hret ?f ?n ?m1 ?m2 ?m3 ?m4 ?m5 ?m6 ?sb ?ta ?u ?bd ?b3 ?b4 ?b5; (case f => k_asm); (case n => with_reducible assumption); (case m1 => k_mem); (case m2 => k_mem); (case m3 => k_mem); (case m4 => k_mem); (case m5 => k_mem); (case m6 => k_mem); (case sb => (intro p hp; repeat (first | exact hp | refine List.Mem.tail _ ?_))); (case ta => with_reducible assumption); (case u => first | exact Or.inr rfl | exact Or.inl ⟨rfl, rfl, rfl⟩ | exact Or.inl ⟨rfl, eq161 (by with_reducible assumption)⟩); (case bd => with_reducible assumption); (case b3 => with_reducible assumption); (case b4 => with_reducible assumption); (case b5 => with_reducible assumption))
end SB26
section SL2
theorem xlen {x : Str} {l : List Nat} (e : x.cps.toList = l) : x.length = l.length := by
  rw [← e, Array.length_toList]; rfl
theorem xget {x : Str} {pre post : List Nat} {c : Nat} (e : x.cps.toList = pre ++ c :: post) : x.cps[pre.length]? = some c := by
  rw [← Array.getElem?_toList, e]
  simp
theorem isOf_at {x sg : Str} {pre post : List Nat} {c : Nat} (e : x.cps.toList = pre ++ c :: post) : isOf x pre.length sg = decide (c ∈ sg.cps.toList) := by
  unfold isOf
  rw [xget e]
theorem isOf_no {x sg : Str} {pre : List Nat} (e : x.cps.toList = pre) : isOf x pre.length sg = false := by
  unfold isOf
  rw [← Array.getElem?_toList, e]
  simp
/-- the rest does not begin with a sign of sg's -/
def offL (l : List Nat) (sg : Str) : Prop := ∀ c r, l = c :: r → c ∉ sg.cps.toList
theorem isOf_off {x sg : Str} {pre post : List Nat} (e : x.cps.toList = pre ++ post) (h : offL post sg) : isOf x pre.length sg = false := by
  cases post with
  | nil => exact isOf_no (by rw [e, List.append_nil])
  | cons c r =>
    rw [isOf_at e]
    exact decide_eq_false (h c r rfl)
theorem isOf_on {x sg : Str} {pre post : List Nat} {c : Nat} (e : x.cps.toList = pre ++ c :: post) (h : c ∈ sg.cps.toList) : isOf x pre.length sg = true := by
  rw [isOf_at e]
  exact decide_eq_true h
theorem skP_off {x sg : Str} {pre post : List Nat} (e : x.cps.toList = pre ++ post) (h : offL post sg) : skP x (pre.length : Int) sg = pre.length := by
  unfold skP
  rw [if_neg (by rw [Int.toNat_natCast, isOf_off e h]; decide)]
theorem skV_off {x sg : Str} {pre post : List Nat} (e : x.cps.toList = pre ++ post) (h : offL post sg) : skV x (pre.length : Int) sg = Str.ofString "" := by
  unfold skV
  rw [if_neg (by rw [Int.toNat_natCast, isOf_off e h]; decide)]
theorem skP_on {x sg : Str} {pre post : List Nat} {c : Nat} (e : x.cps.toList = pre ++ c :: post) (h : c ∈ sg.cps.toList) : skP x (pre.length : Int) sg = ((pre ++ [c]).length : Nat) := by
  unfold skP
  rw [if_pos (by rw [Int.toNat_natCast]; exact isOf_on e h)]
  simp
theorem skV_on {x sg : Str} {pre post : List Nat} {c : Nat} (e : x.cps.toList = pre ++ c :: post) (h : c ∈ sg.cps.toList) : skV x (pre.length : Int) sg = ⟨#[c]⟩ := by
  unfold skV
  rw [if_pos (by rw [Int.toNat_natCast]; exact isOf_on e h)]
  have hl := xlen e
  have h2 : pre.length < x.length := by rw [hl]; simp
  unfold Txt.item Txt.charAt seqIndex?
  simp only [show ¬ ((pre.length : Int) < 0) from by omega, if_false]
  rw [if_pos (by simp only [Bool.and_eq_true, decide_eq_true_eq]; omega)]
  simp only [Option.bind_some, Int.toNat_natCast]
  rw [xget e]
  rfl
def allDg (l : List Nat) : Prop := ∀ c ∈ l, 48 ≤ c ∧ c ≤ 57
theorem isDg_iff (c : Nat) : isDg c = true ↔ (48 ≤ c ∧ c ≤ 57) := by
  unfold isDg
  rw [decide_eq_true_iff]
  rw [show (Str.ofString "0123456789").cps.toList = [48, 49, 50, 51, 52, 53, 54, 55, 56, 57] from by decide +kernel]
  simp only [List.mem_cons, List.not_mem_nil, or_false]
  omega
def offD (l : List Nat) : Prop := ∀ c r, l = c :: r → ¬ (48 ≤ c ∧ c ≤ 57)
theorem tw_all : ∀ (ds post : List Nat), allDg ds → offD post → (ds ++ post).takeWhile isDg = ds
  | [], post, _, hp => by
    cases post with
    | nil => rfl
    | cons c r =>
      have := hp c r rfl
      rw [List.nil_append, List.takeWhile_cons, if_neg (by rw [isDg_iff]; exact this)]
  | d :: ds, post, hd, hp => by
    rw [List.cons_append, List.takeWhile_cons, if_pos ((isDg_iff d).mpr (hd d (by simp)))]
    rw [tw_all ds post (fun c hc => hd c (by simp [hc])) hp]
theorem dgE_at {x : Str} {pre ds post : List Nat} (e : x.cps.toList = pre ++ (ds ++ post)) (hd : allDg ds) (hp : offD post) : dgE x (pre.length : Int) = ((pre ++ ds).length : Nat) := by
  unfold dgE
  rw [Int.toNat_natCast, e, List.drop_left, tw_all ds post hd hp]
  simp
theorem sl_at {x : Str} {pre mid post : List Nat} (e : x.cps.toList = pre ++ (mid ++ post)) : Txt.slice x (some (pre.length : Int)) (some ((pre ++ mid).length : Nat)) = ⟨mid.toArray⟩ := by
  have hl := xlen e
  have := eq_of_beq (slice_closesL (x := x) (i := (pre.length : Int)) (j := ((pre ++ mid).length : Nat)) (by omega) (by rw [List.length_append]; omega) (by rw [hl]; simp only [List.length_append]; omega))
  rw [this, Int.toNat_natCast, e, List.drop_left]
  rw [show (((pre ++ mid).length : Nat) - (pre.length : Int)).toNat = mid.length from by simp only [List.length_append]; omega]
  rw [List.take_left]
theorem codes_mk (l : List Nat) : KStt.codes ⟨l.toArray⟩ = l.map (fun (c : Nat) => (c : Int)) := rfl
end SL2
section SL3
theorem eE_list : eE.cps.toList = [101, 69] := by decide +kernel
theorem pm_list : pm.cps.toList = [43, 45] := by decide +kernel
theorem dot_list : (Str.ofString ".").cps.toList = [46] := by decide +kernel
theorem offL_dg {l post : List Nat} {sg : Str} (hl : allDg l) (hne : l ≠ []) (hs : ∀ c ∈ sg.cps.toList, ¬ (48 ≤ c ∧ c ≤ 57)) : offL (l ++ post) sg := by
  intro c r h hc
  cases l with
  | nil => exact hne rfl
  | cons d ds =>
    rw [List.cons_append] at h
    injection h with h1 h2
    subst h1
    exact hs d hc (hl d (by simp))
theorem pm_nd : ∀ c ∈ pm.cps.toList, ¬ (48 ≤ c ∧ c ≤ 57) := by rw [pm_list]; decide
theorem dot_nd : ∀ c ∈ (Str.ofString ".").cps.toList, ¬ (48 ≤ c ∧ c ≤ 57) := by rw [dot_list]; decide
theorem offD_nil : offD [] := fun c r h => by cases h
theorem offD_cons {c : Nat} {r : List Nat} (h : ¬ (48 ≤ c ∧ c ≤ 57)) : offD (c :: r) := fun d s e => by
  injection e with e1 e2
  subst e1
  exact h
theorem offL_nil (sg : Str) : offL [] sg := fun c r h => by cases h
theorem offL_cons {c : Nat} {r : List Nat} {sg : Str} (h : c ∉ sg.cps.toList) : offL (c :: r) sg := fun d s e => by
  injection e with e1 e2
  subst e1
  exact h
theorem beq_false_of_ne {x y : Str} (h : x ≠ y) : (x == y) = false := by
  cases q : (x == y) with
  | false => rfl
  | true => exact absurd (eq_of_beq q) h
theorem mk_ne {l : List Nat} (h : l ≠ []) : ((⟨l.toArray⟩ : Str) == Str.ofString "") = false := by
  refine beq_false_of_ne fun e => h ?_
  have := congrArg (fun s : Str => s.cps.toList) e
  have h2 : (Str.ofString "").cps.toList = [] := by decide +kernel
  simpa [h2] using this
theorem figs_mk {l : List Nat} (h : allDg l) : figs ⟨l.toArray⟩ := fun c hc => h c (by simpa using hc)
/-- the exponent's text and its value -/
def ExL (ex : List Nat) (ev : Int) : Prop := (ex = [] ∧ ev = 0) ∨ ∃ c q ds, ex = c :: (q ++ ds) ∧ (c = 101 ∨ c = 69) ∧ allDg ds ∧ ds ≠ [] ∧ ds.length ≤ 9 ∧ whZ (ds.map fun (c : Nat) => (c : Int)) ≤ 300 ∧ ((q = [] ∧ ev = whZ (ds.map fun (c : Nat) => (c : Int))) ∨ (q = [45] ∧ ev = -whZ (ds.map fun (c : Nat) => (c : Int))))
theorem exL_off {ex : List Nat} {ev : Int} (h : ExL ex ev) : offD ex := by
  rcases h with ⟨rfl, _⟩ | ⟨c, q, ds, rfl, hc, _⟩
  · exact offD_nil
  · exact offD_cons (by omega)
theorem exL_dot {ex : List Nat} {ev : Int} (h : ExL ex ev) : offL ex (Str.ofString ".") := by
  rcases h with ⟨rfl, _⟩ | ⟨c, q, ds, rfl, hc, _⟩
  · exact offL_nil _
  · refine offL_cons ?_
    rw [dot_list]
    rcases hc with rfl | rfl <;> decide
theorem ex_at {x : Str} {pre ex : List Nat} {ev : Int} (e : x.cps.toList = pre ++ ex) (h : ExL ex ev) :
    exV x (pre.length : Int) = ev ∧ exP x (pre.length : Int) = (x.length : Int) ∧ (isOf x (pre.length : Int).toNat eE = true → ExOk x (pre.length : Int)) := by
  have hl := xlen e
  rcases h with ⟨rfl, rfl⟩ | ⟨c, q, ds, rfl, hc, hd, hne, hlen, h300, hq⟩
  · have ho : isOf x (pre.length : Int).toNat eE = false := by rw [Int.toNat_natCast]; exact isOf_off e (offL_nil _)
    refine ⟨?_, ?_, fun k => ?_⟩
    · unfold exV; rw [if_neg (by rw [ho]; decide)]
    · unfold exP; rw [if_neg (by rw [ho]; decide), hl, List.append_nil]
    · rw [ho] at k; cases k
  · have hin : c ∈ eE.cps.toList := by
      rw [eE_list]
      rcases hc with rfl | rfl <;> decide
    have ho : isOf x (pre.length : Int).toNat eE = true := by rw [Int.toNat_natCast]; exact isOf_on e hin
    have e1 : skP x (pre.length : Int) eE = ((pre ++ [c]).length : Nat) := skP_on e hin
    have e2 : x.cps.toList = (pre ++ [c]) ++ (q ++ ds) := by rw [e]; simp
    have hB : exB x (pre.length : Int) = ((pre ++ [c] ++ q).length : Nat) := by
      unfold exB
      rw [e1]
      rcases hq with ⟨rfl, _⟩ | ⟨rfl, _⟩
      · rw [skP_off e2 (by rw [List.nil_append, ← List.append_nil ds]; exact offL_dg hd hne pm_nd), List.append_nil]
      · exact skP_on (post := ds) e2 (by rw [pm_list]; decide)
    have hS : (skV x (skP x (pre.length : Int) eE) pm == Str.ofString "-") = decide (q = [45]) := by
      rw [e1]
      rcases hq with ⟨rfl, _⟩ | ⟨rfl, _⟩
      · rw [skV_off e2 (by rw [List.nil_append, ← List.append_nil ds]; exact offL_dg hd hne pm_nd)]
        decide +kernel
      · rw [skV_on (post := ds) e2 (by rw [pm_list]; decide)]
        decide +kernel
    have e3 : x.cps.toList = (pre ++ [c] ++ q) ++ (ds ++ []) := by rw [e]; simp
    have hE : dgE x (exB x (pre.length : Int)) = ((pre ++ [c] ++ q ++ ds).length : Nat) := by
      rw [hB]
      exact dgE_at e3 hd offD_nil
    have hD : exD x (pre.length : Int) = ⟨ds.toArray⟩ := by
      unfold exD
      rw [hE, hB]
      exact sl_at e3
    have hcd : KStt.codes (exD x (pre.length : Int)) = ds.map fun (c : Nat) => (c : Int) := by
      rw [hD]
      exact codes_mk ds
    refine ⟨?_, ?_, fun _ => ⟨?_, ?_, ?_, ?_⟩⟩
    · unfold exV
      rw [if_pos ho, hS, hcd]
      rcases hq with ⟨rfl, rfl⟩ | ⟨rfl, rfl⟩
      · rfl
      · rfl
    · unfold exP
      rw [if_pos ho, hE, hl]
      simp only [List.length_append, List.length_cons, List.length_nil]
      omega
    · rw [hD]; exact mk_ne hne
    · rw [hD]
      have : (⟨ds.toArray⟩ : Str).length = ds.length := rfl
      omega
    · rw [hcd]; exact h300
    · rw [hD]; exact figs_mk hd
end SL3
section SL4
theorem p10 {k n : Nat} (h : k ≤ n) : 0 < (10 : Int) ^ k ∧ (10 : Int) ^ k ≤ 10 ^ n := by
  have h1 := Nat.pow_le_pow_right (n := 10) (by decide) h
  have h2 : 0 < 10 ^ k := Nat.pow_pos (by decide)
  exact ⟨by exact_mod_cast h2, by exact_mod_cast h1⟩
theorem sm60 {x : Int} (h0 : 0 ≤ x) (h : x ≤ 10 ^ 70) : Sm 240 x := by
  unfold Sm
  have : (10 : Int) ^ 70 < 2 ^ 240 := by decide
  omega
structure NumAr (f PA PB : Int) : Prop where
  b : 0 < PB
  t : f * PA < 1000000000000000000000000000000000000000000000000000000000000 * PB
  t2 : 0 < f * PA * 1000000000000000000000000000000000000000000000000000000000000 → PB ≤ f * PA * 1000000000000000000000000000000000000000000000000000000000000
  m1 : IntMulOk f PA
  m2 : IntMulOk 1000000000000000000000000000000000000000000000000000000000000 PB
  m3 : IntMulOk (f * PA) 1000000000000000000000000000000000000000000000000000000000000
  s : Sm 8000 PB
theorem num_ar {f e : Int} (h0 : 0 ≤ f) (h1 : f < 1000) (he1 : -57 ≤ e) (he2 : e ≤ 50) : NumAr f ((10 : Int) ^ (max 0 e).toNat) ((10 : Int) ^ (max 0 (-e)).toNat) := by
  have hA := p10 (k := (max 0 e).toNat) (n := 50) (by omega)
  have hB := p10 (k := (max 0 (-e)).toNat) (n := 57) (by omega)
  generalize (10 : Int) ^ (max 0 e).toNat = PA at *
  generalize (10 : Int) ^ (max 0 (-e)).toNat = PB at *
  have e50 : (10 : Int) ^ 50 = 100000000000000000000000000000000000000000000000000 := by decide
  have e57 : (10 : Int) ^ 57 = 1000000000000000000000000000000000000000000000000000000000 := by decide
  have e70 : (10 : Int) ^ 70 = 10000000000000000000000000000000000000000000000000000000000000000000000 := by decide
  have hT0 : 0 ≤ f * PA := Int.mul_nonneg h0 (Int.le_of_lt hA.1)
  have hT : f * PA ≤ 1000 * PA := Int.mul_le_mul_of_nonneg_right (by omega) (Int.le_of_lt hA.1)
  have hb : Sm 240 PB := sm60 (by omega) (by omega)
  have hm : Sm 240 1000000000000000000000000000000000000000000000000000000000000 := by unfold Sm; decide
  refine ⟨hB.1, ?_, fun h => ?_, Sm.ok (sm60 h0 (by omega)) (sm60 (Int.le_of_lt hA.1) (by omega)), Sm.ok hm hb, Sm.ok (sm60 hT0 (by omega)) hm, Sm.mono hb⟩
  · rw [e50] at hA
    omega
  · rw [e57] at hB
    omega
theorem sg_cases {su : List Nat} {neg : Bool} (h : (su = [] ∧ neg = false) ∨ (su = [43] ∧ neg = false) ∨ (su = [45] ∧ neg = true)) {x : Str} {post : List Nat} (e : x.cps.toList = su ++ post) (hp : offL post pm) :
    skP x 0 pm = (su.length : Int) ∧ skV x 0 pm = ⟨su.toArray⟩ ∧ ((⟨su.toArray⟩ : Str) == Str.ofString "-") = neg := by
  rcases h with ⟨rfl, rfl⟩ | ⟨rfl, rfl⟩ | ⟨rfl, rfl⟩
  · exact ⟨skP_off (pre := []) e hp, (skV_off (pre := []) e hp).trans (by decide +kernel), by decide +kernel⟩
  · exact ⟨skP_on (pre := []) (post := post) e (by rw [pm_list]; decide), skV_on (pre := []) (post := post) e (by rw [pm_list]; decide), by decide +kernel⟩
  · exact ⟨skP_on (pre := []) (post := post) e (by rw [pm_list]; decide), skV_on (pre := []) (post := post) e (by rw [pm_list]; decide), by decide +kernel⟩
theorem ct_num0 (x : Str) (tx : Tok) (su w ex : List Nat) (neg : Bool) (f ev : Int) (news : List (Addr × Obj)) (e : x.cps.toList = su ++ (w ++ ex)) (hsu : (su = [] ∧ neg = false) ∨ (su = [43] ∧ neg = false) ∨ (su = [45] ∧ neg = true)) (hw : allDg w) (hne : w ≠ []) (hlen : w.length ≤ 6) (hf : whZ (w.map fun (c : Nat) => (c : Int)) = f) (h0 : 0 ≤ f) (h1 : f < 1000) (hex : ExL ex ev) (hexl : ex.length ≤ 100) (he1 : -57 ≤ ev) (he2 : ev ≤ 50) :
    Ctr 179 8 news [.str x tx] (OkT news (loT (if neg = true then -(f * (10 : Int) ^ (max 0 ev).toNat) else f * (10 : Int) ^ (max 0 ev).toNat) ((10 : Int) ^ (max 0 (-ev)).toNat)) (loB (if neg = true then -(f * (10 : Int) ^ (max 0 ev).toNat) else f * (10 : Int) ^ (max 0 ev).toNat) ((10 : Int) ^ (max 0 (-ev)).toNat))) := by
  have hl := xlen e
  have hsl : su.length ≤ 1 := by rcases hsu with ⟨rfl, _⟩ | ⟨rfl, _⟩ | ⟨rfl, _⟩ <;> decide
  obtain ⟨a1, a2, a3⟩ := sg_cases hsu e (offL_dg hw hne pm_nd)
  have e2 : x.cps.toList = (su ++ w) ++ ex := by rw [e]; simp
  obtain ⟨b1, b2, b3⟩ := ex_at e2 hex
  have ar := num_ar h0 h1 he1 he2
  have hnil : (⟨w.toArray⟩ : Str) ++ Str.ofString "" = ⟨w.toArray⟩ := by
    have q : (Str.ofString "").cps = #[] := by decide +kernel
    have : ((⟨w.toArray⟩ : Str) ++ Str.ofString "").cps = w.toArray := by
      rw [PySem.Str.cps_append, q]; simp
    exact congrArg PySem.Str.mk this
  have hz : ((Str.ofString "").length : Int) = 0 := rfl
  have hcw : whZ (KStt.codes ((⟨w.toArray⟩ : Str) ++ Str.ofString "")) = f := by rw [hnil, codes_mk]; exact hf
  refine ct_rd_nodot x tx su.length ((su ++ w).length : Nat) ((su ++ w).length : Nat) ev _ _ _ _ _ ⟨su.toArray⟩ ⟨w.toArray⟩ (Str.ofString "") neg news ?_ (by omega) (by omega) (by omega)
    a1 a2 (dgE_at e hw (exL_off hex)) (sl_at e) ?_ rfl rfl ?_ ?_ ?_ b3 b1 b2 (by omega) (by omega) (by rw [hz, Int.sub_zero]) (by rw [hz, Int.sub_zero]) (by rw [hcw]) rfl rfl ar.t ar.t2 ?_ ar.m2 ar.m3 ar.b ar.s a3
  · rw [hl]
    simp only [List.length_append]
    omega
  · rw [Int.toNat_natCast]
    exact isOf_off e2 (exL_dot hex)
  · rw [hnil]; exact mk_ne hne
  · rw [hnil]; exact figs_mk hw
  · have : (⟨w.toArray⟩ : Str).length = w.length := rfl
    have : (Str.ofString "").length = 0 := rfl
    omega
  · rw [hcw]; exact ar.m1
theorem ct_num1 (x : Str) (tx : Tok) (su w pl ex : List Nat) (neg : Bool) (f ev : Int) (news : List (Addr × Obj)) (e : x.cps.toList = su ++ (w ++ (46 :: (pl ++ ex)))) (hsu : (su = [] ∧ neg = false) ∨ (su = [43] ∧ neg = false) ∨ (su = [45] ∧ neg = true)) (hw : allDg w) (hne : w ≠ []) (hpl : allDg pl) (hlen : w.length + pl.length ≤ 6) (hf : whZ ((w ++ pl).map fun (c : Nat) => (c : Int)) = f) (h0 : 0 ≤ f) (h1 : f < 1000) (hex : ExL ex ev) (hexl : ex.length ≤ 100) (he0 : -60 ≤ ev) (he3 : ev ≤ 60) (k : Int) (hk : ev - (pl.length : Int) = k) (he1 : -57 ≤ k) (he2 : k ≤ 50) :
    Ctr 179 8 news [.str x tx] (OkT news (loT (if neg = true then -(f * (10 : Int) ^ (max 0 k).toNat) else f * (10 : Int) ^ (max 0 k).toNat) ((10 : Int) ^ (max 0 (-k)).toNat)) (loB (if neg = true then -(f * (10 : Int) ^ (max 0 k).toNat) else f * (10 : Int) ^ (max 0 k).toNat) ((10 : Int) ^ (max 0 (-k)).toNat))) := by
  have hl := xlen e
  have hsl : su.length ≤ 1 := by rcases hsu with ⟨rfl, _⟩ | ⟨rfl, _⟩ | ⟨rfl, _⟩ <;> decide
  obtain ⟨a1, a2, a3⟩ := sg_cases hsu e (offL_dg hw hne pm_nd)
  have e2 : x.cps.toList = (su ++ w) ++ 46 :: (pl ++ ex) := by rw [e]; simp
  have e3 : x.cps.toList = (su ++ w ++ [46]) ++ (pl ++ ex) := by rw [e]; simp
  have e4 : x.cps.toList = (su ++ w ++ [46] ++ pl) ++ ex := by rw [e]; simp
  obtain ⟨b1, b2, b3⟩ := ex_at e4 hex
  have ar := num_ar h0 h1 he1 he2
  have hcat : (⟨w.toArray⟩ : Str) ++ ⟨pl.toArray⟩ = ⟨(w ++ pl).toArray⟩ := by
    have : ((⟨w.toArray⟩ : Str) ++ ⟨pl.toArray⟩).cps = (w ++ pl).toArray := by
      rw [PySem.Str.cps_append]; simp
    exact congrArg PySem.Str.mk this
  have hz : ((⟨pl.toArray⟩ : Str).length : Int) = (pl.length : Int) := rfl
  have hp2 : (((su ++ w).length : Nat) : Int) + 1 = ((su ++ w ++ [46]).length : Nat) := by simp only [List.length_append, List.length_cons, List.length_nil]; omega
  have hall : allDg (w ++ pl) := fun c hc => (List.mem_append.mp hc).elim (hw c) (hpl c)
  have hcw : whZ (KStt.codes ((⟨w.toArray⟩ : Str) ++ ⟨pl.toArray⟩)) = f := by rw [hcat, codes_mk]; exact hf
  refine ct_rd_dot x tx su.length ((su ++ w).length : Nat) ((su ++ w ++ [46] ++ pl).length : Nat) ev _ _ _ _ _ ⟨su.toArray⟩ ⟨w.toArray⟩ ⟨pl.toArray⟩ neg news ?_ (by omega) (by omega) (by omega)
    a1 a2 (dgE_at e hw (offD_cons (by decide))) (sl_at e) ?_ ?_ ?_ ?_ ?_ ?_ b3 b1 b2 (by omega) (by omega) (by rw [hz, hk]) (by rw [hz, hk]) (by rw [hcw]) rfl rfl ar.t ar.t2 ?_ ar.m2 ar.m3 ar.b ar.s a3
  · rw [hl]
    simp only [List.length_append, List.length_cons]
    omega
  · rw [Int.toNat_natCast]
    exact isOf_on e2 (by rw [dot_list]; decide)
  · rw [hp2]
    exact dgE_at e3 hpl (exL_off hex)
  · rw [hp2]
    exact sl_at e3
  · rw [hcat]; exact mk_ne (by simp [hne])
  · rw [hcat]; exact figs_mk hall
  · have : (⟨w.toArray⟩ : Str).length = w.length := rfl
    have : (⟨pl.toArray⟩ : Str).length = pl.length := rfl
    omega
  · rw [hcw]; exact ar.m1
end SL4
section SL5
def dgT (n : Nat) : List Nat := (Nat.toDigits 10 n).map Char.toNat
def DG (n p : Nat) : List Nat := List.replicate (p + 1 - (dgT n).length) 48 ++ dgT n
theorem dg_ok0 : ∀ n, n < 1000 → ((dgT n).length ≤ 3 ∧ (dgT n).all (fun c => decide (48 ≤ c ∧ c ≤ 57)) = true ∧ whZ ((dgT n).map fun (c : Nat) => (c : Int)) = n ∧ 1 ≤ (dgT n).length) := by decide +kernel
theorem whZ_zeros (k : Nat) (l : List Int) : whZ (List.replicate k 48 ++ l) = whZ l := by
  induction k with
  | zero => simp
  | succ k ih =>
    rw [List.replicate_succ, List.cons_append]
    have : whZ ((48 : Int) :: (List.replicate k 48 ++ l)) = whZ (List.replicate k 48 ++ l) := rfl
    rw [this, ih]
structure DgOk (n p : Nat) : Prop where
  lo : p + 1 ≤ (DG n p).length
  hi : (DG n p).length ≤ 6
  dg : allDg (DG n p)
  val : whZ ((DG n p).map fun (c : Nat) => (c : Int)) = n
theorem dg_ok {n p : Nat} (hn : n < 1000) (hp : p < 3) : DgOk n p := by
  obtain ⟨h1, h2, h3, h4⟩ := dg_ok0 n hn
  have h2' : allDg (dgT n) := fun c hc => by
    have := List.all_eq_true.mp h2 c hc
    exact of_decide_eq_true this
  refine ⟨?_, ?_, ?_, ?_⟩
  · unfold DG; rw [List.length_append, List.length_replicate]; omega
  · unfold DG; rw [List.length_append, List.length_replicate]; omega
  · intro c hc
    unfold DG at hc
    rcases List.mem_append.mp hc with hc | hc
    · have := (List.mem_replicate.mp hc).2
      omega
    · exact h2' c hc
  · unfold DG
    rw [List.map_append, List.map_replicate]
    exact (whZ_zeros _ _).trans h3
/-- the text of a whole number -/
def intT (k : Int) : List Nat := if k < 0 then 45 :: dgT k.natAbs else dgT k.natAbs
theorem ofs_list (s : String) : (Str.ofString s).cps.toList = s.toList.map Char.toNat := signs_ofString s
theorem int_text (k : Int) : (Str.ofString (toString k)).cps.toList = intT k := by
  cases k with
  | ofNat m =>
    have : (Str.ofString (toString ((m : Nat) : Int))).cps.toList = dgT m := KIN.signs_num m
    exact this.trans rfl
  | negSucc m =>
    rw [ofs_list]
    have e : toString (Int.negSucc m) = "-" ++ Nat.repr (m + 1) := rfl
    rw [e, String.toList_append, Nat.toList_repr, List.map_append]
    unfold intT
    rw [if_pos (Int.negSucc_lt_zero m), show List.map Char.toNat "-".toList = [45] from by decide +kernel]
    rfl
theorem ex_ok {k : Int} {c : Nat} (h1 : -55 ≤ k) (h2 : k < 51) (hc : c = 101 ∨ c = 69) : ExL (c :: intT k) k ∧ (c :: intT k).length ≤ 100 := by
  obtain ⟨a1, a2, a3, a4⟩ := dg_ok0 k.natAbs (by omega)
  have a2' : allDg (dgT k.natAbs) := fun c hc => of_decide_eq_true (List.all_eq_true.mp a2 c hc)
  have hne : dgT k.natAbs ≠ [] := fun e => by rw [e] at a4; exact absurd a4 (by decide)
  unfold intT
  by_cases h : k < 0
  · rw [if_pos h]
    refine ⟨Or.inr ⟨c, [45], dgT k.natAbs, rfl, hc, a2', hne, by omega, by rw [a3]; omega, Or.inr ⟨rfl, by rw [a3]; omega⟩⟩, by simp only [List.length_cons]; omega⟩
  · rw [if_neg h]
    refine ⟨Or.inr ⟨c, [], dgT k.natAbs, rfl, hc, a2', hne, by omega, by rw [a3]; omega, Or.inl ⟨rfl, by rw [a3]; omega⟩⟩, by simp only [List.length_cons]; omega⟩
end SL5
section SL6
theorem tw_gen (p : Nat → Bool) : ∀ (ds post : List Nat), (∀ c ∈ ds, p c = true) → (∀ c r, post = c :: r → p c = false) → (ds ++ post).takeWhile p = ds
  | [], post, _, hp => by
    cases post with
    | nil => rfl
    | cons c r =>
      rw [List.nil_append, List.takeWhile_cons, if_neg (by rw [hp c r rfl]; decide)]
  | d :: ds, post, hd, hp => by
    rw [List.cons_append, List.takeWhile_cons, if_pos (hd d (by simp))]
    rw [tw_gen p ds post (fun c hc => hd c (by simp [hc])) hp]
theorem sp32 : Unicode.isSpace 32 = true := by decide +kernel
theorem strip_mk {x : Str} {a mid b : List Nat} {c1 c2 : Nat} {m1 m2 : List Nat} (e : x.cps.toList = a ++ (mid ++ b)) (ha : ∀ c ∈ a, c = 32) (hb : ∀ c ∈ b, c = 32) (h1 : mid = c1 :: m1) (h2 : mid = m2 ++ [c2]) (s1 : Unicode.isSpace c1 = false) (s2 : Unicode.isSpace c2 = false) : Txt.strip x = ⟨mid.toArray⟩ := by
  have hl := xlen e
  have lo : stripLo Unicode.isSpace true x = a.length := by
    simp only [stripLo, if_true]
    rw [e, tw_gen _ a (mid ++ b) (fun c hc => by rw [ha c hc]; exact sp32) (fun c r h => by
      rw [h1, List.cons_append] at h
      injection h with h _
      rw [← h]; exact s1)]
  have hi : stripHi Unicode.isSpace true x a.length = a.length + mid.length := by
    simp only [stripHi, if_true]
    rw [e, List.drop_left, List.reverse_append, tw_gen _ b.reverse mid.reverse (fun c hc => by rw [hb c (List.mem_reverse.mp hc)]; exact sp32) (fun c r h => by
      rw [h2, List.reverse_append] at h
      injection h with h _
      rw [← h]; exact s2), hl]
    simp only [List.length_append, List.length_reverse]
    omega
  unfold Txt.strip
  rw [PyProof.Rows.stripBy_eq, lo, hi]
  unfold Builtin.Str.strSub
  refine congrArg PySem.Str.mk ?_
  apply Array.toList_inj.mp
  rw [Array.toList_extract, e]
  simp [List.extract]
theorem ew_last {x u : Str} {l v : List Nat} {c d : Nat} (e : x.cps.toList = l ++ [c]) (f : u.cps.toList = v ++ [d]) (h : c ≠ d) : Txt.endswith x u = false := by
  unfold Txt.endswith
  cases q : (decide (0 + u.length ≤ x.length) && Builtin.Str.subAt x u (x.length - u.length)) with
  | false => rfl
  | true =>
    rw [Bool.and_eq_true, StrLaws.subAt_eq] at q
    obtain ⟨q1, q2⟩ := q
    have q1 := of_decide_eq_true q1
    have q2 := eq_of_beq q2
    have hlx : x.cps.toList.length = x.length := by rw [Array.length_toList]; rfl
    have hlu : u.cps.toList.length = u.length := by rw [Array.length_toList]; rfl
    rw [List.take_of_length_le (by rw [List.length_drop]; omega)] at q2
    have q3 := List.take_append_drop (x.length - u.length) x.cps.toList
    rw [q2, f, ← List.append_assoc, e] at q3
    have := (List.append_inj_right' q3 rfl)
    injection this with this _
    exact absurd this.symm h
theorem ew_two {x u : Str} {l : List Nat} {c1 c2 d1 d2 : Nat} (e : x.cps.toList = l ++ [c1, c2]) (f : u.cps.toList = [d1, d2]) (h : ¬ (c1 = d1 ∧ c2 = d2)) : Txt.endswith x u = false := by
  by_cases h2 : c2 = d2
  · unfold Txt.endswith
    rw [StrLaws.subAt_eq, xlen e, xlen f, e, f]
    have : (l ++ [c1, c2]).length - [d1, d2].length = l.length := by simp
    rw [this, List.drop_left]
    have : ((List.take [d1, d2].length [c1, c2]) == [d1, d2]) = false := by
      simp only [List.length_cons, List.length_nil, List.take_succ_cons, List.take_zero]
      rw [beq_eq_false_iff_ne]
      intro k
      injection k with k1 k2
      injection k2 with k2 _
      exact h ⟨k1, k2⟩
    rw [this, Bool.and_false]
  · exact ew_last (l := l ++ [c1]) (v := [d1]) (by rw [e]; simp) f h2
theorem ew_yes {x u : Str} {l : List Nat} (e : x.cps.toList = l ++ u.cps.toList) : Txt.endswith x u = true := by
  have hlu : u.cps.toList.length = u.length := by rw [Array.length_toList]; rfl
  unfold Txt.endswith
  rw [StrLaws.subAt_eq, xlen e, e]
  have : (l ++ u.cps.toList).length - u.length = l.length := by rw [List.length_append]; omega
  rw [this, List.drop_left, ← hlu, List.take_length]
  rw [Bool.and_eq_true]
  exact ⟨decide_eq_true (by rw [List.length_append]; omega), beq_self_eq_true _⟩
theorem sl_neg {x : Str} {l : List Nat} {k : Nat} {s : List Nat} (e : x.cps.toList = l ++ s) (hk : s.length = k) (h0 : 0 < k) : Txt.slice x none (some (-(k : Int))) = ⟨l.toArray⟩ := by
  have hl := xlen e
  rw [List.length_append] at hl
  have e1 : Builtin.Str.strSliceIndices none (some (-(k : Int))) 1 x.length = Builtin.Str.strSliceIndices none (some (l.length : Int)) 1 x.length := by
    unfold Builtin.Str.strSliceIndices
    simp only [show (1 : Int) > 0 from by decide, if_true]
    rw [if_pos (by omega), if_neg (by omega)]
    congr 1
    omega
  have e2 : Txt.slice x none (some (-(k : Int))) = Txt.slice x none (some (l.length : Int)) := by
    unfold Txt.slice
    rw [e1]
  rw [e2]
  have := eq_of_beq (slice_closes_toL (x := x) (j := (l.length : Int)) (by omega) (by omega))
  rw [this, e]
  simp
end SL6
section SL7
theorem cp_px : (Str.ofString "px").cps.toList = [112, 120] := by decide +kernel
theorem cp_pt : (Str.ofString "pt").cps.toList = [112, 116] := by decide +kernel
theorem cp_pc : (Str.ofString "pc").cps.toList = [112, 99] := by decide +kernel
theorem cp_mm : (Str.ofString "mm").cps.toList = [109, 109] := by decide +kernel
theorem cp_cm : (Str.ofString "cm").cps.toList = [99, 109] := by decide +kernel
theorem cp_inn : (Str.ofString "in").cps.toList = [105, 110] := by decide +kernel
theorem cp_em : (Str.ofString "em").cps.toList = [101, 109] := by decide +kernel
theorem cp_pct : (Str.ofString "%").cps.toList = [37] := by decide +kernel

theorem g32 {G : List Nat} (hG : G = [] ∨ G = [32]) : ∀ c ∈ G, c = 32 := by
  rcases hG with rfl | rfl
  · intro c h; cases h
  · intro c h; simpa using h
theorem nsp {c : Nat} (h : 33 ≤ c) (h2 : c < 127) : Unicode.isSpace c = false := KXs.no_space c h2 h
theorem mk_list (l : List Nat) : (⟨l.toArray⟩ : Str).cps.toList = l := rfl
theorem up_none {y : Str} {T G m1 m2 : List Nat} {c1 c2 : Nat} (hG : G = [] ∨ G = [32]) (h1 : T = c1 :: m1) (h2 : T = m2 ++ [c2]) (s1 : Unicode.isSpace c1 = false) (hd : 48 ≤ c2 ∧ c2 ≤ 57) (e : y.cps.toList = G ++ (T ++ (G ++ G))) : unitL (Txt.strip y) unitsL = (⟨T.toArray⟩, Str.ofString "") := by
  have hs : Txt.strip y = ⟨T.toArray⟩ := strip_mk (b := G ++ G) e (g32 hG) (fun c hc => (List.mem_append.mp hc).elim (g32 hG c) (g32 hG c)) h1 h2 s1 (nsp (by omega) (by omega))
  rw [hs]
  have f : (⟨T.toArray⟩ : Str).cps.toList = m2 ++ [c2] := h2
  unfold unitsL
  rw [unitL_f (ew_last (v := [112]) f cp_px (by omega)), unitL_f (ew_last (v := [112]) f cp_pt (by omega)), unitL_f (ew_last (v := [112]) f cp_pc (by omega)), unitL_f (ew_last (v := [109]) f cp_mm (by omega)), unitL_f (ew_last (v := [99]) f cp_cm (by omega)), unitL_f (ew_last (v := [105]) f cp_inn (by omega)), unitL_f (ew_last (v := [101]) f cp_em (by omega)), unitL_f (ew_last (v := []) f cp_pct (by omega))]
  rfl
theorem up_px {y : Str} {T G m1 m2 : List Nat} {c1 c2 : Nat} (hG : G = [] ∨ G = [32]) (h1 : T = c1 :: m1) (h2 : T = m2 ++ [c2]) (s1 : Unicode.isSpace c1 = false) (hd : 48 ≤ c2 ∧ c2 ≤ 57) (e : y.cps.toList = G ++ (T ++ (G ++ ([112, 120] ++ G)))) : unitL (Txt.strip y) unitsL = (⟨T.toArray⟩, Str.ofString "px") := by
  have e0 : y.cps.toList = G ++ ((T ++ (G ++ [112, 120])) ++ G) := by rw [e]; simp
  have hs : Txt.strip y = ⟨(T ++ (G ++ [112, 120])).toArray⟩ := strip_mk (m1 := m1 ++ (G ++ [112, 120])) (m2 := T ++ (G ++ [112])) (c2 := 120) e0 (g32 hG) (g32 hG) (by rw [h1]; rfl) (by simp) s1 (nsp (by decide) (by decide))
  rw [hs]
  have f : (⟨(T ++ (G ++ [112, 120])).toArray⟩ : Str).cps.toList = (T ++ G) ++ [112, 120] := by rw [mk_list]; simp
  unfold unitsL
  rw [unitL_t (ew_yes (l := T ++ G) (by rw [cp_px]; exact f))]
  have hl : (Str.ofString "px").length = 2 := by rw [xlen cp_px]; rfl
  rw [hl, sl_neg (k := 2) f rfl (by decide)]
  rw [strip_mk (x := ⟨(T ++ G).toArray⟩) (a := []) (mid := T) (b := G) rfl (fun c h => by cases h) (g32 hG) h1 h2 s1 (nsp (by omega) (by omega))]
theorem up_pt {y : Str} {T G m1 m2 : List Nat} {c1 c2 : Nat} (hG : G = [] ∨ G = [32]) (h1 : T = c1 :: m1) (h2 : T = m2 ++ [c2]) (s1 : Unicode.isSpace c1 = false) (hd : 48 ≤ c2 ∧ c2 ≤ 57) (e : y.cps.toList = G ++ (T ++ (G ++ ([112, 116] ++ G)))) : unitL (Txt.strip y) unitsL = (⟨T.toArray⟩, Str.ofString "pt") := by
  have e0 : y.cps.toList = G ++ ((T ++ (G ++ [112, 116])) ++ G) := by rw [e]; simp
  have hs : Txt.strip y = ⟨(T ++ (G ++ [112, 116])).toArray⟩ := strip_mk (m1 := m1 ++ (G ++ [112, 116])) (m2 := T ++ (G ++ [112])) (c2 := 116) e0 (g32 hG) (g32 hG) (by rw [h1]; rfl) (by simp) s1 (nsp (by decide) (by decide))
  rw [hs]
  have f : (⟨(T ++ (G ++ [112, 116])).toArray⟩ : Str).cps.toList = (T ++ G) ++ [112, 116] := by rw [mk_list]; simp
  unfold unitsL
  rw [unitL_f (ew_two f cp_px (by decide)), unitL_t (ew_yes (l := T ++ G) (by rw [cp_pt]; exact f))]
  have hl : (Str.ofString "pt").length = 2 := by rw [xlen cp_pt]; rfl
  rw [hl, sl_neg (k := 2) f rfl (by decide)]
  rw [strip_mk (x := ⟨(T ++ G).toArray⟩) (a := []) (mid := T) (b := G) rfl (fun c h => by cases h) (g32 hG) h1 h2 s1 (nsp (by omega) (by omega))]
theorem up_pc {y : Str} {T G m1 m2 : List Nat} {c1 c2 : Nat} (hG : G = [] ∨ G = [32]) (h1 : T = c1 :: m1) (h2 : T = m2 ++ [c2]) (s1 : Unicode.isSpace c1 = false) (hd : 48 ≤ c2 ∧ c2 ≤ 57) (e : y.cps.toList = G ++ (T ++ (G ++ ([112, 99] ++ G)))) : unitL (Txt.strip y) unitsL = (⟨T.toArray⟩, Str.ofString "pc") := by
  have e0 : y.cps.toList = G ++ ((T ++ (G ++ [112, 99])) ++ G) := by rw [e]; simp
  have hs : Txt.strip y = ⟨(T ++ (G ++ [112, 99])).toArray⟩ := strip_mk (m1 := m1 ++ (G ++ [112, 99])) (m2 := T ++ (G ++ [112])) (c2 := 99) e0 (g32 hG) (g32 hG) (by rw [h1]; rfl) (by simp) s1 (nsp (by decide) (by decide))
  rw [hs]
  have f : (⟨(T ++ (G ++ [112, 99])).toArray⟩ : Str).cps.toList = (T ++ G) ++ [112, 99] := by rw [mk_list]; simp
  unfold unitsL
  rw [unitL_f (ew_two f cp_px (by decide)), unitL_f (ew_two f cp_pt (by decide)), unitL_t (ew_yes (l := T ++ G) (by rw [cp_pc]; exact f))]
  have hl : (Str.ofString "pc").length = 2 := by rw [xlen cp_pc]; rfl
  rw [hl, sl_neg (k := 2) f rfl (by decide)]
  rw [strip_mk (x := ⟨(T ++ G).toArray⟩) (a := []) (mid := T) (b := G) rfl (fun c h => by cases h) (g32 hG) h1 h2 s1 (nsp (by omega) (by omega))]
theorem up_mm {y : Str} {T G m1 m2 : List Nat} {c1 c2 : Nat} (hG : G = [] ∨ G = [32]) (h1 : T = c1 :: m1) (h2 : T = m2 ++ [c2]) (s1 : Unicode.isSpace c1 = false) (hd : 48 ≤ c2 ∧ c2 ≤ 57) (e : y.cps.toList = G ++ (T ++ (G ++ ([109, 109] ++ G)))) : unitL (Txt.strip y) unitsL = (⟨T.toArray⟩, Str.ofString "mm") := by
  have e0 : y.cps.toList = G ++ ((T ++ (G ++ [109, 109])) ++ G) := by rw [e]; simp
  have hs : Txt.strip y = ⟨(T ++ (G ++ [109, 109])).toArray⟩ := strip_mk (m1 := m1 ++ (G ++ [109, 109])) (m2 := T ++ (G ++ [109])) (c2 := 109) e0 (g32 hG) (g32 hG) (by rw [h1]; rfl) (by simp) s1 (nsp (by decide) (by decide))
  rw [hs]
  have f : (⟨(T ++ (G ++ [109, 109])).toArray⟩ : Str).cps.toList = (T ++ G) ++ [109, 109] := by rw [mk_list]; simp
  unfold unitsL
  rw [unitL_f (ew_two f cp_px (by decide)), unitL_f (ew_two f cp_pt (by decide)), unitL_f (ew_two f cp_pc (by decide)), unitL_t (ew_yes (l := T ++ G) (by rw [cp_mm]; exact f))]
  have hl : (Str.ofString "mm").length = 2 := by rw [xlen cp_mm]; rfl
  rw [hl, sl_neg (k := 2) f rfl (by decide)]
  rw [strip_mk (x := ⟨(T ++ G).toArray⟩) (a := []) (mid := T) (b := G) rfl (fun c h => by cases h) (g32 hG) h1 h2 s1 (nsp (by omega) (by omega))]
theorem up_cm {y : Str} {T G m1 m2 : List Nat} {c1 c2 : Nat} (hG : G = [] ∨ G = [32]) (h1 : T = c1 :: m1) (h2 : T = m2 ++ [c2]) (s1 : Unicode.isSpace c1 = false) (hd : 48 ≤ c2 ∧ c2 ≤ 57) (e : y.cps.toList = G ++ (T ++ (G ++ ([99, 109] ++ G)))) : unitL (Txt.strip y) unitsL = (⟨T.toArray⟩, Str.ofString "cm") := by
  have e0 : y.cps.toList = G ++ ((T ++ (G ++ [99, 109])) ++ G) := by rw [e]; simp
  have hs : Txt.strip y = ⟨(T ++ (G ++ [99, 109])).toArray⟩ := strip_mk (m1 := m1 ++ (G ++ [99, 109])) (m2 := T ++ (G ++ [99])) (c2 := 109) e0 (g32 hG) (g32 hG) (by rw [h1]; rfl) (by simp) s1 (nsp (by decide) (by decide))
  rw [hs]
  have f : (⟨(T ++ (G ++ [99, 109])).toArray⟩ : Str).cps.toList = (T ++ G) ++ [99, 109] := by rw [mk_list]; simp
  unfold unitsL
  rw [unitL_f (ew_two f cp_px (by decide)), unitL_f (ew_two f cp_pt (by decide)), unitL_f (ew_two f cp_pc (by decide)), unitL_f (ew_two f cp_mm (by decide)), unitL_t (ew_yes (l := T ++ G) (by rw [cp_cm]; exact f))]
  have hl : (Str.ofString "cm").length = 2 := by rw [xlen cp_cm]; rfl
  rw [hl, sl_neg (k := 2) f rfl (by decide)]
  rw [strip_mk (x := ⟨(T ++ G).toArray⟩) (a := []) (mid := T) (b := G) rfl (fun c h => by cases h) (g32 hG) h1 h2 s1 (nsp (by omega) (by omega))]
theorem up_inn {y : Str} {T G m1 m2 : List Nat} {c1 c2 : Nat} (hG : G = [] ∨ G = [32]) (h1 : T = c1 :: m1) (h2 : T = m2 ++ [c2]) (s1 : Unicode.isSpace c1 = false) (hd : 48 ≤ c2 ∧ c2 ≤ 57) (e : y.cps.toList = G ++ (T ++ (G ++ ([105, 110] ++ G)))) : unitL (Txt.strip y) unitsL = (⟨T.toArray⟩, Str.ofString "in") := by
  have e0 : y.cps.toList = G ++ ((T ++ (G ++ [105, 110])) ++ G) := by rw [e]; simp
  have hs : Txt.strip y = ⟨(T ++ (G ++ [105, 110])).toArray⟩ := strip_mk (m1 := m1 ++ (G ++ [105, 110])) (m2 := T ++ (G ++ [105])) (c2 := 110) e0 (g32 hG) (g32 hG) (by rw [h1]; rfl) (by simp) s1 (nsp (by decide) (by decide))
  rw [hs]
  have f : (⟨(T ++ (G ++ [105, 110])).toArray⟩ : Str).cps.toList = (T ++ G) ++ [105, 110] := by rw [mk_list]; simp
  unfold unitsL
  rw [unitL_f (ew_two f cp_px (by decide)), unitL_f (ew_two f cp_pt (by decide)), unitL_f (ew_two f cp_pc (by decide)), unitL_f (ew_two f cp_mm (by decide)), unitL_f (ew_two f cp_cm (by decide)), unitL_t (ew_yes (l := T ++ G) (by rw [cp_inn]; exact f))]
  have hl : (Str.ofString "in").length = 2 := by rw [xlen cp_inn]; rfl
  rw [hl, sl_neg (k := 2) f rfl (by decide)]
  rw [strip_mk (x := ⟨(T ++ G).toArray⟩) (a := []) (mid := T) (b := G) rfl (fun c h => by cases h) (g32 hG) h1 h2 s1 (nsp (by omega) (by omega))]
theorem up_em {y : Str} {T G m1 m2 : List Nat} {c1 c2 : Nat} (hG : G = [] ∨ G = [32]) (h1 : T = c1 :: m1) (h2 : T = m2 ++ [c2]) (s1 : Unicode.isSpace c1 = false) (hd : 48 ≤ c2 ∧ c2 ≤ 57) (e : y.cps.toList = G ++ (T ++ (G ++ ([101, 109] ++ G)))) : unitL (Txt.strip y) unitsL = (⟨T.toArray⟩, Str.ofString "em") := by
  have e0 : y.cps.toList = G ++ ((T ++ (G ++ [101, 109])) ++ G) := by rw [e]; simp
  have hs : Txt.strip y = ⟨(T ++ (G ++ [101, 109])).toArray⟩ := strip_mk (m1 := m1 ++ (G ++ [101, 109])) (m2 := T ++ (G ++ [101])) (c2 := 109) e0 (g32 hG) (g32 hG) (by rw [h1]; rfl) (by simp) s1 (nsp (by decide) (by decide))
  rw [hs]
  have f : (⟨(T ++ (G ++ [101, 109])).toArray⟩ : Str).cps.toList = (T ++ G) ++ [101, 109] := by rw [mk_list]; simp
  unfold unitsL
  rw [unitL_f (ew_two f cp_px (by decide)), unitL_f (ew_two f cp_pt (by decide)), unitL_f (ew_two f cp_pc (by decide)), unitL_f (ew_two f cp_mm (by decide)), unitL_f (ew_two f cp_cm (by decide)), unitL_f (ew_two f cp_inn (by decide)), unitL_t (ew_yes (l := T ++ G) (by rw [cp_em]; exact f))]
  have hl : (Str.ofString "em").length = 2 := by rw [xlen cp_em]; rfl
  rw [hl, sl_neg (k := 2) f rfl (by decide)]
  rw [strip_mk (x := ⟨(T ++ G).toArray⟩) (a := []) (mid := T) (b := G) rfl (fun c h => by cases h) (g32 hG) h1 h2 s1 (nsp (by omega) (by omega))]
theorem up_pct {y : Str} {T G m1 m2 : List Nat} {c1 c2 : Nat} (hG : G = [] ∨ G = [32]) (h1 : T = c1 :: m1) (h2 : T = m2 ++ [c2]) (s1 : Unicode.isSpace c1 = false) (hd : 48 ≤ c2 ∧ c2 ≤ 57) (e : y.cps.toList = G ++ (T ++ (G ++ ([37] ++ G)))) : unitL (Txt.strip y) unitsL = (⟨T.toArray⟩, Str.ofString "%") := by
  have e0 : y.cps.toList = G ++ ((T ++ (G ++ [37])) ++ G) := by rw [e]; simp
  have hs : Txt.strip y = ⟨(T ++ (G ++ [37])).toArray⟩ := strip_mk (m1 := m1 ++ (G ++ [37])) (m2 := T ++ (G ++ [])) (c2 := 37) e0 (g32 hG) (g32 hG) (by rw [h1]; rfl) (by simp) s1 (nsp (by decide) (by decide))
  rw [hs]
  have f : (⟨(T ++ (G ++ [37])).toArray⟩ : Str).cps.toList = (T ++ G) ++ [37] := by rw [mk_list]; simp
  unfold unitsL
  have f' : (⟨(T ++ (G ++ [37])).toArray⟩ : Str).cps.toList = (T ++ G) ++ [37] := f
  rw [unitL_f (ew_last (v := [112]) f' cp_px (by decide)), unitL_f (ew_last (v := [112]) f' cp_pt (by decide)), unitL_f (ew_last (v := [112]) f' cp_pc (by decide)), unitL_f (ew_last (v := [109]) f' cp_mm (by decide)), unitL_f (ew_last (v := [99]) f' cp_cm (by decide)), unitL_f (ew_last (v := [105]) f' cp_inn (by decide)), unitL_f (ew_last (v := [101]) f' cp_em (by decide)), unitL_t (ew_yes (l := T ++ G) (by rw [cp_pct]; exact f))]
  have hl : (Str.ofString "%").length = 1 := by rw [xlen cp_pct]; rfl
  rw [hl, sl_neg (k := 1) f rfl (by decide)]
  rw [strip_mk (x := ⟨(T ++ G).toArray⟩) (a := []) (mid := T) (b := G) rfl (fun c h => by cases h) (g32 hG) h1 h2 s1 (nsp (by omega) (by omega))]
end SL7
section SL8
/-- the figures, noughts ahead -/
def dgS (f p : Int) : Str := Txt.mul (Str.ofString "0") (if p + 1 - ((Str.ofString (toString f)).length : Int) > 0 then p + 1 - ((Str.ofString (toString f)).length : Int) else 0) ++ Str.ofString (toString f)
/-- the figures ahead of the point -/
abbrev bdS (f p : Int) : Str := Txt.slice (dgS f p) none (some (((dgS f p).length : Int) - p))
/-- the point and the figures behind it -/
def ptS (f p : Int) (d : Str) : Prop := (p > 0 ∧ d = Str.ofString "." ++ Txt.slice (dgS f p) (some (((dgS f p).length : Int) - p)) none) ∨ (¬ p > 0 ∧ d = Str.ofString "")
def sgS (u : Str) : Prop := u = Str.ofString "" ∨ u = Str.ofString "+" ∨ u = Str.ofString "-"
def exS (pw : Int) (b x : Str) : Prop := (pw = 0 ∧ x = b) ∨ ∃ e, (e = Str.ofString "e" ∨ e = Str.ofString "E") ∧ x = b ++ e ++ Str.ofString (toString pw)
theorem app_l (a b : Str) : (a ++ b).cps.toList = a.cps.toList ++ b.cps.toList := by
  rw [PySem.Str.cps_append, Array.toList_append]
theorem str_ext {a b : Str} (h : a.cps.toList = b.cps.toList) : a = b := by
  cases a; cases b
  exact congrArg PySem.Str.mk (Array.toList_inj.mp h)
theorem dgS_l {f p : Int} (h0 : 0 ≤ f) (hp : 0 ≤ p) : (dgS f p).cps.toList = DG f.toNat p.toNat := by
  obtain ⟨n, rfl⟩ := Int.eq_ofNat_of_zero_le h0
  obtain ⟨k, rfl⟩ := Int.eq_ofNat_of_zero_le hp
  have e1 : (Str.ofString (toString ((n : Nat) : Int))).cps.toList = dgT n := KIN.signs_num n
  have e2 : ((Str.ofString (toString ((n : Nat) : Int))).length : Int) = ((dgT n).length : Int) := by rw [xlen e1]
  have e3 : Str.ofString "0" = ⟨#[48]⟩ := by decide +kernel
  unfold dgS DG
  rw [app_l, e1, e2, e3, mul_one_list]
  simp only [Int.toNat_natCast]
  congr 2
  split <;> omega
theorem num_x {f p pw : Int} {u d x : Str} {neg : Bool} (h0 : 0 ≤ f) (h1 : f < 1000) (hp0 : 0 ≤ p) (hp1 : p < 3) (hw0 : -55 ≤ pw) (hw1 : pw < 51) (hu : sgS u) (hn : (u == Str.ofString "-") = neg) (hd : ptS f p d) (hx : exS pw (u ++ bdS f p ++ d) x) :
    ∃ su w mid ex, x.cps.toList = su ++ (w ++ (mid ++ ex)) ∧ ((su = [] ∧ neg = false) ∨ (su = [43] ∧ neg = false) ∨ (su = [45] ∧ neg = true)) ∧ allDg w ∧ w ≠ [] ∧ ExL ex pw ∧ ex.length ≤ 100 ∧ w.length ≤ 6 ∧
      ((p = 0 ∧ mid = [] ∧ whZ (w.map fun (c : Nat) => (c : Int)) = f) ∨ (∃ pl, mid = 46 :: pl ∧ allDg pl ∧ pl ≠ [] ∧ (pl.length : Int) = p ∧ w.length + pl.length ≤ 6 ∧ whZ ((w ++ pl).map fun (c : Nat) => (c : Int)) = f)) := by
  have hD := dgS_l h0 hp0
  have ok := dg_ok (n := f.toNat) (p := p.toNat) (by omega) (by omega)
  generalize hG : DG f.toNat p.toNat = G at *
  have okl : p.toNat + 1 ≤ G.length := by rw [← hG]; exact ok.lo
  have okh : G.length ≤ 6 := by rw [← hG]; exact ok.hi
  have okd : allDg G := by rw [← hG]; exact ok.dg
  have okv : whZ (G.map fun (c : Nat) => (c : Int)) = f := by rw [← hG, ok.val]; omega
  have hlen : (dgS f p).length = G.length := xlen hD
  have hbd : (bdS f p).cps.toList = G.take (G.length - p.toNat) := by
    have := eq_of_beq (slice_closes_toL (x := dgS f p) (j := ((dgS f p).length : Int) - p) (by omega) (by omega))
    unfold bdS
    rw [this, mk_list, hD, hlen]
    simp only [Int.toNat_zero, List.drop_zero]
    congr 1
    omega
  have hsu : ∃ su, u.cps.toList = su ∧ ((su = [] ∧ neg = false) ∨ (su = [43] ∧ neg = false) ∨ (su = [45] ∧ neg = true)) := by
    rcases hu with rfl | rfl | rfl
    · exact ⟨[], by decide +kernel, Or.inl ⟨rfl, by rw [← hn]; decide +kernel⟩⟩
    · exact ⟨[43], by decide +kernel, Or.inr (Or.inl ⟨rfl, by rw [← hn]; decide +kernel⟩)⟩
    · exact ⟨[45], by decide +kernel, Or.inr (Or.inr ⟨rfl, by rw [← hn]; decide +kernel⟩)⟩
  obtain ⟨su, hsu, hsu2⟩ := hsu
  have hex : ∃ ex, x.cps.toList = (u ++ bdS f p ++ d).cps.toList ++ ex ∧ ExL ex pw ∧ ex.length ≤ 100 := by
    rcases hx with ⟨h, rfl⟩ | ⟨e, he, rfl⟩
    · exact ⟨[], by simp, Or.inl ⟨rfl, h⟩, by decide⟩
    · have : ∃ c, e.cps.toList = [c] ∧ (c = 101 ∨ c = 69) := by
        rcases he with rfl | rfl
        · exact ⟨101, by decide +kernel, Or.inl rfl⟩
        · exact ⟨69, by decide +kernel, Or.inr rfl⟩
      obtain ⟨c, hc, hcc⟩ := this
      have := ex_ok hw0 hw1 hcc
      refine ⟨c :: intT pw, ?_, this.1, this.2⟩
      rw [app_l, app_l _ e, hc, int_text]
      simp
  obtain ⟨ex, hxl, hex1, hex2⟩ := hex
  have hwd : allDg (G.take (G.length - p.toNat)) := fun c hc => okd c (List.mem_of_mem_take hc)
  have hwl : (G.take (G.length - p.toNat)).length = G.length - p.toNat := by rw [List.length_take]; omega
  have hwn : G.take (G.length - p.toNat) ≠ [] := fun e => by
    rw [e] at hwl
    simp at hwl
    omega
  rcases hd with ⟨hp, rfl⟩ | ⟨hp, rfl⟩
  · have hpt : (Txt.slice (dgS f p) (some (((dgS f p).length : Int) - p)) none).cps.toList = G.drop (G.length - p.toNat) := by
      have := eq_of_beq (slice_closes_fromL (x := dgS f p) (i := ((dgS f p).length : Int) - p) (b := (dgS f p).length) (by omega) (by omega) rfl)
      rw [this, mk_list, hD, hlen]
      rw [show ((G.length : Int) - p).toNat = G.length - p.toNat from by omega]
      exact List.take_of_length_le (by rw [List.length_drop]; omega)
    refine ⟨su, G.take (G.length - p.toNat), 46 :: G.drop (G.length - p.toNat), ex, ?_, hsu2, hwd, hwn, hex1, hex2, by rw [hwl]; omega, Or.inr ⟨G.drop (G.length - p.toNat), rfl, fun c hc => okd c (List.mem_of_mem_drop hc), ?_, by rw [List.length_drop]; omega, by rw [hwl, List.length_drop]; omega, by rw [List.take_append_drop]; exact okv⟩⟩
    · rw [hxl, app_l, app_l, app_l, hsu, hbd, hpt, show (Str.ofString ".").cps.toList = [46] from dot_list]
      simp
    · intro e
      have := congrArg List.length e
      rw [List.length_drop] at this
      simp at this
      omega
  · have hp' : p = 0 := by omega
    subst hp'
    refine ⟨su, G.take (G.length - (0 : Int).toNat), [], ex, ?_, hsu2, hwd, hwn, hex1, hex2, by rw [hwl]; omega, Or.inl ⟨rfl, rfl, ?_⟩⟩
    · rw [hxl, app_l, app_l, hsu, hbd, show (Str.ofString "").cps.toList = [] from by decide +kernel]
      simp
    · rw [show G.length - (0 : Int).toNat = G.length from by simp, List.take_length]
      exact okv
structure NumX (x : Str) (neg : Bool) (f e : Int) : Prop where
  rd : ∀ (tx : Tok) (news : List (Addr × Obj)), Ctr 179 8 news [.str x tx] (OkT news (loT (if neg = true then -(f * (10 : Int) ^ (max 0 e).toNat) else f * (10 : Int) ^ (max 0 e).toNat) ((10 : Int) ^ (max 0 (-e)).toNat)) (loB (if neg = true then -(f * (10 : Int) ^ (max 0 e).toNat) else f * (10 : Int) ^ (max 0 e).toNat) ((10 : Int) ^ (max 0 (-e)).toNat)))
  len : x.length ≤ 200
  hd : ∃ c m, x.cps.toList = c :: m ∧ Unicode.isSpace c = false
  tl : ∃ m c, x.cps.toList = m ++ [c] ∧ (48 ≤ c ∧ c ≤ 57)
theorem last_dg {l : List Nat} (h : allDg l) (hne : l ≠ []) : ∃ m c, l = m ++ [c] ∧ (48 ≤ c ∧ c ≤ 57) :=
  ⟨l.dropLast, l.getLast hne, (List.dropLast_concat_getLast hne).symm, h _ (List.getLast_mem hne)⟩
theorem tl_ex {pre ex : List Nat} {ev : Int} (h : ExL ex ev) (hp : ∃ m c, pre = m ++ [c] ∧ (48 ≤ c ∧ c ≤ 57)) : ∃ m c, pre ++ ex = m ++ [c] ∧ (48 ≤ c ∧ c ≤ 57) := by
  rcases h with ⟨rfl, _⟩ | ⟨k, q, ds, rfl, _, hd, hne, _⟩
  · rw [List.append_nil]; exact hp
  · obtain ⟨m, c, rfl, hc⟩ := last_dg hd hne
    exact ⟨pre ++ k :: (q ++ m), c, by simp, hc⟩
theorem numX {f p pw : Int} {u d x : Str} {neg : Bool} (h0 : 0 ≤ f) (h1 : f < 1000) (hp0 : 0 ≤ p) (hp1 : p < 3) (hw0 : -55 ≤ pw) (hw1 : pw < 51) (hu : sgS u) (hn : (u == Str.ofString "-") = neg) (hd : ptS f p d) (hx : exS pw (u ++ bdS f p ++ d) x) : NumX x neg f (pw - p) := by
  obtain ⟨su, w, mid, ex, e, hsu, hw, hne, hex, hexl, hwl, hm⟩ := num_x h0 h1 hp0 hp1 hw0 hw1 hu hn hd hx
  have hl := xlen e
  have hsl : su.length ≤ 1 := by rcases hsu with ⟨rfl, _⟩ | ⟨rfl, _⟩ | ⟨rfl, _⟩ <;> decide
  have hml : mid.length ≤ 10 := by
    rcases hm with ⟨_, rfl, _⟩ | ⟨pl, rfl, _, _, _, h, _⟩
    · decide
    · rw [List.length_cons]; omega
  refine ⟨fun tx news => ?_, by rw [hl]; simp only [List.length_append]; omega, ?_, ?_⟩
  · rcases hm with ⟨rfl, rfl, hf⟩ | ⟨pl, rfl, hpl, _, hpp, hl6, hf⟩
    · rw [Int.sub_zero]
      exact ct_num0 x tx su w ex neg f pw news e hsu hw hne hwl hf h0 h1 hex hexl (by omega) (by omega)
    · exact ct_num1 x tx su w pl ex neg f pw news (by rw [e]; simp) hsu hw hne hpl hl6 hf h0 h1 hex hexl (by omega) (by omega) (pw - p) (by rw [hpp]) (by omega) (by omega)
  · rw [e]
    cases w with
    | nil => exact absurd rfl hne
    | cons c r =>
      rcases hsu with ⟨rfl, _⟩ | ⟨rfl, _⟩ | ⟨rfl, _⟩
      · have := hw c (by simp)
        exact ⟨c, _, rfl, nsp (by omega) (by omega)⟩
      · exact ⟨43, _, rfl, nsp (by decide) (by decide)⟩
      · exact ⟨45, _, rfl, nsp (by decide) (by decide)⟩
  · rw [e, show su ++ (w ++ (mid ++ ex)) = (su ++ (w ++ mid)) ++ ex from by simp]
    refine tl_ex hex ?_
    rcases hm with ⟨rfl, rfl, hf⟩ | ⟨pl, rfl, hpl, hpn, hpp, hl6, hf⟩
    · obtain ⟨m, c, rfl, hc⟩ := last_dg hw hne
      exact ⟨su ++ m, c, by simp, hc⟩
    · obtain ⟨m, c, rfl, hc⟩ := last_dg hpl hpn
      exact ⟨su ++ (w ++ 46 :: m), c, by simp, hc⟩
end SL8
section SL9
theorem loT_sm {k : Nat} {t b : Int} (hb : 0 < b) (h : Sm k t) : Sm k (loT t b) := by
  have e := loT_mul t hb
  have g := gd_pos t hb
  refine Sm.le h ?_
  have := congrArg Int.natAbs e
  rw [Int.natAbs_mul] at this
  have g1 : 1 ≤ (gd t b).natAbs := by omega
  have := Nat.mul_le_mul_left (loT t b).natAbs g1
  omega
theorem loB_sm {k : Nat} {t b : Int} (hb : 0 < b) (h : Sm k b) : Sm k (loB t b) := by
  have h1 := loB_pos t hb
  have h2 := loB_le t hb
  exact Sm.le h (by omega)
theorem lo_scale {t b n d : Int} (hb : 0 < b) (hd : 0 < d) : loT (loT t b * n) (loB t b * d) = loT (t * n) (b * d) ∧ loB (loT t b * n) (loB t b * d) = loB (t * n) (b * d) := by
  have e := lo_eq t hb
  refine lo_uniq (Int.mul_pos (loB_pos t hb) hd) (Int.mul_pos hb hd) ?_
  calc loT t b * n * (b * d) = (loT t b * b) * (n * d) := by ac_rfl
    _ = (t * loB t b) * (n * d) := by rw [e]
    _ = t * n * (loB t b * d) := by ac_rfl
/-- the law's own top and bottom -/
def topL (neg : Bool) (f e : Int) : Int := if neg = true then -(f * (10 : Int) ^ (max 0 e).toNat) else f * (10 : Int) ^ (max 0 e).toNat
def botL (e : Int) : Int := (10 : Int) ^ (max 0 (-e)).toNat
structure Big (t b f0 f1 : Int) : Prop where
  b0 : 0 < b
  st : Sm 240 t
  sb : Sm 240 b
  p0 : 0 < f0
  p1 : 0 < f1
  s0 : Sm 140 f0
  s1 : Sm 140 f1
theorem sm140 {x : Int} (h0 : 0 < x) (h : x ≤ 10 ^ 40) : Sm 140 x := by
  unfold Sm
  have : (10 : Int) ^ 40 < 2 ^ 140 := by decide
  omega
theorem big_of {neg : Bool} {f e f0 f1 : Int} (h0 : 0 ≤ f) (h1 : f < 1000) (he1 : -57 ≤ e) (he2 : e ≤ 50) (p0 : 0 < f0) (q0 : f0 ≤ 10 ^ 40) (p1 : 0 < f1) (q1 : f1 ≤ 10 ^ 40) : Big (topL neg f e) (botL e) f0 f1 := by
  have hA := p10 (k := (max 0 e).toNat) (n := 50) (by omega)
  have hB := p10 (k := (max 0 (-e)).toNat) (n := 57) (by omega)
  have e50 : (10 : Int) ^ 50 = 100000000000000000000000000000000000000000000000000 := by decide
  have e57 : (10 : Int) ^ 57 = 1000000000000000000000000000000000000000000000000000000000 := by decide
  have e70 : (10 : Int) ^ 70 = 10000000000000000000000000000000000000000000000000000000000000000000000 := by decide
  have hT0 : 0 ≤ f * (10 : Int) ^ (max 0 e).toNat := Int.mul_nonneg h0 (Int.le_of_lt hA.1)
  have hT : f * (10 : Int) ^ (max 0 e).toNat ≤ 1000 * (10 : Int) ^ (max 0 e).toNat := Int.mul_le_mul_of_nonneg_right (by omega) (Int.le_of_lt hA.1)
  refine ⟨hB.1, ?_, sm60 (Int.le_of_lt hB.1) (Int.le_trans hB.2 (by rw [e57, e70]; decide)), p0, p1, sm140 p0 q0, sm140 p1 q1⟩
  have hs : Sm 240 (f * (10 : Int) ^ (max 0 e).toNat) := sm60 hT0 (by rw [e50] at hA; omega)
  unfold topL
  split
  · unfold Sm at hs ⊢
    rw [Int.natAbs_neg]
    exact hs
  · exact hs
/-- what the law reckons for the unit u -/
def lawTB (t b f0 f1 many parts TT BB : Int) : Prop := (many = 0 ∧ TT = t * f0 ∧ BB = b * f1 * parts) ∨ (many ≠ 0 ∧ TT = t * many ∧ BB = b * parts)
theorem unit_sm {u : Str} {n d : Int} (h : unitT u n d) : (0 ≤ n ∧ n ≤ 4800) ∧ 0 < d ∧ d ≤ 127 := by
  unfold unitT at h
  rcases h with ⟨_, rfl, rfl⟩ | ⟨_, rfl, rfl⟩ | ⟨_, rfl, rfl⟩ | ⟨_, rfl, rfl⟩ | ⟨_, rfl, rfl⟩ | ⟨_, rfl, rfl⟩ | ⟨_, rfl, rfl⟩ | ⟨_, rfl, rfl⟩ | ⟨_, rfl, rfl⟩ <;> decide
theorem smn {x : Int} (h0 : 0 ≤ x) (h : x ≤ 4800) : Sm 13 x := by unfold Sm; omega
theorem bb_pos {t b f0 f1 n d TT BB : Int} {u : Str} (B : Big t b f0 f1) (hu : unitT u n d) (h : lawTB t b f0 f1 n d TT BB) : 0 < BB ∧ Sm 400 BB ∧ Sm 400 TT := by
  obtain ⟨⟨n0, n1⟩, d0, d1⟩ := unit_sm hu
  have sn := smn n0 n1
  have sd := smn (Int.le_of_lt d0) (by omega)
  rcases h with ⟨_, rfl, rfl⟩ | ⟨_, rfl, rfl⟩
  · exact ⟨Int.mul_pos (Int.mul_pos B.b0 B.p1) d0, Sm.mono (Sm.mul (Sm.mul B.sb B.s1) sd), Sm.mono (Sm.mul B.st B.s0)⟩
  · exact ⟨Int.mul_pos B.b0 d0, Sm.mono (Sm.mul B.sb sd), Sm.mono (Sm.mul B.st sn)⟩
/-- the length of the text y is the law's fraction -/
theorem ct_len (y x u : Str) (G : List Nat) (neg : Bool) (f e f0 f1 n d TT BB : Int) (X : NumX x neg f e) (B : Big (topL neg f e) (botL e) f0 f1) (hG : G = [] ∨ G = [32]) (hu : unitT u n d)
    (hy : y.cps.toList = G ++ (x.cps.toList ++ (G ++ (u.cps.toList ++ G)))) (hT : lawTB (topL neg f e) (botL e) f0 f1 n d TT BB)
    (t : Tok) (W P : Addr) (t1 t2 t3 t4 : Tok) (c1 c2 : Nat) (nw : List (Addr × Obj)) (hW : (W, tup2 f0 f1 t1 t2 c1) ∈ nw) (hP : (P, tup2 f0 f1 t3 t4 c2) ∈ nw) :
    Ctr 210 10 nw [.str y t, .ref W, .ref P] (OkT nw (loT TT BB) (loB TT BB)) := by
  obtain ⟨cc, mm, h1, s1⟩ := X.hd
  obtain ⟨m2, c2', h2, hd2⟩ := X.tl
  have hb := B.b0
  have rb : 0 < loB (topL neg f e) (botL e) := loB_pos _ hb
  have srt : Sm 240 (loT (topL neg f e) (botL e)) := loT_sm hb B.st
  have srb : Sm 240 (loB (topL neg f e) (botL e)) := loB_sm hb B.sb
  have hz : ∀ (tz : Tok) (nw : List (Addr × Obj)), Ctr 179 8 nw [.str x tz] (OkT nw (loT (topL neg f e) (botL e)) (loB (topL neg f e) (botL e))) := fun tz nw => X.rd tz nw
  have hxe : (⟨x.cps.toList.toArray⟩ : Str) = x := str_ext rfl
  have hGl : G.length ≤ 1 := by rcases hG with rfl | rfl <;> decide
  have hl := xlen hy
  have hxl : x.cps.toList.length = x.length := by rw [Array.length_toList]; rfl
  have hX := X.len
  have ful : u.cps.toList.length ≤ 2 := by
    unfold unitT at hu
    rcases hu with ⟨rfl, _⟩ | ⟨rfl, _⟩ | ⟨rfl, _⟩ | ⟨rfl, _⟩ | ⟨rfl, _⟩ | ⟨rfl, _⟩ | ⟨rfl, _⟩ | ⟨rfl, _⟩ | ⟨rfl, _⟩ <;> decide +kernel
  have hy1 : y.length ≤ 1000 := by rw [hl]; simp only [List.length_append]; omega
  have plain : ∀ n1 d1 : Int, isPl u n1 d1 → n1 = n → d1 = d → n ≠ 0 → (u == Str.ofString "%") = false → (u == Str.ofString "em") = false → unitL (Txt.strip y) unitsL = (x, u) → Ctr 210 10 nw [.str y t, .ref W, .ref P] (OkT nw (loT TT BB) (loB TT BB)) := by
    intro n1 d1 hp hn hdd hn0 hu1 hu2 hun
    subst hn
    subst hdd
    obtain ⟨⟨n0, n1'⟩, d0, d1'⟩ := unit_sm hu
    have sn := smn n0 n1'
    have sd := smn (Int.le_of_lt d0) (by omega)
    rcases hT with ⟨h, _, _⟩ | ⟨_, rfl, rfl⟩
    · exact absurd h hn0
    · have c := ct_length_pl y t x u _ _ (.ref W) (.ref P) nw hy1 hun hz n1 d1 hp (Int.mul_pos rb d0) (Sm.mono (Sm.mul srb sd)) (Sm.ok srt sn) (Sm.ok srb sd) hu1 hu2
      have e := lo_scale (t := topL neg f e) (b := botL e) (n := n1) (d := d1) hb d0
      rw [e.1, e.2] at c
      exact c
  unfold unitT at hu
  rcases hu with ⟨rfl, rfl, rfl⟩ | ⟨rfl, rfl, rfl⟩ | ⟨rfl, rfl, rfl⟩ | ⟨rfl, rfl, rfl⟩ | ⟨rfl, rfl, rfl⟩ | ⟨rfl, rfl, rfl⟩ | ⟨rfl, rfl, rfl⟩ | ⟨rfl, rfl, rfl⟩ | ⟨rfl, rfl, rfl⟩
  · exact plain 1 1 (Or.inl ⟨rfl, rfl, rfl⟩) rfl rfl (by decide) (by decide +kernel) (by decide +kernel) (by
      have := up_none hG h1 h2 s1 hd2 (y := y) (by rw [hy, show (Str.ofString "").cps.toList = [] from by decide +kernel]; rfl)
      rw [this, hxe])
  · exact plain 1 1 (Or.inr (Or.inl ⟨rfl, rfl, rfl⟩)) rfl rfl (by decide) (by decide +kernel) (by decide +kernel) (by
      have := up_px hG h1 h2 s1 hd2 (y := y) (by rw [hy, cp_px])
      rw [this, hxe])
  · exact plain 4 3 (Or.inr (Or.inr (Or.inl ⟨rfl, rfl, rfl⟩))) rfl rfl (by decide) (by decide +kernel) (by decide +kernel) (by
      have := up_pt hG h1 h2 s1 hd2 (y := y) (by rw [hy, cp_pt])
      rw [this, hxe])
  · exact plain 16 1 (Or.inr (Or.inr (Or.inr (Or.inl ⟨rfl, rfl, rfl⟩)))) rfl rfl (by decide) (by decide +kernel) (by decide +kernel) (by
      have := up_pc hG h1 h2 s1 hd2 (y := y) (by rw [hy, cp_pc])
      rw [this, hxe])
  · exact plain 480 127 (Or.inr (Or.inr (Or.inr (Or.inr (Or.inl ⟨rfl, rfl, rfl⟩))))) rfl rfl (by decide) (by decide +kernel) (by decide +kernel) (by
      have := up_mm hG h1 h2 s1 hd2 (y := y) (by rw [hy, cp_mm])
      rw [this, hxe])
  · exact plain 4800 127 (Or.inr (Or.inr (Or.inr (Or.inr (Or.inr (Or.inl ⟨rfl, rfl, rfl⟩)))))) rfl rfl (by decide) (by decide +kernel) (by decide +kernel) (by
      have := up_cm hG h1 h2 s1 hd2 (y := y) (by rw [hy, cp_cm])
      rw [this, hxe])
  · exact plain 96 1 (Or.inr (Or.inr (Or.inr (Or.inr (Or.inr (Or.inr ⟨rfl, rfl, rfl⟩)))))) rfl rfl (by decide) (by decide +kernel) (by decide +kernel) (by
      have := up_inn hG h1 h2 s1 hd2 (y := y) (by rw [hy, cp_inn])
      rw [this, hxe])
  · have hun : unitL (Txt.strip y) unitsL = (x, Str.ofString "em") := by
      have := up_em hG h1 h2 s1 hd2 (y := y) (by rw [hy, cp_em])
      rw [this, hxe]
    rcases hT with ⟨_, rfl, rfl⟩ | ⟨h, _, _⟩
    · have c := ct_length_em y t x (Str.ofString "em") _ _ W P f0 f1 f0 f1 t1 t2 t3 t4 c1 c2 nw hy1 hun hz hW hP (by decide +kernel) (by decide +kernel) (Int.mul_pos rb B.p1) (Sm.mono (Sm.mul srb B.s1)) (Sm.ok srt B.s0) (Sm.ok srb B.s1)
      have e := lo_scale (t := topL neg f e) (b := botL e) (n := f0) (d := f1) hb B.p1
      rw [e.1, e.2] at c
      rw [Int.mul_one]
      exact c
    · exact absurd rfl h
  · have hun : unitL (Txt.strip y) unitsL = (x, Str.ofString "%") := by
      have := up_pct hG h1 h2 s1 hd2 (y := y) (by rw [hy, cp_pct])
      rw [this, hxe]
    have hAB : 0 < loB (topL neg f e) (botL e) * f1 := Int.mul_pos rb B.p1
    have sAB : Sm 400 (loB (topL neg f e) (botL e) * f1) := Sm.mono (Sm.mul srb B.s1)
    have hBB : 0 < loB (loT (topL neg f e) (botL e) * f0) (loB (topL neg f e) (botL e) * f1) * 100 := Int.mul_pos (loB_pos _ hAB) (by decide)
    rcases hT with ⟨_, rfl, rfl⟩ | ⟨h, _, _⟩
    · have c := ct_length_pct y t x (Str.ofString "%") _ _ W P f0 f1 f0 f1 t1 t2 t3 t4 c1 c2 nw hy1 hun hz hW hP (by decide +kernel) hAB (Sm.mono sAB) (Sm.ok srt B.s0) (Sm.ok srb B.s1) hBB (Sm.mono (Sm.mul (loB_sm hAB sAB) (show Sm 7 100 by unfold Sm; decide)))
      have q := lo_scale (t := topL neg f e) (b := botL e) (n := f0) (d := f1) hb B.p1
      rw [q.1, q.2] at c
      have e2 := lo_scale (t := topL neg f e * f0) (b := botL e * f1) (n := 1) (d := 100) (Int.mul_pos hb B.p1) (by decide)
      rw [e2.1, e2.2, Int.mul_one] at c
      exact c
    · exact absurd rfl h
end SL9
section SL10
theorem fs_any (w : World) (r d V Z S : Addr) (sz : Value) (o : Obj) (f0 f1 : Int) (h1 h2 h3 : Int) (k1 k2 k3 g0 g1 : Tok) (c : Nat) (news : List (Addr × Obj)) (hr : (r, instObj 317 d) ∈ news) (hd : (d, lookO h1 h2 h3 k1 k2 k3 V sz S) ∈ news) (hV : (V, o) ∈ news) (hZ : (Z, tup2 f0 f1 g0 g1 c) ∈ news) (hT : TabO w V o) (hs : (sz = .none ∧ f0 = 16 ∧ f1 = 1) ∨ sz = .ref Z) :
    ∀ nw, (∀ p ∈ news, p ∈ nw) → CtrW w 246 13 nw [.ref r] (OkM f0 f1 nw) := by
  intro nw hq
  rcases hs with ⟨rfl, rfl, rfl⟩ | rfl
  · exact (ct_fs_none w r d V S o h1 h2 h3 k1 k2 k3 nw (hq _ hr) (hq _ hd) (hV := hq _ hV) hT).mono (Nat.le_refl _) (fun n y h _ => by
      obtain ⟨D, t, u, c, a, b, _⟩ := h
      exact ⟨D, t, u, c, a, b⟩) (fun n y h => by
      obtain ⟨D, t, u, c, a, b, _⟩ := h
      subst b
      intro p hp
      exact .tail _ hp)
  · have C := ct_fs_set r d V Z S f0 f1 g0 g1 c h1 h2 h3 k1 k2 k3 nw (hq _ hr) (hq _ hd) (hq _ hZ)
    intro mean mg mb dp un gd cn cs a ccd cl outer A₀ base h₀ L m s Q E B F X N T hk hdp hun ret
    refine C w mean mg mb dp un gd cn cs a ccd cl outer A₀ base h₀ L m s Q E B F X N T hk (by omega) (by omega) fun r h' tk' n' F' N' ok => ?_
    obtain ⟨e1, e2⟩ := ok
    subst e1
    subst e2
    refine ret _ h' tk' ((Z, tup2 f0 f1 g0 g1 c) :: n') F' (fun p hp => ?_) ⟨Z, g0, g1, c, rfl, rfl⟩
    rcases List.mem_cons.mp hp with rfl | hp
    · exact N' _ (hq _ hZ)
    · exact N' _ hp
theorem m50s : Sm 200 100000000000000000000000000000000000000000000000000 := by unfold Sm; decide
theorem fdiv_scale {a b g : Int} (hb : 0 < b) (hg : 0 < g) : Int.fdiv (a * g) (b * g) = Int.fdiv a b := by
  rw [Int.fdiv_eq_ediv_of_nonneg _ (Int.le_of_lt (Int.mul_pos hb hg)), Int.fdiv_eq_ediv_of_nonneg _ (Int.le_of_lt hb)]
  exact Int.mul_ediv_mul_of_pos_left a b hg
theorem round_up {A b : Int} (hb : 0 < b) : Int.fdiv (2 * A + b) (2 * b) = A.fdiv b + (if b - A.fmod b ≤ A.fmod b then 1 else 0) := by
  have e := Int.mul_fdiv_add_fmod A b
  have r0 := Int.fmod_nonneg_of_pos A hb
  have r1 := Int.fmod_lt_of_pos A hb
  generalize A.fdiv b = q at *
  generalize A.fmod b = r at *
  subst e
  rw [Int.fdiv_eq_ediv_of_nonneg _ (by omega)]
  have h2 : 2 * (b * q + r) + b = (2 * r + b) + (2 * b) * q := by
    rw [Int.mul_add, Int.mul_assoc]
    omega
  rw [h2, Int.add_mul_ediv_left _ _ (by omega)]
  split
  · have : (2 * r + b) / (2 * b) = 1 := by
      rw [Int.ediv_eq_iff_of_pos (by omega)]
      omega
    omega
  · have : (2 * r + b) / (2 * b) = 0 := Int.ediv_eq_zero_of_lt (by omega) (by omega)
    omega
theorem round_lo {a b : Int} (hb : 0 < b) : Int.fdiv (2 * loT a (b * 1) + loB a (b * 1)) (2 * loB a (b * 1)) = a.fdiv b + (if b - a.fmod b ≤ a.fmod b then 1 else 0) := by
  rw [Int.mul_one]
  have e1 := loT_mul a hb
  have e2 := loB_mul a hb
  have g := gd_pos a hb
  have hp := loB_pos a hb
  rw [← round_up hb, ← fdiv_scale (a := 2 * loT a b + loB a b) (b := 2 * loB a b) (g := gd a b) (by omega) g]
  congr 1
  · rw [Int.add_mul, Int.mul_assoc, e1, e2]
  · rw [Int.mul_assoc, e2]
theorem ge_iff {TT BB : Int} (hB : 0 < BB) : 100000000000000000000000000000000000000000000000000 ≤ TT.fdiv BB ↔ ¬ loT TT BB < 100000000000000000000000000000000000000000000000000 * loB TT BB := by
  rw [Int.fdiv_eq_ediv_of_nonneg _ (Int.le_of_lt hB), Int.le_ediv_iff_mul_le hB]
  have e1 := loT_mul TT hB
  have e2 := loB_mul TT hB
  have g := gd_pos TT hB
  constructor
  · intro h h2
    have := Int.mul_lt_mul_of_pos_right h2 g
    rw [e1, Int.mul_assoc, e2] at this
    omega
  · intro h
    have := Int.mul_le_mul_of_nonneg_right (Int.not_lt.mp h) (Int.le_of_lt g)
    rw [e1, Int.mul_assoc, e2] at this
    exact this
theorem neg_iff {TT BB : Int} (hB : 0 < BB) : loT TT BB < 0 ↔ TT < 0 := by
  have e1 := loT_mul TT hB
  have g := gd_pos TT hB
  constructor
  · intro h
    have := Int.mul_neg_of_neg_of_pos h g
    omega
  · intro h
    rcases Int.lt_or_le (loT TT BB) 0 with h2 | h2
    · exact h2
    · have := Int.mul_nonneg h2 (Int.le_of_lt g)
      omega
/-- the project's answer and the law's are one: a text, or a fraction -/
theorem own_due (w : World) (y : Str) (tx : Tok) (r d V Z S : Addr) (sz : Value) (o : Obj) (f0 f1 TT BB : Int) (h1 h2 h3 : Int) (k1 k2 k3 g0 g1 : Tok) (c : Nat) (news : List (Addr × Obj)) (hr : (r, instObj 317 d) ∈ news) (hd : (d, lookO h1 h2 h3 k1 k2 k3 V sz S) ∈ news) (hV : (V, o) ∈ news) (hZ : (Z, tup2 f0 f1 g0 g1 c) ∈ news) (hT : TabO w V o) (hs : (sz = .none ∧ f0 = 16 ∧ f1 = 1) ∨ sz = .ref Z) (hl : ∀ (t : Tok) (W P : Addr) (t1 t2 t3 t4 : Tok) (c1 c2 : Nat) (nw : List (Addr × Obj)), (W, tup2 f0 f1 t1 t2 c1) ∈ nw → (P, tup2 f0 f1 t3 t4 c2) ∈ nw → Ctr 210 10 nw [.str y t, .ref W, .ref P] (OkT nw (loT TT BB) (loB TT BB)))
   (hB : 0 < BB) (sB : Sm 400 BB) (sT : Sm 400 TT) :
    (∃ msg, msg.length ≤ 100 ∧ CtrS w 370 20 news [.str y tx, .ref r] (fun n v => n = news ∧ ∃ t, v = .str msg t) ∧ ∀ (t1 t2 : Tok) (nw : List (Addr × Obj)), Ctr 377 6 nw [.int TT t1, .int BB t2] (fun n v => n = nw ∧ ∃ t, v = .str msg t)) ∨
    (∃ a b, CtrW w 370 18 news [.str y tx, .ref r] (OkT news a b) ∧ ∀ (t1 t2 : Tok) (nw : List (Addr × Obj)), Ctr 377 6 nw [.int TT t1, .int BB t2] (OkT nw a b)) := by
  have hfs := fs_any w r d V Z S sz o f0 f1 h1 h2 h3 k1 k2 k3 g0 g1 c news hr hd hV hZ hT hs
  have hfs' : ∀ nw : List (Addr × Obj), (∀ p ∈ news, p ∈ nw) → ∀ nw' : List (Addr × Obj), (∀ p ∈ nw, p ∈ nw') → CtrW w 246 13 nw' [.ref r] (OkM f0 f1 nw') := fun nw hq nw' hq' => hfs nw' fun p hp => hq' p (hq p hp)
  have hb := loB_pos TT hB
  have sb := loB_sm hB sB (t := TT)
  have sa := loT_sm hB sT
  have s8 : Sm 8000 BB := Sm.mono sB
  have m0 : IntMulOk (loT TT BB) 1 := Sm.ok sa sm1
  have m1 : IntMulOk 0 (loB TT BB) := Sm.ok (show Sm 1 0 by unfold Sm; decide) sb
  have m2 : IntMulOk 100000000000000000000000000000000000000000000000000 (loB TT BB) := Sm.ok m50s sb
  by_cases hneg : TT < 0
  · have ha := (neg_iff hB).mpr hneg
    have hlt : loT TT BB < 100000000000000000000000000000000000000000000000000 * loB TT BB := by
      have : 0 < 100000000000000000000000000000000000000000000000000 * loB TT BB := Int.mul_pos (by decide) hb
      omega
    refine Or.inl ⟨Str.ofString "a size of letters below nought", by decide +kernel, ct_answer_bad w y tx r news _ fun t nw hq => ?_, fun t1 t2 nw => ct_due_neg TT BB t1 t2 nw hB s8 hneg⟩
    exact ct_own_neg w y t r d V S sz f0 f1 (loT TT BB) (loB TT BB) h1 h2 h3 k1 k2 k3 nw (hq _ hr) (hq _ hd) (hfs' nw hq) hl ha hb m0 m1 m2 hlt
  have h0 : 0 ≤ TT := Int.not_lt.mp hneg
  have ha : 0 ≤ loT TT BB := loT_nn h0 hB
  by_cases hgr : 100000000000000000000000000000000000000000000000000 ≤ TT.fdiv BB
  · refine Or.inl ⟨Str.ofString "a size of letters that is too great", by decide +kernel, ct_answer_bad w y tx r news _ fun t nw hq => ?_, fun t1 t2 nw => ct_due_great TT BB t1 t2 nw hB s8 h0 hgr⟩
    exact ct_own_great w y t r d V S sz f0 f1 (loT TT BB) (loB TT BB) h1 h2 h3 k1 k2 k3 nw (hq _ hr) (hq _ hd) (hfs' nw hq) hl ha hb m0 m1 m2 ((ge_iff hB).mp hgr)
  have hlt : loT TT BB < 100000000000000000000000000000000000000000000000000 * loB TT BB := by
    have := mt (ge_iff hB).mpr hgr
    omega
  have hgr' : TT.fdiv BB < 100000000000000000000000000000000000000000000000000 := Int.not_le.mp hgr
  by_cases hsm : loB TT BB ≤ 100000000000000000000000000000000000000000000000000
  · refine Or.inr ⟨_, _, ct_answer_ok w y tx r _ _ news fun t nw hq => ?_, fun t1 t2 nw => ct_due_small TT BB t1 t2 nw hB s8 h0 hgr' hsm⟩
    exact ct_own_small w y t r d V S sz f0 f1 (loT TT BB) (loB TT BB) h1 h2 h3 k1 k2 k3 nw (hq _ hr) (hq _ hd) (hfs' nw hq) hl ha hb m0 m1 m2 hlt hsm
  · have e := round_lo (a := loT TT BB * 100000000000000000000000000000000000000000000000000) hb
    have sm : Sm 8000 100000000000000000000000000000000000000000000000000 := Sm.mono m50s
    have hb1 : 0 < loB TT BB * 1 := by omega
    have sb1 : Sm 400 (loB TT BB * 1) := by rw [Int.mul_one]; exact sb
    have dd := fun (t1 t2 : Tok) (nw : List (Addr × Obj)) => ct_due_big TT BB t1 t2 nw hB s8 h0 hgr' (loT TT BB) (loB TT BB) _ _ rfl rfl (Int.not_le.mp hsm) rfl rfl (Sm.ok sa m50s) (Sm.mono sb) sm
    rw [← e] at dd
    refine Or.inr ⟨_, _, ct_answer_ok w y tx r _ _ news fun t nw hq => ?_, dd⟩
    exact ct_own_big w y t r d V S sz f0 f1 (loT TT BB) (loB TT BB) h1 h2 h3 k1 k2 k3 nw (hq _ hr) (hq _ hd) (hfs' nw hq) hl ha hb m0 m1 m2 hlt hsm (Sm.ok sa m50s) (Sm.ok sb sm1) (Sm.mono sb) _ _ rfl rfl (by
      have := loB_pos (loT TT BB * 100000000000000000000000000000000000000000000000000) hb1
      omega) (Sm.mono (Sm.mul (show Sm 2 2 by unfold Sm; decide) (loB_sm hb1 sb1)))
end SL10
section SB28
theorem fg2 {y : Value} {a b : Int} {t u : Tok} (h1 : 0 ≤ a) (h2 : a < 10) (h3 : 0 ≤ b) (h4 : b < 1000) (q : y ∈ [Value.int a t, .int b u]) : ∃ f k, y = .int f k ∧ 0 ≤ f ∧ f < 1000 := by
  simp only [List.mem_cons, List.not_mem_nil, or_false] at q
  rcases q with q | q
  · exact ⟨_, _, q, by omega, by omega⟩
  · exact ⟨_, _, q, by omega, by omega⟩
theorem pw5 {y : Value} {p g h : Int} {t1 t2 t3 t4 t5 : Tok} (h1 : 0 ≤ p) (h2 : p < 106) (h3 : 0 ≤ g) (h4 : g < 4) (h5 : 0 ≤ h) (h6 : h < 4) (q : y ∈ [Value.int 0 t1, .int 0 t2, .int (p - 55) t3, .int (0 - 49 - g) t4, .int (47 + h) t5]) : ∃ f k, y = .int f k ∧ -55 ≤ f ∧ f < 51 := by
  simp only [List.mem_cons, List.not_mem_nil, or_false] at q
  rcases q with q | q | q | q | q <;> exact ⟨_, _, q, by omega, by omega⟩
theorem sg5 {y : Value} {t1 t2 t3 t4 t5 : Tok} (q : y ∈ [Value.str (Str.ofString "") t1, .str (Str.ofString "") t2, .str (Str.ofString "") t3, .str (Str.ofString "+") t4, .str (Str.ofString "-") t5]) : ∃ f k, y = .str f k ∧ (f = Str.ofString "" ∨ f = Str.ofString "+" ∨ f = Str.ofString "-") := by
  simp only [List.mem_cons, List.not_mem_nil, or_false] at q
  rcases q with q | q | q | q | q <;> exact ⟨_, _, q, by simp⟩
theorem eE2 {y : Value} {t1 t2 : Tok} (q : y ∈ [Value.str (Str.ofString "e") t1, .str (Str.ofString "E") t2]) : ∃ f k, y = .str f k ∧ (f = Str.ofString "e" ∨ f = Str.ofString "E") := by
  simp only [List.mem_cons, List.not_mem_nil, or_false] at q
  rcases q with q | q <;> exact ⟨_, _, q, by simp⟩

theorem dg_len {f p : Int} (h1 : 0 ≤ f) (h2 : f < 1000) (h3 : 0 ≤ p) (h4 : p < 3) : (dgS f p).length ≤ 6 := by
  have a := toString_length_le h1 (show 0 < 3 by decide) (show f < 10 ^ 3 from h2)
  refine Nat.le_trans (KT.len_app (A := 3) (B := 3) ?_ a) (by decide)
  refine Nat.le_trans (len_mul_leN (L := 1) (N := 3) (by decide) ?_) (by decide)
  split <;> omega
theorem sl_len {f p : Int} {a b : Option Int} (h1 : 0 ≤ f) (h2 : f < 1000) (h3 : 0 ≤ p) (h4 : p < 3) : (Txt.slice (dgS f p) a b).length ≤ 6 := Nat.le_trans (PyProof.Txt.length_slice_le _ _ _) (dg_len h1 h2 h3 h4)
theorem pt_len {f p : Int} {d : Str} (h : ptS f p d) (h1 : 0 ≤ f) (h2 : f < 1000) (h3 : 0 ≤ p) (h4 : p < 3) : d.length ≤ 7 := by
  rcases h with ⟨_, rfl⟩ | ⟨_, rfl⟩
  · exact KT.len_app (A := 1) (B := 6) (by decide) (sl_len h1 h2 h3 h4)
  · decide
theorem un_len {u : Str} (h : u = Str.ofString "" ∨ u = Str.ofString "+" ∨ u = Str.ofString "-") : u.length ≤ 1 := by
  rcases h with rfl | rfl | rfl <;> decide
theorem ee_len {u : Str} (h : u = Str.ofString "e" ∨ u = Str.ofString "E") : u.length ≤ 1 := by
  rcases h with rfl | rfl <;> decide
theorem pw_len {f : Int} (h1 : -55 ≤ f) (h2 : f < 51) : (Str.ofString (toString f)).length ≤ 60 := by
  have := len_str_of_int f
  omega
theorem add_k {prog : Program} {w : World} {A : Around} {E : Value → Shared → Prop} {s : Shared} {x y : Str} {t u : Tok} {Q : Value → Shared → Prop} {B C : Nat} (hx : x.length ≤ B) (hy : y.length ≤ C) (hs : B + C ≤ 10000) (h : ∀ t' tk, Q (.str (x ++ y) t') { s with toks := tk }) : wpAny (model prog w) A (binaryOp .Add (.str x t) (.str y u)) Q E s :=
  add_str h (by unfold sizeLine; omega)
theorem pwA {f p : Int} (h1 : -55 ≤ f) (h2 : f < 51) (h3 : 0 ≤ p) (h4 : p < 3) : 0 ≤ (if f - p > 0 then f - p else 0) ∧ (if f - p > 0 then f - p else 0) ≤ 1000000 := by
  split <;> omega
theorem pwB {f p : Int} (h1 : -55 ≤ f) (h2 : f < 51) (h3 : 0 ≤ p) (h4 : p < 3) : 0 ≤ (if 0 - (f - p) > 0 then 0 - (f - p) else 0) ∧ (if 0 - (f - p) > 0 then 0 - (f - p) else 0) ≤ 1000000 := by
  split <;> omega
theorem fmO {f x : Int} (h1 : 0 ≤ f) (h2 : f < 1000) : IntMulOk f x := IntMulOk.of_left (intBits_le_64 (by omega) (by omega))
theorem fmP {f x : Int} (h1 : 0 ≤ f) (h2 : f < 1000) : IntMulOk (f * 1) x := IntMulOk.of_left (intBits_le_64 (by omega) (by omega))
theorem fmN {f x : Int} (h1 : 0 ≤ f) (h2 : f < 1000) : IntMulOk (f * -1) x := IntMulOk.of_left (intBits_le_64 (by omega) (by omega))

structure JStr (h₀ : Heap) (L : Addr) (m : Str → Option Value) (news : List (Addr × Obj)) (P : Str → Prop) (s : Shared) (v : Value) (s' : Shared) : Prop where
  out : ∃ x t h tk, v = .str x t ∧ s' = { s with heap := h, toks := tk } ∧ Fr h₀ L h m ∧ News h₀ L h news ∧ P x
structure JInt (h₀ : Heap) (L : Addr) (m : Str → Option Value) (news : List (Addr × Obj)) (P : Int → Prop) (s : Shared) (v : Value) (s' : Shared) : Prop where
  out : ∃ x t h tk, v = .int x t ∧ s' = { s with heap := h, toks := tk } ∧ Fr h₀ L h m ∧ News h₀ L h news ∧ P x
theorem join_pt {M : Model} {A : Around} {E : Value → Shared → Prop} {s : Shared} {tr : Sem Value} {Q : Value → Shared → Prop} {h₀ : Heap} {L : Addr} {m : Str → Option Value} {news : List (Addr × Obj)} {f p : Int} (_hf : f < 1000) (_hp : p < 3) (_F : Fr h₀ L s.heap m) (_N : News h₀ L s.heap news) (h1 : wpAny M A tr (fun v s' => JStr h₀ L m news (ptS f p) s v s') E s)
    (h2 : ∀ x t h tk, Fr h₀ L h m → News h₀ L h news → (ptS f p) x → Q (.str x t) { s with heap := h, toks := tk }) : wpAny M A tr Q E s :=
  wpAny_mono h1 (fun v s' h => by obtain ⟨x, t, g, tk, rfl, rfl, hF, hN, hp⟩ := h.out; exact h2 x t g tk hF hN hp) fun _ _ h => h
def negK (neg : Bool) (k : Int) : Prop := (neg = true ∧ k = -1) ∨ (neg = false ∧ k = 1)
theorem join_neg {M : Model} {A : Around} {E : Value → Shared → Prop} {s : Shared} {tr : Sem Value} {Q : Value → Shared → Prop} {h₀ : Heap} {L : Addr} {m : Str → Option Value} {news : List (Addr × Obj)} {u : Str} {neg : Bool} (_hn : (u == Str.ofString "-") = neg) (_F : Fr h₀ L s.heap m) (_N : News h₀ L s.heap news) (h1 : wpAny M A tr (fun v s' => JInt h₀ L m news (negK neg) s v s') E s)
    (h2 : ∀ x t h tk, Fr h₀ L h m → News h₀ L h news → (negK neg) x → Q (.int x t) { s with heap := h, toks := tk }) : wpAny M A tr Q E s :=
  wpAny_mono h1 (fun v s' h => by obtain ⟨x, t, g, tk, rfl, rfl, hF, hN, hp⟩ := h.out; exact h2 x t g tk hF hN hp) fun _ _ h => h
structure JText (h₀ : Heap) (L S : Addr) (m : Str → Option Value) (rest : List (Addr × Obj)) (pw : Int) (x0 : Str) (s : Shared) (f : Flow) (s' : Shared) : Prop where
  out : ∃ x t h tk v0 v1 t0 t1 c, f = .next ∧ s' = { s with heap := h, toks := tk } ∧ Fr h₀ L h (fun y => if y = Str.ofString "text" then some (.str x t) else m y) ∧
    News h₀ L h ((S, lst2 v0 v1 t0 t1 c) :: rest) ∧ exS pw x0 x ∧ 0 ≤ v0 ∧ 0 ≤ v1 ∧ v1 < 2147483647
theorem join_text {M : Model} {A : Around} {E : Value → Shared → Prop} {s : Shared} {tr : Sem Flow} {Q : Flow → Shared → Prop} {h₀ : Heap} {L S : Addr} {m : Str → Option Value} {rest : List (Addr × Obj)} {ol : Obj} {pw : Int} {x0 : Str} {tb : Tok}
    (_hp : -55 ≤ pw) (_F : Fr h₀ L s.heap m) (_N : News h₀ L s.heap ((S, ol) :: rest)) (_hm : m (Str.ofString "text") = some (.str x0 tb)) (h1 : wpAny M A tr (fun f s' => JText h₀ L S m rest pw x0 s f s') E s)
    (h2 : ∀ x t h tk v0 v1 t0 t1 c, Fr h₀ L h (fun y => if y = Str.ofString "text" then some (.str x t) else m y) → News h₀ L h ((S, lst2 v0 v1 t0 t1 c) :: rest) → exS pw x0 x → 0 ≤ v0 → 0 ≤ v1 → v1 < 2147483647 →
      Q .next { s with heap := h, toks := tk }) : wpAny M A tr Q E s :=
  wpAny_mono h1 (fun f s' h => by obtain ⟨x, t, h', tk, v0, v1, t0, t1, c, rfl, rfl, a, b, d, e, g, i⟩ := h.out; exact h2 x t h' tk v0 v1 t0 t1 c a b d e g i) fun _ _ h => h
theorem fr_same {h₀ h : Heap} {L : Addr} {m : Str → Option Value} {x : Str} {v : Value} (F : Fr h₀ L h m) (e : m x = some v) : Fr h₀ L h (fun y => if y = x then some v else m y) := by
  have q : (fun y => if y = x then some v else m y) = m := by
    funext y
    by_cases hy : y = x
    · rw [if_pos hy, hy, e]
    · rw [if_neg hy]
  rw [q]; exact F
theorem fmK {f k x : Int} {neg : Bool} (h1 : 0 ≤ f) (h2 : f < 1000) (hk : negK neg k) : IntMulOk (f * k) x := by
  rcases hk with ⟨_, rfl⟩ | ⟨_, rfl⟩
  · exact fmN h1 h2
  · exact fmP h1 h2

def OkNum (S : Addr) (rest n : List (Addr × Obj)) (y : Value) : Prop :=
  ∃ v0 v1 t0 t1 c D x top bot k0 k1 k2 d neg f e, n = (S, lst2 v0 v1 t0 t1 c) :: (D, tup3 x top bot k0 k1 k2 d) :: rest ∧ y = .ref D ∧ top = topL neg f e ∧ bot = botL e ∧ NumX x neg f e ∧ 0 ≤ f ∧ f < 1000 ∧ -57 ≤ e ∧ e ≤ 50 ∧ 0 ≤ v0 ∧ 0 ≤ v1 ∧ v1 < 2147483647
theorem top_is {neg : Bool} {f p pw top : Int} (h : (neg = true ∧ top = f * -1 * 10 ^ (if pw - p > 0 then pw - p else 0).toNat) ∨ (neg = false ∧ top = f * 1 * 10 ^ (if pw - p > 0 then pw - p else 0).toNat)) : top = topL neg f (pw - p) := by
  unfold topL
  rw [max_is]
  rcases h with ⟨rfl, rfl⟩ | ⟨rfl, rfl⟩
  · rw [if_pos rfl, Int.mul_neg, Int.mul_one, Int.neg_mul]
  · rw [if_neg (show ¬ (false = true) by decide), Int.mul_one]
theorem top_k {neg : Bool} {f r top : Int} (h : ∃ k, negK neg k ∧ top = f * k * r) : (neg = true ∧ top = f * -1 * r) ∨ (neg = false ∧ top = f * 1 * r) := by
  obtain ⟨k, ⟨h, rfl⟩ | ⟨h, rfl⟩, e⟩ := h
  · exact Or.inl ⟨h, e⟩
  · exact Or.inr ⟨h, e⟩
theorem bot_is (e : Int) : 10 ^ (if 0 - e > 0 then 0 - e else 0).toNat = botL e := by
  unfold botL
  rw [max_is, Int.zero_sub]
theorem number_end {S D : Addr} {x u dd : Str} {top bot f p pw : Int} {neg : Bool} {v0 v1 : Int} {t0 t1 : Tok} {c d : Nat} {k0 k1 k2 : Tok} {h₀ h' : Heap} {L : Addr} {m : Str → Option Value} {rest news' : List (Addr × Obj)} {s : Shared} {Q : Value → Shared → Prop} {tk' : Nat}
    (hret : ∀ r h' tk' news', Fr h₀ L h' m → News h₀ L h' news' → OkNum S rest news' r → Q r { s with heap := h', toks := tk' })
    (hn : (u == Str.ofString "-") = neg) (F : Fr h₀ L h' m) (N : News h₀ L h' news') (e2 : (D, tup3 x top bot k0 k1 k2 d) ∈ news') (e1 : (S, lst2 v0 v1 t0 t1 c) ∈ news') (hs : ∀ p ∈ rest, p ∈ news')
    (ht : ∃ k, negK neg k ∧ top = f * k * 10 ^ (if pw - p > 0 then pw - p else 0).toNat)
    (hb : bot = 10 ^ (if 0 - (pw - p) > 0 then 0 - (pw - p) else 0).toNat)
    (hx : exS pw (u ++ bdS f p ++ dd) x) (hd : ptS f p dd) (hu : u = Str.ofString "" ∨ u = Str.ofString "+" ∨ u = Str.ofString "-")
    (f0 : 0 ≤ f) (f1 : f < 1000) (p0 : 0 ≤ p) (p1 : p < 3) (w0 : -55 ≤ pw) (w1 : pw < 51) (b3 : 0 ≤ v0) (b4 : 0 ≤ v1) (b5 : v1 < 2147483647) : Q (.ref D) { s with heap := h', toks := tk' } := by
  refine hret _ _ _ ((S, lst2 v0 v1 t0 t1 c) :: (D, tup3 x top bot k0 k1 k2 d) :: rest) F (fun p hp => ?_) ⟨_, _, _, _, _, _, _, _, _, _, _, _, _, neg, f, pw - p, rfl, rfl, top_is (top_k ht), hb.trans (bot_is _), numX f0 f1 p0 p1 w0 w1 hu hn hd hx, f0, f1, by omega, by omega, b3, b4, b5⟩
  rcases List.mem_cons.mp hp with rfl | hp
  · exact N _ e1
  rcases List.mem_cons.mp hp with rfl | hp
  · exact N _ e2
  · exact N _ (hs p hp)
theorem ct_number (S : Addr) (v0 v1 : Int) (t0 t1 : Tok) (c : Nat) (rest : List (Addr × Obj)) (hr : ∀ p ∈ rest, p.1 ≠ S) (h0 : 0 ≤ v0) (h1 : 0 ≤ v1) (h2 : v1 < 2147483647) :
    Ctr 384 6 ((S, lst2 v0 v1 t0 t1 c) :: rest) [.ref S] (OkNum S rest) := by
  (k_with_none; (k_with "binaryOp FloorDiv int int" => (refine floordiv_int (by first | assumption | omega) ?_ (Or.inl (dv_of_sm (by assumption))))); refine mark_use ?_; k_fill; intro _; unfold Ctr; intro w_q mean_q mg_q mb_q dp_q un_q gd_q cn_q cs_q a_q ccd_q cl_q outer_q A_q base_q h_q L_q m_q s_q Q_q E_q B_q F_q X_q N T_q hk_q hdp_q hun_q hret; refine wpAny_call ?_; k_dflt (refine' code_def ?k1 ?k2 ?k3 ?k4 ?k5 ?kA ?kF ?kK ?k6 ?k7 ?k8 ?k9 ?kB ?_ ?c2 ?c3 ?c4 ?c5; (case kA => exact rfl); (case kF => exact rfl); (case kK => assumption); (case k1 => k_asm); (case k2 => k_asm); (case k3 => k_asm); (case k4 => k_asm); (case k5 => k_asm); (case k6 => k_is); (case k7 => k_is); (case k8 => ktr_room); (case k9 => first | exact BindsTo.of_eq rfl | exact binds_K (by k_in) rfl (by k_is) rfl rfl rfl); (case c5 => decide); (case kB => exact locs rfl); (case c2 => exact rfl); (case c3 => exact rfl); (case c4 => exact rfl); k_whole; intro g_r L_r h_r FG_r F_r N_r B_r X_r T_r; (try dsimp only); (try k_lift B_r); (try k_fold)))
  refine let_AX (P := fun A1 => wpAny _ A1 _ _ _ _) ?_
  intro A1
  k_with "call ref" => (k_here; (with_reducible show wpAny _ _ (call (Value.ref 349) _) _ _ _); (k_dflt (refine' Ctr.use (ct_take _ _ _ _ _ _ _ _ rest _ hr ?h0 ?h1 ?h2 (by decide) (by decide) ?hS ?hk) ?k1 ?k2 ?k3 ?k4 ?k5 ?kK ?kd ?ku ?_; (case k1 => k_asm); (case k2 => k_asm); (case k3 => k_asm); (case k4 => first | k_asm | exact cb_drop (by assumption) (by kcj_all)); (case k5 => k_asm); (case kK => first | exact rfl | assumption); (case kd => ktr_room); (case ku => ktr_units); (case hS => k_mem); (case h0 => assumption); (case h1 => assumption); (case h2 => assumption); (case hk => (intro p hp; repeat (first | exact hp | refine List.Mem.tail _ ?_))); k_whole)); intro r9 h9 tk9 n9 F9 N9 ho9; (obtain ⟨r9, v8, v9, t9, t8, t7, c9, e9, q9, b1, b2, b3, b4, b5⟩ := ho9); subst e9; subst q9; (try dsimp only); (try k_sweep); (try k_fold))
  k_with "call ref" => (k_here; (with_reducible show wpAny _ _ (call (Value.ref 356) _) _ _ _); (k_dflt (refine' Ctr.use (ct_one2 _ _ _ _ _ _ _ _ _ _ rest _ ?hr ?hps ?h0 ?h1 ?h2 ?hS ?hP ?hk) ?k1 ?k2 ?k3 ?k4 ?k5 ?kK ?kd ?ku ?_; (case k1 => k_asm); (case k2 => k_asm); (case k3 => k_asm); (case k4 => first | k_asm | exact cb_drop (by assumption) (by kcj_all)); (case k5 => k_asm); (case kK => first | exact rfl | assumption); (case kd => ktr_room); (case ku => ktr_units); (case hS => k_mem); (case hP => k_mem); (case hk => (intro p hp; repeat (first | exact hp | refine List.Mem.tail _ ?_))); (case hr => exact hr); (case hps => exact (Nat.ne_of_gt (by omega))); (case h0 => assumption); (case h1 => assumption); (case h2 => assumption); k_whole)); intro r9 h9 tk9 n9 F9 N9 ho9; (obtain ⟨v8, v9, t8, t7, c9, e9, q9, b3, b4, b5⟩ := ho9); subst e9; (first | (obtain ⟨f9, tf9, e8, hf1, hf2⟩ := fg2 (by assumption) (by assumption) (by assumption) (by assumption) q9) | (obtain ⟨f9, tf9, e8, hf1⟩ := eE2 q9)); clear q9; subst e8; (try dsimp only); (try dsimp only); (try k_sweep); (try k_fold))
  k_with "call ref" => (k_here; (with_reducible show wpAny _ _ (call (Value.ref 356) _) _ _ _); (k_dflt (refine' Ctr.use (ct_one5 _ _ _ _ _ _ _ _ _ _ _ _ _ rest _ ?hr ?hps ?h0 ?h1 ?h2 ?hS ?hP ?hk) ?k1 ?k2 ?k3 ?k4 ?k5 ?kK ?kd ?ku ?_; (case k1 => k_asm); (case k2 => k_asm); (case k3 => k_asm); (case k4 => first | k_asm | exact cb_drop (by assumption) (by kcj_all)); (case k5 => k_asm); (case kK => first | exact rfl | assumption); (case kd => ktr_room); (case ku => ktr_units); (case hS => k_mem); (case hP => k_mem); (case hk => (intro p hp; repeat (first | exact hp | refine List.Mem.tail _ ?_))); (case hr => exact hr); (case hps => exact (Nat.ne_of_gt (by omega))); (case h0 => assumption); (case h1 => assumption); (case h2 => assumption); k_whole)); intro r9 h9 tk9 n9 F9 N9 ho9; (obtain ⟨v8, v9, t8, t7, c9, e9, q9, b3, b4, b5⟩ := ho9); subst e9; (first | (obtain ⟨f9, tf9, e8, hf1, hf2⟩ := pw5 (by assumption) (by assumption) (by assumption) (by assumption) (by assumption) (by assumption) q9) | (obtain ⟨f9, tf9, e8, hf1⟩ := sg5 q9; obtain ⟨neg9, hneg9⟩ : ∃ b, (f9 == Str.ofString "-") = b := ⟨_, rfl⟩)); clear q9; subst e8; (try dsimp only); (try dsimp only); (try k_sweep); (try k_fold))
  k_with "binaryOp Add str str" => (k_here; (refine' add_k ?ka ?kb ?kc ?_; (case ka => (first | ((with_reducible refine' KT.len_app ?la4 ?lb4); (case la4 => (first | ((with_reducible refine' KT.len_app ?la3 ?lb3); (case la3 => (first | ((with_reducible refine' KT.len_app ?la2 ?lb2); (case la2 => (first | ((with_reducible refine' KT.len_app ?la1 ?lb1); (case la1 => (first | ((with_reducible show (Str.length (Txt.slice _ _ _)) ≤ _); exact sl_len (by assumption) (by assumption) (by assumption) (by assumption)) | ((with_reducible show (Str.length (Str.ofString (toString _))) ≤ _); exact pw_len (by assumption) (by assumption)) | ((with_reducible show (Str.length (Str.ofString _)) ≤ _); exact Nat.le_refl _) | (with_reducible exact pt_len (by assumption) (by assumption) (by assumption) (by assumption) (by assumption)) | (with_reducible exact un_len (by assumption)) | (with_reducible exact ee_len (by assumption)))); (case lb1 => (first | ((with_reducible show (Str.length (Txt.slice _ _ _)) ≤ _); exact sl_len (by assumption) (by assumption) (by assumption) (by assumption)) | ((with_reducible show (Str.length (Str.ofString (toString _))) ≤ _); exact pw_len (by assumption) (by assumption)) | ((with_reducible show (Str.length (Str.ofString _)) ≤ _); exact Nat.le_refl _) | (with_reducible exact pt_len (by assumption) (by assumption) (by assumption) (by assumption) (by assumption)) | (with_reducible exact un_len (by assumption)) | (with_reducible exact ee_len (by assumption))))) | ((with_reducible show (Str.length (Txt.slice _ _ _)) ≤ _); exact sl_len (by assumption) (by assumption) (by assumption) (by assumption)) | ((with_reducible show (Str.length (Str.ofString (toString _))) ≤ _); exact pw_len (by assumption) (by assumption)) | ((with_reducible show (Str.length (Str.ofString _)) ≤ _); exact Nat.le_refl _) | (with_reducible exact pt_len (by assumption) (by assumption) (by assumption) (by assumption) (by assumption)) | (with_reducible exact un_len (by assumption)) | (with_reducible exact ee_len (by assumption)))); (case lb2 => (first | ((with_reducible refine' KT.len_app ?la1 ?lb1); (case la1 => (first | ((with_reducible show (Str.length (Txt.slice _ _ _)) ≤ _); exact sl_len (by assumption) (by assumption) (by assumption) (by assumption)) | ((with_reducible show (Str.length (Str.ofString (toString _))) ≤ _); exact pw_len (by assumption) (by assumption)) | ((with_reducible show (Str.length (Str.ofString _)) ≤ _); exact Nat.le_refl _) | (with_reducible exact pt_len (by assumption) (by assumption) (by assumption) (by assumption) (by assumption)) | (with_reducible exact un_len (by assumption)) | (with_reducible exact ee_len (by assumption)))); (case lb1 => (first | ((with_reducible show (Str.length (Txt.slice _ _ _)) ≤ _); exact sl_len (by assumption) (by assumption) (by assumption) (by assumption)) | ((with_reducible show (Str.length (Str.ofString (toString _))) ≤ _); exact pw_len (by assumption) (by assumption)) | ((with_reducible show (Str.length (Str.ofString _)) ≤ _); exact Nat.le_refl _) | (with_reducible exact pt_len (by assumption) (by assumption) (by assumption) (by assumption) (by assumption)) | (with_reducible exact un_len (by assumption)) | (with_reducible exact ee_len (by assumption))))) | ((with_reducible show (Str.length (Txt.slice _ _ _)) ≤ _); exact sl_len (by assumption) (by assumption) (by assumption) (by assumption)) | ((with_reducible show (Str.length (Str.ofString (toString _))) ≤ _); exact pw_len (by assumption) (by assumption)) | ((with_reducible show (Str.length (Str.ofString _)) ≤ _); exact Nat.le_refl _) | (with_reducible exact pt_len (by assumption) (by assumption) (by assumption) (by assumption) (by assumption)) | (with_reducible exact un_len (by assumption)) | (with_reducible exact ee_len (by assumption))))) | ((with_reducible show (Str.length (Txt.slice _ _ _)) ≤ _); exact sl_len (by assumption) (by assumption) (by assumption) (by assumption)) | ((with_reducible show (Str.length (Str.ofString (toString _))) ≤ _); exact pw_len (by assumption) (by assumption)) | ((with_reducible show (Str.length (Str.ofString _)) ≤ _); exact Nat.le_refl _) | (with_reducible exact pt_len (by assumption) (by assumption) (by assumption) (by assumption) (by assumption)) | (with_reducible exact un_len (by assumption)) | (with_reducible exact ee_len (by assumption)))); (case lb3 => (first | ((with_reducible refine' KT.len_app ?la1 ?lb1); (case la1 => (first | ((with_reducible show (Str.length (Txt.slice _ _ _)) ≤ _); exact sl_len (by assumption) (by assumption) (by assumption) (by assumption)) | ((with_reducible show (Str.length (Str.ofString (toString _))) ≤ _); exact pw_len (by assumption) (by assumption)) | ((with_reducible show (Str.length (Str.ofString _)) ≤ _); exact Nat.le_refl _) | (with_reducible exact pt_len (by assumption) (by assumption) (by assumption) (by assumption) (by assumption)) | (with_reducible exact un_len (by assumption)) | (with_reducible exact ee_len (by assumption)))); (case lb1 => (first | ((with_reducible show (Str.length (Txt.slice _ _ _)) ≤ _); exact sl_len (by assumption) (by assumption) (by assumption) (by assumption)) | ((with_reducible show (Str.length (Str.ofString (toString _))) ≤ _); exact pw_len (by assumption) (by assumption)) | ((with_reducible show (Str.length (Str.ofString _)) ≤ _); exact Nat.le_refl _) | (with_reducible exact pt_len (by assumption) (by assumption) (by assumption) (by assumption) (by assumption)) | (with_reducible exact un_len (by assumption)) | (with_reducible exact ee_len (by assumption))))) | ((with_reducible show (Str.length (Txt.slice _ _ _)) ≤ _); exact sl_len (by assumption) (by assumption) (by assumption) (by assumption)) | ((with_reducible show (Str.length (Str.ofString (toString _))) ≤ _); exact pw_len (by assumption) (by assumption)) | ((with_reducible show (Str.length (Str.ofString _)) ≤ _); exact Nat.le_refl _) | (with_reducible exact pt_len (by assumption) (by assumption) (by assumption) (by assumption) (by assumption)) | (with_reducible exact un_len (by assumption)) | (with_reducible exact ee_len (by assumption))))) | ((with_reducible show (Str.length (Txt.slice _ _ _)) ≤ _); exact sl_len (by assumption) (by assumption) (by assumption) (by assumption)) | ((with_reducible show (Str.length (Str.ofString (toString _))) ≤ _); exact pw_len (by assumption) (by assumption)) | ((with_reducible show (Str.length (Str.ofString _)) ≤ _); exact Nat.le_refl _) | (with_reducible exact pt_len (by assumption) (by assumption) (by assumption) (by assumption) (by assumption)) | (with_reducible exact un_len (by assumption)) | (with_reducible exact ee_len (by assumption)))); (case lb4 => (first | ((with_reducible refine' KT.len_app ?la1 ?lb1); (case la1 => (first | ((with_reducible show (Str.length (Txt.slice _ _ _)) ≤ _); exact sl_len (by assumption) (by assumption) (by assumption) (by assumption)) | ((with_reducible show (Str.length (Str.ofString (toString _))) ≤ _); exact pw_len (by assumption) (by assumption)) | ((with_reducible show (Str.length (Str.ofString _)) ≤ _); exact Nat.le_refl _) | (with_reducible exact pt_len (by assumption) (by assumption) (by assumption) (by assumption) (by assumption)) | (with_reducible exact un_len (by assumption)) | (with_reducible exact ee_len (by assumption)))); (case lb1 => (first | ((with_reducible show (Str.length (Txt.slice _ _ _)) ≤ _); exact sl_len (by assumption) (by assumption) (by assumption) (by assumption)) | ((with_reducible show (Str.length (Str.ofString (toString _))) ≤ _); exact pw_len (by assumption) (by assumption)) | ((with_reducible show (Str.length (Str.ofString _)) ≤ _); exact Nat.le_refl _) | (with_reducible exact pt_len (by assumption) (by assumption) (by assumption) (by assumption) (by assumption)) | (with_reducible exact un_len (by assumption)) | (with_reducible exact ee_len (by assumption))))) | ((with_reducible show (Str.length (Txt.slice _ _ _)) ≤ _); exact sl_len (by assumption) (by assumption) (by assumption) (by assumption)) | ((with_reducible show (Str.length (Str.ofString (toString _))) ≤ _); exact pw_len (by assumption) (by assumption)) | ((with_reducible show (Str.length (Str.ofString _)) ≤ _); exact Nat.le_refl _) | (with_reducible exact pt_len (by assumption) (by assumption) (by assumption) (by assumption) (by assumption)) | (with_reducible exact un_len (by assumption)) | (with_reducible exact ee_len (by assumption))))) | ((with_reducible show (Str.length (Txt.slice _ _ _)) ≤ _); exact sl_len (by assumption) (by assumption) (by assumption) (by assumption)) | ((with_reducible show (Str.length (Str.ofString (toString _))) ≤ _); exact pw_len (by assumption) (by assumption)) | ((with_reducible show (Str.length (Str.ofString _)) ≤ _); exact Nat.le_refl _) | (with_reducible exact pt_len (by assumption) (by assumption) (by assumption) (by assumption) (by assumption)) | (with_reducible exact un_len (by assumption)) | (with_reducible exact ee_len (by assumption)))); (case kb => (first | ((with_reducible refine' KT.len_app ?la4 ?lb4); (case la4 => (first | ((with_reducible refine' KT.len_app ?la3 ?lb3); (case la3 => (first | ((with_reducible refine' KT.len_app ?la2 ?lb2); (case la2 => (first | ((with_reducible refine' KT.len_app ?la1 ?lb1); (case la1 => (first | ((with_reducible show (Str.length (Txt.slice _ _ _)) ≤ _); exact sl_len (by assumption) (by assumption) (by assumption) (by assumption)) | ((with_reducible show (Str.length (Str.ofString (toString _))) ≤ _); exact pw_len (by assumption) (by assumption)) | ((with_reducible show (Str.length (Str.ofString _)) ≤ _); exact Nat.le_refl _) | (with_reducible exact pt_len (by assumption) (by assumption) (by assumption) (by assumption) (by assumption)) | (with_reducible exact un_len (by assumption)) | (with_reducible exact ee_len (by assumption)))); (case lb1 => (first | ((with_reducible show (Str.length (Txt.slice _ _ _)) ≤ _); exact sl_len (by assumption) (by assumption) (by assumption) (by assumption)) | ((with_reducible show (Str.length (Str.ofString (toString _))) ≤ _); exact pw_len (by assumption) (by assumption)) | ((with_reducible show (Str.length (Str.ofString _)) ≤ _); exact Nat.le_refl _) | (with_reducible exact pt_len (by assumption) (by assumption) (by assumption) (by assumption) (by assumption)) | (with_reducible exact un_len (by assumption)) | (with_reducible exact ee_len (by assumption))))) | ((with_reducible show (Str.length (Txt.slice _ _ _)) ≤ _); exact sl_len (by assumption) (by assumption) (by assumption) (by assumption)) | ((with_reducible show (Str.length (Str.ofString (toString _))) ≤ _); exact pw_len (by assumption) (by assumption)) | ((with_reducible show (Str.length (Str.ofString _)) ≤ _); exact Nat.le_refl _) | (with_reducible exact pt_len (by assumption) (by assumption) (by assumption) (by assumption) (by assumption)) | (with_reducible exact un_len (by assumption)) | (with_reducible exact ee_len (by assumption)))); (case lb2 => (first | ((with_reducible refine' KT.len_app ?la1 ?lb1); (case la1 => (first | ((with_reducible show (Str.length (Txt.slice _ _ _)) ≤ _); exact sl_len (by assumption) (by assumption) (by assumption) (by assumption)) | ((with_reducible show (Str.length (Str.ofString (toString _))) ≤ _); exact pw_len (by assumption) (by assumption)) | ((with_reducible show (Str.length (Str.ofString _)) ≤ _); exact Nat.le_refl _) | (with_reducible exact pt_len (by assumption) (by assumption) (by assumption) (by assumption) (by assumption)) | (with_reducible exact un_len (by assumption)) | (with_reducible exact ee_len (by assumption)))); (case lb1 => (first | ((with_reducible show (Str.length (Txt.slice _ _ _)) ≤ _); exact sl_len (by assumption) (by assumption) (by assumption) (by assumption)) | ((with_reducible show (Str.length (Str.ofString (toString _))) ≤ _); exact pw_len (by assumption) (by assumption)) | ((with_reducible show (Str.length (Str.ofString _)) ≤ _); exact Nat.le_refl _) | (with_reducible exact pt_len (by assumption) (by assumption) (by assumption) (by assumption) (by assumption)) | (with_reducible exact un_len (by assumption)) | (with_reducible exact ee_len (by assumption))))) | ((with_reducible show (Str.length (Txt.slice _ _ _)) ≤ _); exact sl_len (by assumption) (by assumption) (by assumption) (by assumption)) | ((with_reducible show (Str.length (Str.ofString (toString _))) ≤ _); exact pw_len (by assumption) (by assumption)) | ((with_reducible show (Str.length (Str.ofString _)) ≤ _); exact Nat.le_refl _) | (with_reducible exact pt_len (by assumption) (by assumption) (by assumption) (by assumption) (by assumption)) | (with_reducible exact un_len (by assumption)) | (with_reducible exact ee_len (by assumption))))) | ((with_reducible show (Str.length (Txt.slice _ _ _)) ≤ _); exact sl_len (by assumption) (by assumption) (by assumption) (by assumption)) | ((with_reducible show (Str.length (Str.ofString (toString _))) ≤ _); exact pw_len (by assumption) (by assumption)) | ((with_reducible show (Str.length (Str.ofString _)) ≤ _); exact Nat.le_refl _) | (with_reducible exact pt_len (by assumption) (by assumption) (by assumption) (by assumption) (by assumption)) | (with_reducible exact un_len (by assumption)) | (with_reducible exact ee_len (by assumption)))); (case lb3 => (first | ((with_reducible refine' KT.len_app ?la1 ?lb1); (case la1 => (first | ((with_reducible show (Str.length (Txt.slice _ _ _)) ≤ _); exact sl_len (by assumption) (by assumption) (by assumption) (by assumption)) | ((with_reducible show (Str.length (Str.ofString (toString _))) ≤ _); exact pw_len (by assumption) (by assumption)) | ((with_reducible show (Str.length (Str.ofString _)) ≤ _); exact Nat.le_refl _) | (with_reducible exact pt_len (by assumption) (by assumption) (by assumption) (by assumption) (by assumption)) | (with_reducible exact un_len (by assumption)) | (with_reducible exact ee_len (by assumption)))); (case lb1 => (first | ((with_reducible show (Str.length (Txt.slice _ _ _)) ≤ _); exact sl_len (by assumption) (by assumption) (by assumption) (by assumption)) | ((with_reducible show (Str.length (Str.ofString (toString _))) ≤ _); exact pw_len (by assumption) (by assumption)) | ((with_reducible show (Str.length (Str.ofString _)) ≤ _); exact Nat.le_refl _) | (with_reducible exact pt_len (by assumption) (by assumption) (by assumption) (by assumption) (by assumption)) | (with_reducible exact un_len (by assumption)) | (with_reducible exact ee_len (by assumption))))) | ((with_reducible show (Str.length (Txt.slice _ _ _)) ≤ _); exact sl_len (by assumption) (by assumption) (by assumption) (by assumption)) | ((with_reducible show (Str.length (Str.ofString (toString _))) ≤ _); exact pw_len (by assumption) (by assumption)) | ((with_reducible show (Str.length (Str.ofString _)) ≤ _); exact Nat.le_refl _) | (with_reducible exact pt_len (by assumption) (by assumption) (by assumption) (by assumption) (by assumption)) | (with_reducible exact un_len (by assumption)) | (with_reducible exact ee_len (by assumption))))) | ((with_reducible show (Str.length (Txt.slice _ _ _)) ≤ _); exact sl_len (by assumption) (by assumption) (by assumption) (by assumption)) | ((with_reducible show (Str.length (Str.ofString (toString _))) ≤ _); exact pw_len (by assumption) (by assumption)) | ((with_reducible show (Str.length (Str.ofString _)) ≤ _); exact Nat.le_refl _) | (with_reducible exact pt_len (by assumption) (by assumption) (by assumption) (by assumption) (by assumption)) | (with_reducible exact un_len (by assumption)) | (with_reducible exact ee_len (by assumption)))); (case lb4 => (first | ((with_reducible refine' KT.len_app ?la1 ?lb1); (case la1 => (first | ((with_reducible show (Str.length (Txt.slice _ _ _)) ≤ _); exact sl_len (by assumption) (by assumption) (by assumption) (by assumption)) | ((with_reducible show (Str.length (Str.ofString (toString _))) ≤ _); exact pw_len (by assumption) (by assumption)) | ((with_reducible show (Str.length (Str.ofString _)) ≤ _); exact Nat.le_refl _) | (with_reducible exact pt_len (by assumption) (by assumption) (by assumption) (by assumption) (by assumption)) | (with_reducible exact un_len (by assumption)) | (with_reducible exact ee_len (by assumption)))); (case lb1 => (first | ((with_reducible show (Str.length (Txt.slice _ _ _)) ≤ _); exact sl_len (by assumption) (by assumption) (by assumption) (by assumption)) | ((with_reducible show (Str.length (Str.ofString (toString _))) ≤ _); exact pw_len (by assumption) (by assumption)) | ((with_reducible show (Str.length (Str.ofString _)) ≤ _); exact Nat.le_refl _) | (with_reducible exact pt_len (by assumption) (by assumption) (by assumption) (by assumption) (by assumption)) | (with_reducible exact un_len (by assumption)) | (with_reducible exact ee_len (by assumption))))) | ((with_reducible show (Str.length (Txt.slice _ _ _)) ≤ _); exact sl_len (by assumption) (by assumption) (by assumption) (by assumption)) | ((with_reducible show (Str.length (Str.ofString (toString _))) ≤ _); exact pw_len (by assumption) (by assumption)) | ((with_reducible show (Str.length (Str.ofString _)) ≤ _); exact Nat.le_refl _) | (with_reducible exact pt_len (by assumption) (by assumption) (by assumption) (by assumption) (by assumption)) | (with_reducible exact un_len (by assumption)) | (with_reducible exact ee_len (by assumption))))) | ((with_reducible show (Str.length (Txt.slice _ _ _)) ≤ _); exact sl_len (by assumption) (by assumption) (by assumption) (by assumption)) | ((with_reducible show (Str.length (Str.ofString (toString _))) ≤ _); exact pw_len (by assumption) (by assumption)) | ((with_reducible show (Str.length (Str.ofString _)) ≤ _); exact Nat.le_refl _) | (with_reducible exact pt_len (by assumption) (by assumption) (by assumption) (by assumption) (by assumption)) | (with_reducible exact un_len (by assumption)) | (with_reducible exact ee_len (by assumption)))); (case kc => exact Nat.le_of_ble_eq_true rfl)); intro t9 tk9)
  k_with "binaryOp Pow int int" => (k_here; first | (refine pow_int_small (pwA (by assumption) (by assumption) (by assumption) (by assumption)).1 (pwA (by assumption) (by assumption) (by assumption) (by assumption)).2 (by decide) ?_) | (refine pow_int_small (pwB (by assumption) (by assumption) (by assumption) (by assumption)).1 (pwB (by assumption) (by assumption) (by assumption) (by assumption)).2 (by decide) ?_))
  k_with "binaryOp Mult int int" => (k_here; (refine mul_int ?_ (by first | exact fmO (by assumption) (by assumption) | exact fmK (by assumption) (by assumption) (by assumption))))
  k_with "compareOp Eq str str" => (refine eq_str_is (by assumption) ?_)
  k_with "eval IfExp Compare BinOp" => ((fail_if_success (with_reducible show wpAny _ _ _ (fun v s' => JStr _ _ _ _ _ _ v s') _ _)); (refine' join_pt (by with_reducible assumption) (by with_reducible assumption) ?F ?N ?_ ?_; (case F => k_asm); (case N => k_asm)))
  k_with "JStr" => (refine ⟨⟨_, _, _, _, rfl, rfl, by k_asm, by k_asm, ?_⟩⟩; first | ((refine Or.inl ⟨by with_reducible assumption, ?_⟩); exact rfl) | ((refine Or.inr ⟨by with_reducible assumption, ?_⟩); exact rfl))
  k_with "eval IfExp Compare" => ((with_reducible show wpAny _ _ (eval (Expr.IfExp _ _ (Expr.Constant (Const.int _) _ _) _) _) _ _ _); (fail_if_success (with_reducible show wpAny _ _ _ (fun v s' => JInt _ _ _ _ _ _ v s') _ _)); (refine' join_neg (by with_reducible assumption) ?F ?N ?_ ?_; (case F => k_asm); (case N => k_asm)))
  k_with "JInt" => (refine ⟨⟨_, _, _, _, rfl, rfl, by k_asm, by k_asm, ?_⟩⟩; first | ((refine Or.inl ⟨by with_reducible assumption, ?_⟩); exact rfl) | ((refine Or.inr ⟨by with_reducible assumption, ?_⟩); exact rfl))
  k_with "exec If BoolOp" => ((fail_if_success (with_reducible show wpAny _ _ _ (fun v s' => JText _ _ _ _ _ _ _ _ v s') _ _)); (refine' join_text (by with_reducible assumption) ?F ?N ?hm ?_ ?_; (case F => k_asm); (case N => k_asm); (case hm => exact if_pos rfl)))
  k_with "JText" => first | (refine ⟨⟨_, _, _, _, _, _, _, _, _, rfl, rfl, by with_reducible assumption, by with_reducible assumption, ?_, by with_reducible assumption, by with_reducible assumption, by with_reducible assumption⟩⟩; (refine Or.inr ⟨_, by with_reducible assumption, ?_⟩); exact rfl) | (refine ⟨⟨_, _, _, _, _, _, _, _, _, rfl, rfl, fr_same (by with_reducible assumption) (if_pos rfl), by with_reducible assumption, ?_, by with_reducible assumption, by with_reducible assumption, by with_reducible assumption⟩⟩; (refine Or.inl ⟨by with_reducible assumption, ?_⟩); exact rfl)
  k_with "execs cons" => ((with_reducible refine wpAny_execs_cons ?_); (try dsimp only); (try ((rename Fr _ _ _ _ => F5); (revert F5); (refine let_mX (P := fun m1 => Fr _ _ _ m1 → _) ?_); intro m1 F5)))
  (repeat' (first | (k_unfold; (try dsimp only)) | (k_end; wrow_close) | (walk1; (try k_fold)) | (dsimp only; walk1; (try k_fold)) | (leave1; (try dsimp only)) | fail "no step"))
  all_goals (refine' number_end hret hneg9 ?f ?n ?m2 ?m1 ?sb ?ht ?hb ?hx ?hd ?hu ?a1 ?a2 ?a3 ?a4 ?a5 ?a6 ?b3 ?b4 ?b5; (case f => k_asm); (case n => with_reducible assumption); (case m2 => (repeat (first | exact List.Mem.head _ | refine List.Mem.tail _ ?_))); (case m1 => (repeat (first | exact List.Mem.head _ | refine List.Mem.tail _ ?_))); (case sb => (intro p hp; repeat (first | exact hp | refine List.Mem.tail _ ?_))); (case ht => (refine ⟨_, by with_reducible assumption, ?_⟩; exact rfl)); (case hb => exact rfl); (case hd => with_reducible assumption); (case hx => assumption); (case hu => with_reducible assumption); (case a1 => with_reducible assumption); (case a2 => with_reducible assumption); (case a3 => with_reducible assumption); (case a4 => with_reducible assumption); (case a5 => with_reducible assumption); (case a6 => with_reducible assumption); (case b3 => with_reducible assumption); (case b4 => with_reducible assumption); (case b5 => with_reducible assumption))
end SB28
section SB29
/-- a contract of a call that reads the script -/
def CtrP (w : World) (J : Addr) (ys : List Value) (ns : List Int) (f : Addr) (dn : Nat) (news : List (Addr × Obj)) (vs : List Value) (Ok : List (Addr × Obj) → Value → Prop) : Prop :=
  ∀ (mean : ExcName → Option Value) (mg mb : Str → Option Value) (dp un : Nat) (gd : Option (List Code)) (cn : Str) (cs : Scope) (a : Addr) (ccd : Value) (cl : List (Str × Addr)) (outer : List Env) (A₀ : Around) (base h₀ : Heap) (L : Addr)
    (m : Str → Option Value) (s : Shared) (Q E : Value → Shared → Prop),
    Below A₀ base outer h₀ → Fr h₀ L s.heap m → (hd.heap_39 w.params).In h₀ → News h₀ L s.heap news →
    Top hd.view_39 (looseW hd.view_39 [Str.ofString "MOST_VALUE", Str.ofString "fraction", Str.ofString "MOST_SIZE", Str.ofString "length", Str.ofString "length_styles", Str.ofString "Look"]) mean mg mb h₀ → h₀.IsList J ys.toArray → IntsAre ys ns →
    cs.kind = .function → dp + dn < recursionLimit → un + 8 * dn < cLine →
    (∀ r h' tk' news', Fr h₀ L h' m → News h₀ L h' news' → Ok news' r → Q r { s with heap := h', toks := tk' }) →
    wpAny (model PySem.Challenge.rw_xm0732_01.row.prog w) (ktrTop dp un gd cn cs L a ccd cl outer) (call (.ref f) vs) Q E s
def OkPool (news n : List (Addr × Obj)) (y : Value) : Prop := ∃ S v0 v1 t0 t1 c, n = (S, lst2 v0 v1 t0 t1 c) :: news ∧ y = .ref S ∧ 0 ≤ v0 ∧ 0 ≤ v1 ∧ v1 < 2147483647
theorem pool0 (c : Int) (p : Prop) [Decidable p] : 0 ≤ (if -1 - c > c then -1 - c else c) * (if p then 1 else 0) := by
  refine Int.mul_nonneg ?_ ?_
  · split <;> omega
  · split <;> decide
theorem ct_pool (w : World) (J : Addr) (ys : List Value) (ns : List Int) (hlen : ns.length ≤ 63) (news : List (Addr × Obj)) : CtrP w J ys ns 342 4 news [.ref J] (OkPool news) := by
  k_with_none; (k_with "binaryOp FloorDiv int int" => (refine floordiv_int (by first | assumption | omega) ?_ (Or.inl (dv_of_sm (by assumption))))); refine mark_use ?_; k_fill; intro _; unfold CtrP; intro mean mg mb dp un gd cn cs a ccd cl outer A₀ base h₀ L m s Q E B F X N T hIL hIA hk hdp hun hret
  refine wpAny_call ?_
  k_dflt (refine' code_def ?k1 ?k2 ?k3 ?k4 ?k5 ?kA ?kF ?kK ?k6 ?k7 ?k8 ?k9 ?kB ?_ ?c2 ?c3 ?c4 ?c5; (case kA => exact rfl); (case kF => exact rfl); (case kK => first | exact rfl | assumption); (case k1 => k_asm); (case k2 => k_asm); (case k3 => k_asm); (case k4 => k_asm); (case k5 => k_asm); (case k6 => k_is); (case k7 => k_is); (case k8 => ktr_room); (case k9 => first | exact BindsTo.of_eq rfl | exact binds_K (by k_in) rfl (by k_is) rfl rfl rfl); (case c5 => decide); (case kB => exact locs rfl); (case c2 => exact rfl); (case c3 => exact rfl); (case c4 => exact rfl); k_whole; intro g' L' h' FG' F' N' B' X' T'; (try dsimp only); (try k_lift B'); (try k_fold); (try ((refine let_AX (P := fun AA9 => wpAny _ AA9 _ _ _ _) ?_); intro AA9)))
  have hIL' := FG'.lst hIL
  k_with "binaryOp Mult int int" => first | (refine mul_int ?_ (IntMulOk.of_right (by decide)))
  k_with "execs cons" => ((with_reducible refine wpAny_execs_cons ?_); (try dsimp only); (try ((rename Fr _ _ _ _ => FF9); (revert FF9); (refine let_mX (P := fun mm9 => Fr _ _ _ mm9 → _) ?_); intro mm9 FF9)); (try k_fold))
  k_steps
  all_goals exact hret _ _ _ _ (by k_asm) (by assumption) ⟨_, _, _, _, _, _, rfl, rfl, pool0 _ _, Int.fmod_nonneg_of_pos _ (by decide), Int.fmod_lt_of_pos _ (by decide)⟩
end SB29
section SB30
theorem CtrS.use {w : World} {f : Addr} {dn : Nat} {news : List (Addr × Obj)} {vs : List Value} {Ok : List (Addr × Obj) → Value → Prop}
    {mean : ExcName → Option Value} {mg mb : Str → Option Value} {dp un : Nat} {gd : Option (List Code)} {cn : Str} {cs : Scope} {a : Addr} {ccd : Value} {outer : List Env} {A₀ : Around} {base g₀ h₀ : Heap} {L : Addr}
    {m : Str → Option Value} {s : Shared} {Q E : Value → Shared → Prop} (C : CtrS w f dn news vs Ok)
    (B : Below A₀ base outer h₀) (F : Fr h₀ L s.heap m) (X : (hd.heap_39 w.params).In h₀) (N : News h₀ L s.heap news)
    (T : Top hd.view_39 (looseW hd.view_39 [Str.ofString "MOST_VALUE", Str.ofString "fraction", Str.ofString "MOST_SIZE", Str.ofString "length", Str.ofString "length_styles", Str.ofString "Look"]) mean mg mb h₀) (XB : (hd.heap_39 w.params).In base) (TB : Top hd.view_39 (looseW hd.view_39 [Str.ofString "MOST_VALUE", Str.ofString "fraction", Str.ofString "MOST_SIZE", Str.ofString "length", Str.ofString "length_styles", Str.ofString "Look"]) mean mg mb base) (D : KtsDicts (outer.filterMap (·.frame)) h₀) (T0 : KtsTurn (outer.filterMap (·.frame)) g₀ h₀)
    (hk : cs.kind = .function) (hd : dp + dn < recursionLimit) (hu : un + 8 * dn < cLine)
    (ret : ∀ r h₀' h' tk' news', KtsTurn (outer.filterMap (·.frame)) g₀ h₀' → Fr h₀' L h' m → News h₀' L h' news' → Below A₀ base outer h₀' → (Mine.hd.heap_39 w.params).In h₀' → Top Mine.hd.view_39 (looseW Mine.hd.view_39 [Str.ofString "MOST_VALUE", Str.ofString "fraction", Str.ofString "MOST_SIZE", Str.ofString "length", Str.ofString "length_styles", Str.ofString "Look"]) mean mg mb h₀' → KtsDicts (outer.filterMap (·.frame)) h₀' → Ok news' r → Q r { s with heap := h', toks := tk' }) :
    wpAny (model PySem.Challenge.rw_xm0732_01.row.prog w) (ktrTop dp un gd cn cs L a ccd [] outer) (call (.ref f) vs) Q E s :=
  C mean mg mb dp un gd cn cs a ccd outer A₀ base g₀ h₀ L m s Q E B F X N T XB TB D T0 hk hd hu ret
theorem CtrW.sub {w : World} {f : Addr} {dn : Nat} {news l : List (Addr × Obj)} {vs : List Value} {Ok : List (Addr × Obj) → Value → Prop} (C : CtrW w f dn l vs Ok) (h : ∀ p ∈ l, p ∈ news) : CtrW w f dn news vs Ok :=
  fun mean mg mb dp un gd cn cs a ccd cl outer A₀ base h₀ L m s Q E B F X N T hk hdp hun ret => C mean mg mb dp un gd cn cs a ccd cl outer A₀ base h₀ L m s Q E B F X (cb_drop N h) T hk hdp hun ret
theorem one_in {p q : Addr × Obj} {news : List (Addr × Obj)} (h : q ∈ news) (hp : p ∈ q :: ([] : List (Addr × Obj))) : p ∈ news := by
  rcases List.mem_cons.mp hp with rfl | hp
  · exact h
  · cases hp
theorem ct_unit' (S : Addr) (v0 v1 : Int) (t0 t1 : Tok) (c : Nat) (news : List (Addr × Obj)) (hS : (S, lst2 v0 v1 t0 t1 c) ∈ news) (h0 : 0 ≤ v0) (h1 : 0 ≤ v1) (h2 : v1 < 2147483647) : Ctr 398 6 news [.ref S] (OkUnit S []) :=
  (ct_unit S v0 v1 t0 t1 c [] (fun p hp => by cases hp) h0 h1 h2).sub fun p hp => one_in hS hp
theorem ct_around' (w : World) (S : Addr) (v0 v1 : Int) (t0 t1 : Tok) (c : Nat) (news : List (Addr × Obj)) (hS : (S, lst2 v0 v1 t0 t1 c) ∈ news) (h0 : 0 ≤ v0) (h1 : 0 ≤ v1) (h2 : v1 < 2147483647) : CtrW w 391 9 news [.ref S] (OkAround w S []) :=
  (ct_around w S v0 v1 t0 t1 c [] (fun p hp => by cases hp) h0 h1 h2).sub fun p hp => one_in hS hp
theorem gp3 {y : Value} {t1 t2 t3 : Tok} (q : y ∈ [Value.str (Str.ofString "") t1, .str (Str.ofString "") t2, .str (Str.ofString " ") t3]) : ∃ f k, y = .str f k ∧ (f = Str.ofString "" ∨ f = Str.ofString " ") := by
  simp only [List.mem_cons, List.not_mem_nil, or_false] at q
  rcases q with q | q | q <;> exact ⟨_, _, q, by simp⟩
theorem gp_len {u : Str} (h : u = Str.ofString "" ∨ u = Str.ofString " ") : u.length ≤ 1 := by
  rcases h with rfl | rfl <;> decide
theorem gp_cases {u : Str} (h : u = Str.ofString "" ∨ u = Str.ofString " ") : u.cps.toList = [] ∨ u.cps.toList = [32] := by
  rcases h with rfl | rfl
  · exact Or.inl (by decide +kernel)
  · exact Or.inr (by decide +kernel)
theorem un_len2 {u : Str} {n d : Int} (hu : unitT u n d) : u.length ≤ 2 := by
  unfold unitT at hu
  rcases hu with ⟨rfl, _⟩ | ⟨rfl, _⟩ | ⟨rfl, _⟩ | ⟨rfl, _⟩ | ⟨rfl, _⟩ | ⟨rfl, _⟩ | ⟨rfl, _⟩ | ⟨rfl, _⟩ | ⟨rfl, _⟩ <;> decide
theorem un_sm {u : Str} {n d : Int} (hu : unitT u n d) : Sm 13 n ∧ Sm 13 d := by
  obtain ⟨⟨n0, n1⟩, d0, d1⟩ := unit_sm hu
  exact ⟨smn n0 n1, smn (Int.le_of_lt d0) (by omega)⟩
theorem y_list (g x u : Str) : (g ++ x ++ g ++ u ++ g).cps.toList = g.cps.toList ++ (x.cps.toList ++ (g.cps.toList ++ (u.cps.toList ++ g.cps.toList))) := by
  rw [app_l, app_l, app_l, app_l]
  simp
theorem ne_of_obj {h₀ h : Heap} {L a b : Addr} {o o' : Obj} {news : List (Addr × Obj)} (N : News h₀ L h news) (ha : (a, o) ∈ news) (hb : (b, o') ∈ news) (hne : o ≠ o') : a ≠ b := by
  intro e
  subst e
  have h1 := (N _ ha).1
  have h2 := (N _ hb).1
  exact hne (Option.some.inj (h1.symm.trans h2))
theorem around_ne {w : World} {h₀ h : Heap} {L S Y rL dL V Z SL : Addr} {o : Obj} {told : Value} {f0 f1 v0 v1 : Int} {t0 t1 : Tok} {c c2 c3 : Nat} {z1 z2 z3 : Int} {y1 y2 y3 g0 g1 : Tok} (N : News h₀ L h ((S, lst2 v0 v1 t0 t1 c) :: (Y, tupR rL Z c3) :: (rL, instObj 317 dL) :: (dL, lookO z1 z2 z3 y1 y2 y3 V told SL) :: (V, o) :: (Z, tup2 f0 f1 g0 g1 c2) :: [])) (hT : TabO w V o) :
    ∀ p ∈ [(rL, instObj 317 dL), (dL, lookO z1 z2 z3 y1 y2 y3 V told SL), (V, o), (Z, tup2 f0 f1 g0 g1 c2)], p.1 ≠ S := by
  intro p hp
  rcases List.mem_cons.mp hp with rfl | hp
  · exact ne_of_obj N (.tail _ (.tail _ (.head _))) (.head _) (fun e => by have := congrArg Obj.cls e; cases this)
  rcases List.mem_cons.mp hp with rfl | hp
  · exact ne_of_obj N (.tail _ (.tail _ (.tail _ (.head _)))) (.head _) (fun e => by have := congrArg Obj.data e; cases this)
  rcases List.mem_cons.mp hp with rfl | hp
  · refine ne_of_obj N (.tail _ (.tail _ (.tail _ (.tail _ (.head _))))) (.head _) (fun e => ?_)
    obtain ⟨_, kvs, ⟨es, ep, _, hd, _⟩, _⟩ := hT
    rw [e] at hd
    cases hd
  rcases List.mem_cons.mp hp with rfl | hp
  · exact ne_of_obj N (.tail _ (.tail _ (.tail _ (.tail _ (.tail _ (.head _)))))) (.head _) (fun e => by
      have := congrArg Obj.cls e
      injection this with this
      exact absurd this (by decide))
  · cases hp
theorem own_due_N {g h : Heap} {L : Addr} (news : List (Addr × Obj)) (_N : News g L h news) (w : World) (y : Str) (tx : Tok) (r d V Z S : Addr) (sz : Value) (o : Obj) (f0 f1 TT BB : Int) (h1 h2 h3 : Int) (k1 k2 k3 g0 g1 : Tok) (c : Nat) (hr : (r, instObj 317 d) ∈ news) (hd : (d, lookO h1 h2 h3 k1 k2 k3 V sz S) ∈ news) (hV : (V, o) ∈ news) (hZ : (Z, tup2 f0 f1 g0 g1 c) ∈ news) (hT : TabO w V o) (hs : (sz = .none ∧ f0 = 16 ∧ f1 = 1) ∨ sz = .ref Z) (hl : ∀ (t : Tok) (W P : Addr) (t1 t2 t3 t4 : Tok) (c1 c2 : Nat) (nw : List (Addr × Obj)), (W, tup2 f0 f1 t1 t2 c1) ∈ nw → (P, tup2 f0 f1 t3 t4 c2) ∈ nw → Ctr 210 10 nw [.str y t, .ref W, .ref P] (OkT nw (loT TT BB) (loB TT BB)))
   (hB : 0 < BB) (sB : Sm 400 BB) (sT : Sm 400 TT) :
    (∃ msg, msg.length ≤ 100 ∧ CtrS w 370 20 news [.str y tx, .ref r] (fun n v => n = news ∧ ∃ t, v = .str msg t) ∧ ∀ (t1 t2 : Tok) (nw : List (Addr × Obj)), Ctr 377 6 nw [.int TT t1, .int BB t2] (fun n v => n = nw ∧ ∃ t, v = .str msg t)) ∨
    (∃ a b, CtrW w 370 18 news [.str y tx, .ref r] (OkT news a b) ∧ ∀ (t1 t2 : Tok) (nw : List (Addr × Obj)), Ctr 377 6 nw [.int TT t1, .int BB t2] (OkT nw a b)) :=
  own_due w y tx r d V Z S sz o f0 f1 TT BB h1 h2 h3 k1 k2 k3 g0 g1 c news hr hd hV hZ hT hs hl hB sB sT
end SB30
section SB31
theorem ct_number' (S : Addr) (v0 v1 : Int) (t0 t1 : Tok) (c : Nat) (news : List (Addr × Obj)) (hS : (S, lst2 v0 v1 t0 t1 c) ∈ news) (h0 : 0 ≤ v0) (h1 : 0 ≤ v1) (h2 : v1 < 2147483647) : Ctr 384 6 news [.ref S] (OkNum S []) :=
  (ct_number S v0 v1 t0 t1 c [] (fun p hp => by cases hp) h0 h1 h2).sub fun p hp => one_in hS hp
theorem lawA {t b f0 f1 many parts : Int} (h : many = 0) : lawTB t b f0 f1 many parts (t * f0) (b * f1 * parts) := Or.inl ⟨h, rfl, rfl⟩
theorem lawB {t b f0 f1 many parts : Int} (h : many ≠ 0) : lawTB t b f0 f1 many parts (t * many) (b * parts) := Or.inr ⟨h, rfl, rfl⟩
theorem news_one {h₀ h : Heap} {L : Addr} {p : Addr × Obj} {news : List (Addr × Obj)} (N : News h₀ L h news) (hm : p ∈ news) : News h₀ L h [p] := fun q hq => by
  rcases List.mem_cons.mp hq with rfl | hq
  · exact N _ hm
  · cases hq
def OkRight (S : Addr) (n : List (Addr × Obj)) (y : Value) : Prop := ∃ v0 v1 t0 t1 c, n = [(S, lst2 v0 v1 t0 t1 c)] ∧ y = .bool true ∧ 0 ≤ v0 ∧ 0 ≤ v1 ∧ v1 < 2147483647
theorem ct_right (w : World) (S : Addr) (v0 v1 : Int) (t0 t1 : Tok) (c : Nat) (h0 : 0 ≤ v0) (h1 : 0 ≤ v1) (h2 : v1 < 2147483647) : CtrS w 405 22 [(S, lst2 v0 v1 t0 t1 c)] [.ref S] (OkRight S) := by
  k_with_none; (k_with "binaryOp FloorDiv int int" => (refine floordiv_int (by first | assumption | omega) ?_ (Or.inl (dv_of_sm (by assumption))))); refine mark_use ?_; k_fill; intro _; unfold CtrS; intro mean mg mb dp un gd cn cs a ccd outer A₀ base g₀ h₀ L m s Q E B F X N T XB TB D T0 hk hdp hun hret
  replace XB := Hid.mk XB
  replace TB := Hid.mk TB
  refine wpAny_call ?_
  k_dflt (refine' code_defS (g₀ := g₀) ?k1 ?k2 ?k3 ?k4 ?k5 ?k5a ?k5b ?k5c ?k5d ?kA ?k6 ?k7 ?k8 ?k9 ?kB ?_ ?kK ?c2 ?c3 ?c4 ?c5; (case k5a => exact XB.out); (case k5b => exact TB.out); (case k5c => exact D); (case k5d => exact T0); (case kA => exact rfl); (case kK => first | exact rfl | assumption); (case k1 => exact B); (case k2 => k_asm); (case k3 => exact X); (case k4 => k_asm); (case k5 => exact T); (case k6 => k_is); (case k7 => k_is); (case k8 => ktr_room); (case k9 => first | exact BindsTo.of_eq rfl | exact binds_K (by k_in) rfl (by k_is) rfl rfl rfl); (case c5 => decide); (case kB => exact locs rfl); (case c2 => exact rfl); (case c3 => exact rfl); (case c4 => exact rfl); k_whole; intro g' L' h' FG' F' N' B' X' T' D'; (try dsimp only); (try k_lift B'); (try k_fold))
  k_with "call ref" => (k_here; (with_reducible show wpAny _ _ (call (Value.ref 384) _) _ _ _); (k_dflt (refine' Ctr.use (ct_number' _ _ _ _ _ _ _ ?hS ?h0 ?h1 ?h2) ?k1 ?k2 ?k3 ?k4 ?k5 ?kK ?kd ?ku ?_; (case k1 => k_asm); (case k2 => k_asm); (case k3 => k_asm); (case k4 => first | k_asm | exact cb_drop (by assumption) (by kcj_all)); (case k5 => k_asm); (case kK => first | exact rfl | assumption); (case kd => ktr_room); (case ku => ktr_units); (case hS => k_mem); (case h0 => assumption); (case h1 => assumption); (case h2 => assumption); k_whole)); intro r9 h9 tk9 n9 F9 N9 ho9; (obtain ⟨v8, v9, t8, t7, c9, D9, x9, p9, q9, k9, k8, k7, d9, neg9, f9, e9, eN, eY, eT, eB, nx9, hf0, hf1, he0, he1, b3, b4, b5⟩ := ho9); subst eN; subst eY; subst eT; subst eB; (try dsimp only); (try k_sweep); (try k_fold))
  k_with "call ref" => (k_here; (with_reducible show wpAny _ _ (call (Value.ref 398) _) _ _ _); (k_dflt (refine' Ctr.use (ct_unit' _ _ _ _ _ _ _ ?hS ?h0 ?h1 ?h2) ?k1 ?k2 ?k3 ?k4 ?k5 ?kK ?kd ?ku ?_; (case k1 => k_asm); (case k2 => k_asm); (case k3 => k_asm); (case k4 => first | k_asm | exact cb_drop (by assumption) (by kcj_all)); (case k5 => k_asm); (case kK => first | exact rfl | assumption); (case kd => ktr_room); (case ku => ktr_units); (case hS => k_mem); (case h0 => assumption); (case h1 => assumption); (case h2 => assumption); k_whole)); intro r9 h9 tk9 n9 F9 N9 ho9; (obtain ⟨v8, v9, t8, t7, c9, D9, u9, m9, z9, k9, k8, k7, d9, eN, eY, hu9, ne9, b3, b4, b5⟩ := ho9); subst eN; subst eY; (try dsimp only); (try k_sweep); (try k_fold))
  k_with "call ref" => (k_here; (with_reducible show wpAny _ _ (call (Value.ref 391) _) _ _ _); (k_dflt (refine' CtrW.use (ct_around' _ _ _ _ _ _ _ _ ?hS ?h0 ?h1 ?h2) ?k1 ?k2 ?k3 ?k4 ?k5 ?kK ?kd ?ku ?_; (case k1 => k_asm); (case k2 => k_asm); (case k3 => k_asm); (case k4 => first | k_asm | exact cb_drop (by assumption) (by kcj_all)); (case k5 => k_asm); (case kK => first | exact rfl | assumption); (case kd => ktr_room); (case ku => ktr_units); (case hS => k_mem); (case h0 => assumption); (case h1 => assumption); (case h2 => assumption); k_whole)); intro r9 h9 tk9 n9 F9 N9 ho9; (obtain ⟨v8, v9, t8, t7, c9, Y9, rL, dL, V9, o9, Z9, SL, told9, g0, g1, z1, z2, z3, y1, y2, y3, j0, j1, c2, c3, eN, eY, hT9, hs9, q0, q1, q2, q3, b3, b4, b5⟩ := ho9); subst eN; subst eY; (have big9 := big_of hf0 hf1 he0 he1 q0 q1 q2 q3 (neg := neg9)); (have us9 := un_sm hu9); (have hr9 := around_ne N9 hT9); (try dsimp only); (try k_sweep); (try k_fold))
  k_with "call ref" => (k_here; (with_reducible show wpAny _ _ (call (Value.ref 356) _) _ _ _); (k_dflt (refine' Ctr.use (ct_one3 _ _ _ _ _ _ _ _ _ _ _ [(rL, instObj 317 dL), (dL, lookO z1 z2 z3 y1 y2 y3 V9 told9 SL), (V9, o9), (Z9, tup2 g0 g1 j0 j1 c2)] _ hr9 ?hps ?h0 ?h1 ?h2 ?hS ?hP ?hk) ?k1 ?k2 ?k3 ?k4 ?k5 ?kK ?kd ?ku ?_; (case k1 => k_asm); (case k2 => k_asm); (case k3 => k_asm); (case k4 => first | k_asm | exact cb_drop (by assumption) (by kcj_all)); (case k5 => k_asm); (case kK => first | exact rfl | assumption); (case kd => ktr_room); (case ku => ktr_units); (case hS => k_mem); (case hP => k_mem); (case hk => (intro p hp; repeat (first | exact hp | refine List.Mem.tail _ ?_))); (case hps => exact (Nat.ne_of_gt (by omega))); (case h0 => assumption); (case h1 => assumption); (case h2 => assumption); k_whole)); intro r9 h9 tk9 n9 F9 N9 ho9; (obtain ⟨v8, v9, t8, t7, c9, e9, q9, b3, b4, b5⟩ := ho9); subst e9; (obtain ⟨G9, tG9, e8, hG9⟩ := gp3 q9); clear q9; subst e8; (try dsimp only); (try k_sweep); (try k_fold))
  k_with "binaryOp Add str str" => (k_here; (refine' add_k ?ka ?kb ?kc ?_; (case ka => (first | ((with_reducible refine' KT.len_app ?la4 ?lb4); (case la4 => (first | ((with_reducible refine' KT.len_app ?la3 ?lb3); (case la3 => (first | ((with_reducible refine' KT.len_app ?la2 ?lb2); (case la2 => (first | ((with_reducible refine' KT.len_app ?la1 ?lb1); (case la1 => (first | (with_reducible exact gp_len (by assumption)) | (with_reducible exact nx9.len) | (with_reducible exact un_len2 hu9))); (case lb1 => (first | (with_reducible exact gp_len (by assumption)) | (with_reducible exact nx9.len) | (with_reducible exact un_len2 hu9)))) | (with_reducible exact gp_len (by assumption)) | (with_reducible exact nx9.len) | (with_reducible exact un_len2 hu9))); (case lb2 => (first | ((with_reducible refine' KT.len_app ?la1 ?lb1); (case la1 => (first | (with_reducible exact gp_len (by assumption)) | (with_reducible exact nx9.len) | (with_reducible exact un_len2 hu9))); (case lb1 => (first | (with_reducible exact gp_len (by assumption)) | (with_reducible exact nx9.len) | (with_reducible exact un_len2 hu9)))) | (with_reducible exact gp_len (by assumption)) | (with_reducible exact nx9.len) | (with_reducible exact un_len2 hu9)))) | (with_reducible exact gp_len (by assumption)) | (with_reducible exact nx9.len) | (with_reducible exact un_len2 hu9))); (case lb3 => (first | ((with_reducible refine' KT.len_app ?la1 ?lb1); (case la1 => (first | (with_reducible exact gp_len (by assumption)) | (with_reducible exact nx9.len) | (with_reducible exact un_len2 hu9))); (case lb1 => (first | (with_reducible exact gp_len (by assumption)) | (with_reducible exact nx9.len) | (with_reducible exact un_len2 hu9)))) | (with_reducible exact gp_len (by assumption)) | (with_reducible exact nx9.len) | (with_reducible exact un_len2 hu9)))) | (with_reducible exact gp_len (by assumption)) | (with_reducible exact nx9.len) | (with_reducible exact un_len2 hu9))); (case lb4 => (first | ((with_reducible refine' KT.len_app ?la1 ?lb1); (case la1 => (first | (with_reducible exact gp_len (by assumption)) | (with_reducible exact nx9.len) | (with_reducible exact un_len2 hu9))); (case lb1 => (first | (with_reducible exact gp_len (by assumption)) | (with_reducible exact nx9.len) | (with_reducible exact un_len2 hu9)))) | (with_reducible exact gp_len (by assumption)) | (with_reducible exact nx9.len) | (with_reducible exact un_len2 hu9)))) | (with_reducible exact gp_len (by assumption)) | (with_reducible exact nx9.len) | (with_reducible exact un_len2 hu9))); (case kb => (first | ((with_reducible refine' KT.len_app ?la4 ?lb4); (case la4 => (first | ((with_reducible refine' KT.len_app ?la3 ?lb3); (case la3 => (first | ((with_reducible refine' KT.len_app ?la2 ?lb2); (case la2 => (first | ((with_reducible refine' KT.len_app ?la1 ?lb1); (case la1 => (first | (with_reducible exact gp_len (by assumption)) | (with_reducible exact nx9.len) | (with_reducible exact un_len2 hu9))); (case lb1 => (first | (with_reducible exact gp_len (by assumption)) | (with_reducible exact nx9.len) | (with_reducible exact un_len2 hu9)))) | (with_reducible exact gp_len (by assumption)) | (with_reducible exact nx9.len) | (with_reducible exact un_len2 hu9))); (case lb2 => (first | ((with_reducible refine' KT.len_app ?la1 ?lb1); (case la1 => (first | (with_reducible exact gp_len (by assumption)) | (with_reducible exact nx9.len) | (with_reducible exact un_len2 hu9))); (case lb1 => (first | (with_reducible exact gp_len (by assumption)) | (with_reducible exact nx9.len) | (with_reducible exact un_len2 hu9)))) | (with_reducible exact gp_len (by assumption)) | (with_reducible exact nx9.len) | (with_reducible exact un_len2 hu9)))) | (with_reducible exact gp_len (by assumption)) | (with_reducible exact nx9.len) | (with_reducible exact un_len2 hu9))); (case lb3 => (first | ((with_reducible refine' KT.len_app ?la1 ?lb1); (case la1 => (first | (with_reducible exact gp_len (by assumption)) | (with_reducible exact nx9.len) | (with_reducible exact un_len2 hu9))); (case lb1 => (first | (with_reducible exact gp_len (by assumption)) | (with_reducible exact nx9.len) | (with_reducible exact un_len2 hu9)))) | (with_reducible exact gp_len (by assumption)) | (with_reducible exact nx9.len) | (with_reducible exact un_len2 hu9)))) | (with_reducible exact gp_len (by assumption)) | (with_reducible exact nx9.len) | (with_reducible exact un_len2 hu9))); (case lb4 => (first | ((with_reducible refine' KT.len_app ?la1 ?lb1); (case la1 => (first | (with_reducible exact gp_len (by assumption)) | (with_reducible exact nx9.len) | (with_reducible exact un_len2 hu9))); (case lb1 => (first | (with_reducible exact gp_len (by assumption)) | (with_reducible exact nx9.len) | (with_reducible exact un_len2 hu9)))) | (with_reducible exact gp_len (by assumption)) | (with_reducible exact nx9.len) | (with_reducible exact un_len2 hu9)))) | (with_reducible exact gp_len (by assumption)) | (with_reducible exact nx9.len) | (with_reducible exact un_len2 hu9))); (case kc => exact Nat.le_of_ble_eq_true rfl)); intro t9 tk9)
  k_with "binaryOp Mult int int" => (k_here; (refine mul_int ?_ (by first | exact Sm.ok big9.st big9.s0 | exact Sm.ok big9.sb big9.s1 | exact Sm.ok (Sm.mul big9.sb big9.s1) us9.2 | exact Sm.ok big9.st us9.1 | exact Sm.ok big9.sb us9.2)))
  k_with "call ref" => (k_here; (with_reducible show wpAny _ _ (call (Value.ref 370) _) _ _ _); (first | (have hw9 := lawA (t := topL neg9 f9 e9) (b := botL e9) (f0 := g0) (f1 := g1) (many := m9) (parts := z9) (by with_reducible assumption)) | (have hw9 := lawB (t := topL neg9 f9 e9) (b := botL e9) (f0 := g0) (f1 := g1) (many := m9) (parts := z9) (by with_reducible assumption))); (have hb9 := bb_pos big9 hu9 hw9); (rename News _ _ _ _ => hN9); rcases own_due_N _ hN9 w _ _ rL dL V9 Z9 SL told9 o9 g0 g1 _ _ z1 z2 z3 y1 y2 y3 j0 j1 c2 (by repeat (first | exact List.Mem.head _ | apply List.Mem.tail)) (by repeat (first | exact List.Mem.head _ | apply List.Mem.tail)) (by repeat (first | exact List.Mem.head _ | apply List.Mem.tail)) (by repeat (first | exact List.Mem.head _ | apply List.Mem.tail)) hT9 hs9 (ct_len _ x9 u9 G9.cps.toList neg9 f9 e9 g0 g1 m9 z9 _ _ nx9 big9 (gp_cases hG9) hu9 (y_list G9 x9 u9) hw9) hb9.1 hb9.2.1 hb9.2.2 with ⟨msg9, hm9, hA, hD⟩ | ⟨a9, b9, hA, hD⟩ <;> (first | ((k_dflt (refine' CtrS.use (hA) ?k1 ?k2 ?k3 ?k4 ?k5 ?k6 ?k7 ?k8 KtsTurn.refl ?kK ?kd ?ku ?_; (case k1 => k_asm); (case k2 => k_asm); (case k3 => k_asm); (case k4 => first | k_asm | exact cb_drop (by assumption) (by kcj_all)); (case k5 => k_asm); (case k6 => exact XB.out); (case k7 => exact TB.out); (case k8 => first | assumption | exact dicts_in (by assumption) (by k_asm)); (case kK => first | exact rfl | assumption); (case kd => ktr_room); (case ku => ktr_units); k_whole)); intro r9 g8 h9 tk9 n9 T8 F9 N9 B8 X8 P8 D8 ho9; (obtain ⟨eN, tm9, eY⟩ := ho9); subst eN; subst eY; (try dsimp only); (try k_sweep); (try k_fold)) | (k_dflt (refine' CtrW.use (hA) ?k1 ?k2 ?k3 ?k4 ?k5 ?kK ?kd ?ku ?_; (case k1 => k_asm); (case k2 => k_asm); (case k3 => k_asm); (case k4 => first | k_asm | exact cb_drop (by assumption) (by kcj_all)); (case k5 => k_asm); (case kK => first | exact rfl | assumption); (case kd => ktr_room); (case ku => ktr_units); k_whole)); intro r9 h9 tk9 n9 F9 N9 ho9; (obtain ⟨D9, t9, u9, c9, e9, q9, l9⟩ := OkT.out ho9); clear ho9; subst q9; subst e9; (try k_lt l9); (try dsimp only); (try k_sweep); (try k_fold)))
  k_with "call ref" => (k_here; (with_reducible show wpAny _ _ (call (Value.ref 377) _) _ _ _); (k_dflt (refine' Ctr.use (hD _ _ _) ?k1 ?k2 ?k3 ?k4 ?k5 ?kK ?kd ?ku ?_; (case k1 => k_asm); (case k2 => k_asm); (case k3 => k_asm); (case k4 => first | k_asm | exact cb_drop (by assumption) (by kcj_all)); (case k5 => k_asm); (case kK => first | exact rfl | assumption); (case kd => ktr_room); (case ku => ktr_units); k_whole)); intro r9 h9 tk9 n9 F9 N9 ho9; (first | (obtain ⟨eN, td9, eY⟩ := ho9; subst eN; subst eY) | (obtain ⟨D9, t9, u9, c9, eN, eY, l9⟩ := OkT.out ho9; clear ho9; subst eY; subst eN; (try k_lt l9))); (try dsimp only); (try k_sweep); (try k_fold))
  k_with "compareOp Eq str str" => (refine eq_str_is (beq_self_eq_true _) ?_)
  k_with "execs cons" => ((with_reducible refine wpAny_execs_cons ?_); (try dsimp only); (try k_fold))
  k_steps
  all_goals (refine' hret _ _ _ _ _ ?e1 ?e2 ?e3 ?e4 ?e5 ?e6 ?e7 ⟨_, _, _, _, _, rfl, rfl, b3, b4, b5⟩; (case e2 => with_reducible assumption); (case e1 => with_reducible assumption); (case e3 => (refine news_one (by with_reducible assumption) ?_; (repeat (first | exact List.Mem.head _ | refine List.Mem.tail _ ?_)))); (case e4 => with_reducible assumption); (case e5 => with_reducible assumption); (case e6 => with_reducible assumption); (case e7 => with_reducible assumption))
end SB31
section SB32
theorem fs_no (w : World) (r d V S : Addr) (o : Obj) (h1 h2 h3 : Int) (k1 k2 k3 : Tok) (nw : List (Addr × Obj)) (hr : (r, instObj 317 d) ∈ nw) (hd : (d, lookO h1 h2 h3 k1 k2 k3 V .none S) ∈ nw) (hV : (V, o) ∈ nw) (hT : TabO w V o) : CtrW w 246 13 nw [.ref r] (OkM 16 1 nw) :=
  (ct_fs_none w r d V S o h1 h2 h3 k1 k2 k3 nw hr hd hV hT).mono (Nat.le_refl _) (fun n y h _ => by
      obtain ⟨D, t, u, c, a, b, _⟩ := h
      exact ⟨D, t, u, c, a, b⟩) (fun n y h => by
      obtain ⟨D, t, u, c, a, b, _⟩ := h
      subst b
      intro p hp
      exact .tail _ hp)
theorem wz0 (w : World) (tz : Tok) (nw : List (Addr × Obj)) : CtrX w 179 10 nw [.str (Str.ofString "") tz] 51 (Str.ofString "no number: " ++ (Str.ofString "")) :=
  ct_rd_none w (Str.ofString "") tz 0 0 (Str.ofString "") (Str.ofString "") nw (by decide) (by decide) (by decide) (by kernel_rfl) (by kernel_rfl) (by kernel_rfl) (by kernel_rfl) (by kernel_rfl) (by decide) (by kernel_rfl)
theorem wz1 (w : World) (tz : Tok) (nw : List (Addr × Obj)) : CtrX w 179 10 nw [.str (Str.ofString "x") tz] 51 (Str.ofString "no number: " ++ (Str.ofString "x")) :=
  ct_rd_none w (Str.ofString "x") tz 0 0 (Str.ofString "") (Str.ofString "") nw (by decide) (by decide) (by decide) (by kernel_rfl) (by kernel_rfl) (by kernel_rfl) (by kernel_rfl) (by kernel_rfl) (by decide) (by kernel_rfl)
theorem wz2 (w : World) (tz : Tok) (nw : List (Addr × Obj)) : CtrX w 179 10 nw [.str (Str.ofString "5 5") tz] 51 (Str.ofString "no number: " ++ (Str.ofString "5 5")) :=
  ct_rd_more w (Str.ofString "5 5") tz 0 1 (Str.ofString "") (Str.ofString "5") nw (by decide) (by decide) (by decide) (by kernel_rfl) (by kernel_rfl) (by kernel_rfl) (by kernel_rfl) (by kernel_rfl) 1 0 (by kernel_rfl) (by decide) (by decide) (by decide) (fun h => Bool.noConfusion (h.symm.trans (by kernel_rfl : _ = false))) (by kernel_rfl) (by kernel_rfl)
theorem wz3 (w : World) (tz : Tok) (nw : List (Addr × Obj)) : CtrX w 179 10 nw [.str (Str.ofString "5ex") tz] 51 (Str.ofString "an exponent that is not read") :=
  ct_rd_exbad w (Str.ofString "5ex") tz 0 1 (Str.ofString "") (Str.ofString "5") nw (by decide) (by decide) (by decide) (by kernel_rfl) (by kernel_rfl) (by kernel_rfl) (by kernel_rfl) (by kernel_rfl) (by decide) (by kernel_rfl) (by kernel_rfl) (by kernel_rfl)
theorem wz4 (w : World) (tz : Tok) (nw : List (Addr × Obj)) : CtrX w 179 10 nw [.str (Str.ofString "--5") tz] 51 (Str.ofString "no number: " ++ (Str.ofString "--5")) :=
  ct_rd_none w (Str.ofString "--5") tz 1 1 (Str.ofString "-") (Str.ofString "") nw (by decide) (by decide) (by decide) (by kernel_rfl) (by kernel_rfl) (by kernel_rfl) (by kernel_rfl) (by kernel_rfl) (by decide) (by kernel_rfl)
theorem wz5 (w : World) (tz : Tok) (nw : List (Addr × Obj)) : CtrX w 179 10 nw [.str (Str.ofString "1e60") tz] 51 (Str.ofString "a number that is too great, or too close to 0") :=
  ct_rd_big w (Str.ofString "1e60") tz 0 1 (Str.ofString "") (Str.ofString "1") nw (by decide) (by decide) (by decide) (by kernel_rfl) (by kernel_rfl) (by kernel_rfl) (by kernel_rfl) (by kernel_rfl) (60) 1000000000000000000000000000000000000000000000000000000000000 1 1000000000000000000000000000000000000000000000000000000000000 1000000000000000000000000000000000000000000000000000000000000 1000000000000000000000000000000000000000000000000000000000000000000000000000000000000000000000000000000000000000000000000 (by kernel_rfl) (of_decide_eq_true (p := ∀ c ∈ (Str.ofString "1" ++ Str.ofString "").cps.toList, 48 ≤ c ∧ c ≤ 57) (by kernel_rfl)) (by decide) (fun _ => ⟨(by kernel_rfl), Nat.le_of_ble_eq_true (by kernel_rfl), of_decide_eq_true (by kernel_rfl), of_decide_eq_true (p := ∀ c ∈ (exD (Str.ofString "1e60") 1).cps.toList, 48 ≤ c ∧ c ≤ 57) (by kernel_rfl)⟩) (by kernel_rfl) (by kernel_rfl) (by decide) (by decide) (by kernel_rfl) (by kernel_rfl) (by kernel_rfl) (by kernel_rfl) (by kernel_rfl) (Or.inl (by decide)) (Sm.ok (show Sm 250 1 by unfold Sm; decide) (show Sm 250 1000000000000000000000000000000000000000000000000000000000000 by unfold Sm; decide)) (Sm.ok (show Sm 250 1000000000000000000000000000000000000000000000000000000000000 by unfold Sm; decide) (show Sm 250 1 by unfold Sm; decide)) (Sm.ok (show Sm 250 1000000000000000000000000000000000000000000000000000000000000 by unfold Sm; decide) (show Sm 250 1000000000000000000000000000000000000000000000000000000000000 by unfold Sm; decide))
theorem wz6 (w : World) (tz : Tok) (nw : List (Addr × Obj)) : CtrX w 179 10 nw [.str (Str.ofString "1e-61") tz] 51 (Str.ofString "a number that is too great, or too close to 0") :=
  ct_rd_big w (Str.ofString "1e-61") tz 0 1 (Str.ofString "") (Str.ofString "1") nw (by decide) (by decide) (by decide) (by kernel_rfl) (by kernel_rfl) (by kernel_rfl) (by kernel_rfl) (by kernel_rfl) (-61) 1 10000000000000000000000000000000000000000000000000000000000000 1 10000000000000000000000000000000000000000000000000000000000000000000000000000000000000000000000000000000000000000000000000 1000000000000000000000000000000000000000000000000000000000000 (by kernel_rfl) (of_decide_eq_true (p := ∀ c ∈ (Str.ofString "1" ++ Str.ofString "").cps.toList, 48 ≤ c ∧ c ≤ 57) (by kernel_rfl)) (by decide) (fun _ => ⟨(by kernel_rfl), Nat.le_of_ble_eq_true (by kernel_rfl), of_decide_eq_true (by kernel_rfl), of_decide_eq_true (p := ∀ c ∈ (exD (Str.ofString "1e-61") 1).cps.toList, 48 ≤ c ∧ c ≤ 57) (by kernel_rfl)⟩) (by kernel_rfl) (by kernel_rfl) (by decide) (by decide) (by kernel_rfl) (by kernel_rfl) (by kernel_rfl) (by kernel_rfl) (by kernel_rfl) (Or.inr ⟨by decide, by decide, by decide⟩) (Sm.ok (show Sm 250 1 by unfold Sm; decide) (show Sm 250 1 by unfold Sm; decide)) (Sm.ok (show Sm 250 1000000000000000000000000000000000000000000000000000000000000 by unfold Sm; decide) (show Sm 250 10000000000000000000000000000000000000000000000000000000000000 by unfold Sm; decide)) (Sm.ok (show Sm 250 1 by unfold Sm; decide) (show Sm 250 1000000000000000000000000000000000000000000000000000000000000 by unfold Sm; decide))
theorem wz7 (w : World) (tz : Tok) (nw : List (Addr × Obj)) : CtrX w 179 10 nw [.str (Str.ofString "5,5") tz] 51 (Str.ofString "no number: " ++ (Str.ofString "5,5")) :=
  ct_rd_more w (Str.ofString "5,5") tz 0 1 (Str.ofString "") (Str.ofString "5") nw (by decide) (by decide) (by decide) (by kernel_rfl) (by kernel_rfl) (by kernel_rfl) (by kernel_rfl) (by kernel_rfl) 1 0 (by kernel_rfl) (by decide) (by decide) (by decide) (fun h => Bool.noConfusion (h.symm.trans (by kernel_rfl : _ = false))) (by kernel_rfl) (by kernel_rfl)
theorem wz8 (w : World) (tz : Tok) (nw : List (Addr × Obj)) : CtrX w 179 10 nw [.str (Str.ofString "e5") tz] 51 (Str.ofString "no number: " ++ (Str.ofString "e5")) :=
  ct_rd_none w (Str.ofString "e5") tz 0 0 (Str.ofString "") (Str.ofString "") nw (by decide) (by decide) (by decide) (by kernel_rfl) (by kernel_rfl) (by kernel_rfl) (by kernel_rfl) (by kernel_rfl) (by decide) (by kernel_rfl)
theorem wz9 (w : World) (tz : Tok) (nw : List (Addr × Obj)) : CtrX w 179 10 nw [.str (Str.ofString "5e") tz] 51 (Str.ofString "an exponent that is not read") :=
  ct_rd_exbad w (Str.ofString "5e") tz 0 1 (Str.ofString "") (Str.ofString "5") nw (by decide) (by decide) (by decide) (by kernel_rfl) (by kernel_rfl) (by kernel_rfl) (by kernel_rfl) (by kernel_rfl) (by decide) (by kernel_rfl) (by kernel_rfl) (by kernel_rfl)
theorem wz10 (w : World) (tz : Tok) (nw : List (Addr × Obj)) : CtrX w 179 10 nw [.str (Str.ofString "larger") tz] 51 (Str.ofString "no number: " ++ (Str.ofString "larger")) :=
  ct_rd_none w (Str.ofString "larger") tz 0 0 (Str.ofString "") (Str.ofString "") nw (by decide) (by decide) (by decide) (by kernel_rfl) (by kernel_rfl) (by kernel_rfl) (by kernel_rfl) (by kernel_rfl) (by decide) (by kernel_rfl)
/-- the texts that are no sizes -/
def wrongs : List Str := [(Str.ofString ""), (Str.ofString " "), (Str.ofString "x"), (Str.ofString "5 5"), (Str.ofString "5ex"), (Str.ofString "--5"), (Str.ofString "%"), (Str.ofString "1e60"), (Str.ofString "1e-61px"), (Str.ofString "em"), (Str.ofString "5,5"), (Str.ofString "e5"), (Str.ofString "5e"), (Str.ofString "larger")]
theorem ct_wrong_len (w : World) (x : Str) (hx : x ∈ wrongs) (t : Tok) (vw vp : Value) (nw : List (Addr × Obj)) : CtrX w 210 12 nw [.str x t, vw, vp] 63 (Str.ofString "no length: " ++ x) := by
  simp only [wrongs, List.mem_cons, List.not_mem_nil, or_false] at hx
  rcases hx with rfl | rfl | rfl | rfl | rfl | rfl | rfl | rfl | rfl | rfl | rfl | rfl | rfl | rfl
  · exact ct_length_bad w _ t (Str.ofString "") (Str.ofString "") vw vp (Str.ofString "no number: " ++ (Str.ofString "")) nw (by decide) (by kernel_rfl) (wz0 w)
  · exact ct_length_bad w _ t (Str.ofString "") (Str.ofString "") vw vp (Str.ofString "no number: " ++ (Str.ofString "")) nw (by decide) (by kernel_rfl) (wz0 w)
  · exact ct_length_bad w _ t (Str.ofString "x") (Str.ofString "") vw vp (Str.ofString "no number: " ++ (Str.ofString "x")) nw (by decide) (by kernel_rfl) (wz1 w)
  · exact ct_length_bad w _ t (Str.ofString "5 5") (Str.ofString "") vw vp (Str.ofString "no number: " ++ (Str.ofString "5 5")) nw (by decide) (by kernel_rfl) (wz2 w)
  · exact ct_length_bad w _ t (Str.ofString "5ex") (Str.ofString "") vw vp (Str.ofString "an exponent that is not read") nw (by decide) (by kernel_rfl) (wz3 w)
  · exact ct_length_bad w _ t (Str.ofString "--5") (Str.ofString "") vw vp (Str.ofString "no number: " ++ (Str.ofString "--5")) nw (by decide) (by kernel_rfl) (wz4 w)
  · exact ct_length_bad w _ t (Str.ofString "") (Str.ofString "%") vw vp (Str.ofString "no number: " ++ (Str.ofString "")) nw (by decide) (by kernel_rfl) (wz0 w)
  · exact ct_length_bad w _ t (Str.ofString "1e60") (Str.ofString "") vw vp (Str.ofString "a number that is too great, or too close to 0") nw (by decide) (by kernel_rfl) (wz5 w)
  · exact ct_length_bad w _ t (Str.ofString "1e-61") (Str.ofString "px") vw vp (Str.ofString "a number that is too great, or too close to 0") nw (by decide) (by kernel_rfl) (wz6 w)
  · exact ct_length_bad w _ t (Str.ofString "") (Str.ofString "em") vw vp (Str.ofString "no number: " ++ (Str.ofString "")) nw (by decide) (by kernel_rfl) (wz0 w)
  · exact ct_length_bad w _ t (Str.ofString "5,5") (Str.ofString "") vw vp (Str.ofString "no number: " ++ (Str.ofString "5,5")) nw (by decide) (by kernel_rfl) (wz7 w)
  · exact ct_length_bad w _ t (Str.ofString "e5") (Str.ofString "") vw vp (Str.ofString "no number: " ++ (Str.ofString "e5")) nw (by decide) (by kernel_rfl) (wz8 w)
  · exact ct_length_bad w _ t (Str.ofString "5e") (Str.ofString "") vw vp (Str.ofString "an exponent that is not read") nw (by decide) (by kernel_rfl) (wz9 w)
  · exact ct_length_bad w _ t (Str.ofString "larger") (Str.ofString "") vw vp (Str.ofString "no number: " ++ (Str.ofString "larger")) nw (by decide) (by kernel_rfl) (wz10 w)
/-- the answer at a text that is no size -/
theorem ct_wrong (w : World) (x : Str) (hx : x ∈ wrongs) (tx : Tok) (r d V S : Addr) (o : Obj) (h1 h2 h3 : Int) (k1 k2 k3 : Tok) (news : List (Addr × Obj)) (hr : (r, instObj 317 d) ∈ news) (hd : (d, lookO h1 h2 h3 k1 k2 k3 V .none S) ∈ news) (hV : (V, o) ∈ news) (hT : TabO w V o) :
    CtrS w 370 20 news [.str x tx, .ref r] (fun n y => n = news ∧ ∃ t, y = .str (Str.ofString "no length: " ++ x) t) :=
  ct_answer_bad w x tx r news _ fun t nw hq => ct_own_pass w x t r d V S .none 16 1 _ h1 h2 h3 k1 k2 k3 nw (hq _ hr) (hq _ hd) (fun nw' hq' => fs_no w r d V S o h1 h2 h3 k1 k2 k3 nw' (hq' _ (hq _ hr)) (hq' _ (hq _ hd)) (hq' _ (hq _ hV)) hT) (ct_wrong_len w x hx)
theorem e50 (tz : Tok) (nw : List (Addr × Obj)) : Ctr 179 8 nw [.str (Str.ofString "1e50") tz] (OkT nw 100000000000000000000000000000000000000000000000000 1) := by
  have h := ct_rd_nodot (Str.ofString "1e50") tz 0 1 1 50 100000000000000000000000000000000000000000000000000 1 100000000000000000000000000000000000000000000000000 1000000000000000000000000000000000000000000000000000000000000 100000000000000000000000000000000000000000000000000000000000000000000000000000000000000000000000000000000000000 (Str.ofString "") (Str.ofString "1") (Str.ofString "") false nw (by decide) (by decide) (by decide) (by decide)
    (by kernel_rfl) (by kernel_rfl) (by kernel_rfl) (by kernel_rfl) (by kernel_rfl) rfl rfl (by kernel_rfl) (of_decide_eq_true (p := ∀ c ∈ (Str.ofString "1" ++ Str.ofString "").cps.toList, 48 ≤ c ∧ c ≤ 57) (by kernel_rfl)) (by decide) (fun _ => ⟨by kernel_rfl, Nat.le_of_ble_eq_true (by kernel_rfl), of_decide_eq_true (by kernel_rfl), of_decide_eq_true (p := ∀ c ∈ (exD (Str.ofString "1e50") 1).cps.toList, 48 ≤ c ∧ c ≤ 57) (by kernel_rfl)⟩) (by kernel_rfl) (by kernel_rfl) (by decide) (by decide) (by kernel_rfl) (by kernel_rfl) (by kernel_rfl) (by kernel_rfl) (by kernel_rfl) (by decide) (by decide)
    (Sm.ok (show Sm 250 1 by unfold Sm; decide) (show Sm 250 100000000000000000000000000000000000000000000000000 by unfold Sm; decide)) (Sm.ok (show Sm 250 1000000000000000000000000000000000000000000000000000000000000 by unfold Sm; decide) (show Sm 250 1 by unfold Sm; decide)) (Sm.ok (show Sm 250 100000000000000000000000000000000000000000000000000 by unfold Sm; decide) (show Sm 250 1000000000000000000000000000000000000000000000000000000000000 by unfold Sm; decide)) (by decide) (Sm.mono (show Sm 250 1 by unfold Sm; decide)) (by kernel_rfl)
  exact h
theorem ct_first (w : World) (tx : Tok) (r d V S : Addr) (o : Obj) (h1 h2 h3 : Int) (k1 k2 k3 : Tok) (news : List (Addr × Obj)) (hr : (r, instObj 317 d) ∈ news) (hd : (d, lookO h1 h2 h3 k1 k2 k3 V .none S) ∈ news) (hV : (V, o) ∈ news) (hT : TabO w V o) :
    CtrS w 370 20 news [.str (Str.ofString "1e50") tx, .ref r] (fun n y => n = news ∧ ∃ t, y = .str (Str.ofString "a size of letters that is too great") t) :=
  ct_answer_bad w _ tx r news _ fun t nw hq => ct_own_great w _ t r d V S .none 16 1 100000000000000000000000000000000000000000000000000 1 h1 h2 h3 k1 k2 k3 nw (hq _ hr) (hq _ hd) (fun nw' hq' => fs_no w r d V S o h1 h2 h3 k1 k2 k3 nw' (hq' _ (hq _ hr)) (hq' _ (hq _ hd)) (hq' _ (hq _ hV)) hT)
    (fun t W P t1 t2 t3 t4 c1 c2 nw _ _ => by
      have h := ct_length_pl (Str.ofString "1e50") t (Str.ofString "1e50") (Str.ofString "") 100000000000000000000000000000000000000000000000000 1 (.ref W) (.ref P) nw (by decide) (by kernel_rfl) e50 1 1 (Or.inl ⟨rfl, rfl, rfl⟩) (by decide) (Sm.mono (by unfold Sm; decide : Sm 1 (1 * 1))) (Sm.ok (show Sm 250 100000000000000000000000000000000000000000000000000 by unfold Sm; decide) (show Sm 250 1 by unfold Sm; decide)) (Sm.ok (show Sm 250 1 by unfold Sm; decide) (show Sm 250 1 by unfold Sm; decide)) (by decide) (by decide)
      exact h)
    (by decide) (by decide) (Sm.ok (show Sm 250 100000000000000000000000000000000000000000000000000 by unfold Sm; decide) (show Sm 250 1 by unfold Sm; decide)) (Sm.ok (show Sm 250 0 by unfold Sm; decide) (show Sm 250 1 by unfold Sm; decide)) (Sm.ok (show Sm 250 100000000000000000000000000000000000000000000000000 by unfold Sm; decide) (show Sm 250 1 by unfold Sm; decide)) (by decide)
end SB32
section SB33
theorem ct_one14 (S P : Addr) (v0 v1 : Int) (t0 t1 : Tok) (c c2 : Nat) (a0 a1 a2 a3 a4 a5 a6 a7 a8 a9 a10 a11 a12 a13 : Value) (rest news : List (Addr × Obj)) (hr : ∀ p ∈ rest, p.1 ≠ S) (hPS : P ≠ S) (h0 : 0 ≤ v0) (h1 : 0 ≤ v1) (h2 : v1 < 2147483647) (hS : (S, lst2 v0 v1 t0 t1 c) ∈ news) (hP : (P, W.listOf #[a0, a1, a2, a3, a4, a5, a6, a7, a8, a9, a10, a11, a12, a13] c2) ∈ news) (hk : ∀ p ∈ rest, p ∈ news) :
    Ctr 356 4 news [.ref S, .ref P] (OkOne S rest [a0, a1, a2, a3, a4, a5, a6, a7, a8, a9, a10, a11, a12, a13]) := by
  have hr2 : ∀ p ∈ (P, W.listOf #[a0, a1, a2, a3, a4, a5, a6, a7, a8, a9, a10, a11, a12, a13] c2) :: rest, p.1 ≠ S := fun p hp => by
    rcases List.mem_cons.mp hp with rfl | hp
    · exact hPS
    · exact hr p hp
  refine Ctr.sub (l := (S, lst2 v0 v1 t0 t1 c) :: (P, W.listOf #[a0, a1, a2, a3, a4, a5, a6, a7, a8, a9, a10, a11, a12, a13] c2) :: rest) ?_ (fun p hp => by
    rcases List.mem_cons.mp hp with rfl | hp
    · exact hS
    · rcases List.mem_cons.mp hp with rfl | hp
      · exact hP
      · exact hk p hp)
  (k_with_none; (k_with "binaryOp FloorDiv int int" => (refine floordiv_int (by first | assumption | omega) ?_ (Or.inl (dv_of_sm (by assumption))))); refine mark_use ?_; k_fill; intro _; unfold Ctr; intro w_q mean_q mg_q mb_q dp_q un_q gd_q cn_q cs_q a_q ccd_q cl_q outer_q A_q base_q h_q L_q m_q s_q Q_q E_q B_q F_q X_q N T_q hk_q hdp_q hun_q hret; refine wpAny_call ?_; k_dflt (refine' code_def ?k1 ?k2 ?k3 ?k4 ?k5 ?kA ?kF ?kK ?k6 ?k7 ?k8 ?k9 ?kB ?_ ?c2 ?c3 ?c4 ?c5; (case kA => exact rfl); (case kF => exact rfl); (case kK => assumption); (case k1 => k_asm); (case k2 => k_asm); (case k3 => k_asm); (case k4 => k_asm); (case k5 => k_asm); (case k6 => k_is); (case k7 => k_is); (case k8 => ktr_room); (case k9 => first | exact BindsTo.of_eq rfl | exact binds_K (by k_in) rfl (by k_is) rfl rfl rfl); (case c5 => decide); (case kB => exact locs rfl); (case c2 => exact rfl); (case c3 => exact rfl); (case c4 => exact rfl); k_whole; intro g_r L_r h_r FG_r F_r N_r B_r X_r T_r; (try dsimp only); (try k_lift B_r); (try k_fold); (try ((refine let_AX (P := fun AA9 => wpAny _ AA9 _ _ _ _) ?_); intro AA9))))
  k_with "call ref" => (k_here; (with_reducible show wpAny _ _ (call (Value.ref 349) _) _ _ _); (k_dflt (refine' Ctr.use (ct_take _ _ _ _ _ _ _ _ ((P, W.listOf #[a0, a1, a2, a3, a4, a5, a6, a7, a8, a9, a10, a11, a12, a13] c2) :: rest) _ hr2 h0 h1 h2 (by decide) (by decide) ?hS ?hk) ?k1 ?k2 ?k3 ?k4 ?k5 ?kK ?kd ?ku ?_; (case k1 => k_asm); (case k2 => k_asm); (case k3 => k_asm); (case k4 => first | k_asm | exact cb_drop (by assumption) (by kcj_all)); (case k5 => k_asm); (case kK => first | exact rfl | assumption); (case kd => ktr_room); (case ku => ktr_units); (case hS => k_mem); (case hk => (intro p hp; repeat (first | exact hp | refine List.Mem.tail _ ?_))); k_whole)); intro r9 h9 tk9 n9 F9 N9 ho9; (obtain ⟨r9, v8, v9, t9, t8, t7, c9, e9, q9, b1, b2, b3, b4, b5⟩ := ho9); subst e9; subst q9; (try dsimp only); (try k_sweep); (try k_fold))
  k_with "subscriptTail" => (k_here; (refine sub_list (PySem.IsL.isList (N9 _ (.tail _ (.head _))).1) b1 (by first | exact b2 | (simp; omega)) ?_); intro y9 hy9)
  k_with "execs cons" => ((with_reducible refine wpAny_execs_cons ?_); (try dsimp only); (try ((rename Fr _ _ _ _ => FF9); (revert FF9); (refine let_mX (P := fun mm9 => Fr _ _ _ mm9 → _) ?_); intro mm9 FF9)))
  (repeat' (first | (k_unfold; (try dsimp only)) | (k_end; wrow_close) | (walk1; (try k_fold)) | (dsimp only; walk1; (try k_fold)) | (leave1; (try dsimp only)) | fail "no step"))
  all_goals exact hret _ _ _ _ (by k_asm) (cb_drop (by assumption) (by intro p hp; rcases List.mem_cons.mp hp with rfl | hp; exact .head _; exact .tail _ (.tail _ hp))) ⟨_, _, _, _, _, rfl, by simpa using hy9, b3, b4, b5⟩

theorem CtrP.use {w : World} {J : Addr} {ys : List Value} {ns : List Int} {f : Addr} {dn : Nat} {news : List (Addr × Obj)} {vs : List Value} {Ok : List (Addr × Obj) → Value → Prop}
    {mean : ExcName → Option Value} {mg mb : Str → Option Value} {dp un : Nat} {gd : Option (List Code)} {cn : Str} {cs : Scope} {a : Addr} {ccd : Value} {cl : List (Str × Addr)} {outer : List Env} {A₀ : Around} {base h₀ : Heap} {L : Addr}
    {m : Str → Option Value} {s : Shared} {Q E : Value → Shared → Prop} (C : CtrP w J ys ns f dn news vs Ok)
    (B : Below A₀ base outer h₀) (F : Fr h₀ L s.heap m) (X : (hd.heap_39 w.params).In h₀) (N : News h₀ L s.heap news)
    (T : Top hd.view_39 (looseW hd.view_39 [Str.ofString "MOST_VALUE", Str.ofString "fraction", Str.ofString "MOST_SIZE", Str.ofString "length", Str.ofString "length_styles", Str.ofString "Look"]) mean mg mb h₀) (hJ : h₀.IsList J ys.toArray) (hA : IntsAre ys ns)
    (hk : cs.kind = .function) (hd : dp + dn < recursionLimit) (hu : un + 8 * dn < cLine)
    (ret : ∀ r h' tk' news', Fr h₀ L h' m → News h₀ L h' news' → Ok news' r → Q r { s with heap := h', toks := tk' }) :
    wpAny (model PySem.Challenge.rw_xm0732_01.row.prog w) (ktrTop dp un gd cn cs L a ccd cl outer) (call (.ref f) vs) Q E s :=
  C mean mg mb dp un gd cn cs a ccd cl outer A₀ base h₀ L m s Q E B F X N T hJ hA hk hd hu ret
theorem fr_back {g g' h : Heap} {L : Addr} {m : Str → Option Value} (T : KtsTurn [] g g') (F : Fr g' L h m) : Fr g L h m :=
  ⟨F.ns, fun b o e => F.keep b o (T.other b o e (by simp)), by rw [← T.size]; exact F.above⟩
theorem news_back {g g' h : Heap} {L : Addr} {news : List (Addr × Obj)} (T : KtsTurn [] g g') (N : News g' L h news) : News g L h news := fun p hp => by
  obtain ⟨a, b, c⟩ := N p hp
  refine ⟨a, b, ?_⟩
  cases q : g.get? p.1 with
  | none => rfl
  | some o =>
    rw [T.other _ o q (by simp)] at c
    cases c
theorem CtrS.use0 {w : World} {f : Addr} {dn : Nat} {news : List (Addr × Obj)} {vs : List Value} {Ok : List (Addr × Obj) → Value → Prop}
    {mean : ExcName → Option Value} {mg mb : Str → Option Value} {dp un : Nat} {gd : Option (List Code)} {cn : Str} {cs : Scope} {a : Addr} {ccd : Value} {A₀ : Around} {base h₀ : Heap} {L : Addr}
    {m : Str → Option Value} {s : Shared} {Q E : Value → Shared → Prop} (C : CtrS w f dn news vs Ok)
    (B : Below A₀ base [] h₀) (F : Fr h₀ L s.heap m) (X : (hd.heap_39 w.params).In h₀) (N : News h₀ L s.heap news)
    (T : Top hd.view_39 (looseW hd.view_39 [Str.ofString "MOST_VALUE", Str.ofString "fraction", Str.ofString "MOST_SIZE", Str.ofString "length", Str.ofString "length_styles", Str.ofString "Look"]) mean mg mb h₀) (XB : (hd.heap_39 w.params).In base) (TB : Top hd.view_39 (looseW hd.view_39 [Str.ofString "MOST_VALUE", Str.ofString "fraction", Str.ofString "MOST_SIZE", Str.ofString "length", Str.ofString "length_styles", Str.ofString "Look"]) mean mg mb base)
    (hk : cs.kind = .function) (hd : dp + dn < recursionLimit) (hu : un + 8 * dn < cLine)
    (ret : ∀ r h' tk' news', Fr h₀ L h' m → News h₀ L h' news' → Ok news' r → Q r { s with heap := h', toks := tk' }) :
    wpAny (model PySem.Challenge.rw_xm0732_01.row.prog w) (ktrTop dp un gd cn cs L a ccd [] []) (call (.ref f) vs) Q E s :=
  C mean mg mb dp un gd cn cs a ccd [] A₀ base h₀ h₀ L m s Q E B F X N T XB TB ktsDicts_nil KtsTurn.refl hk hd hu fun r _ h' tk' news' T8 F8 N8 _ _ _ _ ok => ret r h' tk' news' (fr_back T8 F8) (news_back T8 N8) ok
theorem CtrS.sub {w : World} {f : Addr} {dn : Nat} {news l : List (Addr × Obj)} {vs : List Value} {Ok : List (Addr × Obj) → Value → Prop} (C : CtrS w f dn l vs Ok) (h : ∀ p ∈ l, p ∈ news) : CtrS w f dn news vs Ok :=
  fun mean mg mb dp un gd cn cs a ccd outer A₀ base g₀ h₀ L m s Q E B F X N T XB TB D T0 hk hdp hun ret => C mean mg mb dp un gd cn cs a ccd outer A₀ base g₀ h₀ L m s Q E B F X (cb_drop N h) T XB TB D T0 hk hdp hun ret
theorem ct_right' (w : World) (S : Addr) (v0 v1 : Int) (t0 t1 : Tok) (c : Nat) (news : List (Addr × Obj)) (hS : (S, lst2 v0 v1 t0 t1 c) ∈ news) (h0 : 0 ≤ v0) (h1 : 0 ≤ v1) (h2 : v1 < 2147483647) : CtrS w 405 22 news [.ref S] (OkRight S) :=
  (ct_right w S v0 v1 t0 t1 c h0 h1 h2).sub fun p hp => one_in hS hp
theorem OkRight.out {S : Addr} {n : List (Addr × Obj)} {y : Value} (h : OkRight S n y) : ∃ v0 v1 t0 t1 c, n = [(S, lst2 v0 v1 t0 t1 c)] ∧ y = .bool true ∧ 0 ≤ v0 ∧ 0 ≤ v1 ∧ v1 < 2147483647 := h
theorem OkPool.out {news n : List (Addr × Obj)} {y : Value} (h : OkPool news n y) : ∃ S v0 v1 t0 t1 c, n = (S, lst2 v0 v1 t0 t1 c) :: news ∧ y = .ref S ∧ 0 ≤ v0 ∧ 0 ≤ v1 ∧ v1 < 2147483647 := h
theorem OkOne.out {S : Addr} {rest : List (Addr × Obj)} {items : List Value} {n : List (Addr × Obj)} {y : Value} (h : OkOne S rest items n y) : ∃ v0 v1 t0 t1 c, n = (S, lst2 v0 v1 t0 t1 c) :: rest ∧ y ∈ items ∧ 0 ≤ v0 ∧ 0 ≤ v1 ∧ v1 < 2147483647 := h
theorem ite_nt {A B : Prop} (h : B) : if (!true) = true then A else B := by
  rw [if_neg (by decide)]
  exact h
theorem wr14 {y : Value} {t0 t1 t2 t3 t4 t5 t6 t7 t8 t9 t10 t11 t12 t13 : Tok} (q : y ∈ [Value.str (Str.ofString "") t0, Value.str (Str.ofString " ") t1, Value.str (Str.ofString "x") t2, Value.str (Str.ofString "5 5") t3, Value.str (Str.ofString "5ex") t4, Value.str (Str.ofString "--5") t5, Value.str (Str.ofString "%") t6, Value.str (Str.ofString "1e60") t7, Value.str (Str.ofString "1e-61px") t8, Value.str (Str.ofString "em") t9, Value.str (Str.ofString "5,5") t10, Value.str (Str.ofString "e5") t11, Value.str (Str.ofString "5e") t12, Value.str (Str.ofString "larger") t13]) : ∃ f k, y = .str f k ∧ f ∈ wrongs := by
  simp only [List.mem_cons, List.not_mem_nil, or_false] at q
  rcases q with q | q | q | q | q | q | q | q | q | q | q | q | q | q <;> exact ⟨_, _, q, by unfold wrongs; simp⟩
theorem wr_len {x : Str} (h : x ∈ wrongs) : x.length ≤ 20 := by
  simp only [wrongs, List.mem_cons, List.not_mem_nil, or_false] at h
  rcases h with rfl | rfl | rfl | rfl | rfl | rfl | rfl | rfl | rfl | rfl | rfl | rfl | rfl | rfl <;> decide
theorem add_w {prog : Program} {w : World} {A : Around} {E : Value → Shared → Prop} {s : Shared} {x : Str} {t u : Tok} {Q : Value → Shared → Prop} (hx : x ∈ wrongs) (h : ∀ t' tk, Q (.str (Str.ofString "no length: " ++ x) t') { s with toks := tk }) : wpAny (model prog w) A (binaryOp .Add (.str (Str.ofString "no length: ") t) (.str x u)) Q E s :=
  add_str h (by
    have := wr_len hx
    have e : (Str.ofString "no length: ").length = 11 := by decide
    unfold sizeLine
    omega)

theorem zz : PySem.Challenge.rw_xm0732_01.Holds := by
  w_on
  refine holds_law hd_said fun said => ?_
  refine holds_open (q := hd.view_39) (loose := [Str.ofString "MOST_VALUE", Str.ofString "fraction", Str.ofString "MOST_SIZE", Str.ofString "length", Str.ofString "length_styles", Str.ofString "Look"]) (Xt := xt6) (XP := XL hd.view_39 [(Str.ofString "MOST_VALUE", WData.int 1000000000000000000000000000000000000000000000000000000000000), (Str.ofString "MOST_SIZE", WData.int 100000000000000000000000000000000000000000000000000)]) (Yf := Hook.obs HK) (Ya := Hook.val HK) (YP := Hook.says (kHook hd.heap_39 asK (fun _ => by kernel_rfl))) (N := 5332) hd_left (Hook.of HK) (Hook.keeps HK) (fun s e => xl_of s (Bool.and_eq_true_iff.mp e).1) XL.keeps (by rfl) (by rfl) (by rfl) (fun s e => recFacts_of (Bool.and_eq_true_iff.mp e).2) (by rfl) (by first | assumption | decide +kernel) (by decide +kernel) ⟨rfl, rfl, rfl, rfl, rfl, by decide +kernel⟩ ?hw ?hc
  case hw => w_witness2
  k_with_none
  k_fill
  intro w s₀ s₁ mg mb G Y fa o pm cd doc dV kV ho hdd hcd hD hmg hg args vals as hpre hlay hrd hwl hlo
  have KX := kIn_of Y
  have X := (Ground.X G).1
  have V := (Ground.X G).2
  have GL := glob_more (Ground.glob G hd_n hd_i) V
  refine Ground.open G ?_
  intro T B D TE TW
  try (refine guard_noD D (by decide +kernel) ?_; clear D)
  obtain ⟨_, _, M⟩ := bmod_of_top T
  have TA := at_of_top T
  try (obtain ⟨_, _, he, B0⟩ := based_of_top T rfl hmg ho hdd; have he' : cd = _ := he; subst he'; clear he)
  clear hmg
  wrow_args hpre hlay hrd hwl hlo
  all_goals (
    first | refine callC_kw (enter_call ?_) | refine enter_call ?_
    w_top on
    try refine codeAny_mono ?_ (fun _ _ g => GoodW.toG g)
    have K0 := below_caller (Top.heap T)
    w_call any ho hdd hcd hD T F
    clear hdd TA
    k_drop
    skip)
  (all_goals try k_fold)
  k_with "call ref" => (k_here; (with_reducible show wpAny _ _ (call (Value.ref 328) _) _ _ _); (k_dflt (refine' CtrW.use (ct_first_look _ _) ?k1 ?k2 ?k3 ?k4 ?k5 ?kK ?kd ?ku ?_; (case k1 => k_asm); (case k2 => k_asm); (case k3 => k_asm); (case k4 => first | k_asm | exact cb_drop (by assumption) (by kcj_all)); (case k5 => k_asm); (case kK => first | exact rfl | assumption); (case kd => ktr_room); (case ku => ktr_units); k_whole)); intro r9 h9 tk9 n9 F9 N9 ho9; (obtain ⟨r9, d9, V9, S9, o9, a1, a2, a3, k1, k2, k3, e9, q9, lo1, lo2, lo3, lo4⟩ := OkL.out ho9); clear ho9; subst q9; subst e9; (try k_lt lo1); (try dsimp only); (try k_sweep); (try k_fold))
  k_with "call ref" => (k_here; (with_reducible show wpAny _ _ (call (Value.ref 370) _) _ _ _); (k_dflt (refine' CtrS.use0 (ct_wrong _ _ (by assumption) _ _ _ _ _ _ _ _ _ _ _ _ _ ?hr ?hd ?hV (by assumption)) ?k1 ?k2 ?k3 ?k4 ?k5 ?k6 ?k7 ?kK ?kd ?ku ?_; (case k1 => k_asm); (case k2 => k_asm); (case k3 => k_asm); (case k4 => first | k_asm | exact cb_drop (by assumption) (by kcj_all)); (case k5 => k_asm); (case k6 => first | k_asm | assumption); (case k7 => first | k_asm | assumption); (case kK => first | exact rfl | assumption); (case kd => ktr_room); (case ku => ktr_units); (case hr => k_mem); (case hd => k_mem); (case hV => k_mem); k_whole)); intro r9 h9 tk9 n9 F9 N9 ho9; (obtain ⟨eN, tm9, eY⟩ := ho9); subst eN; subst eY; (try dsimp only); (try k_sweep); (try k_fold))
  k_with "call ref" => (k_here; (with_reducible show wpAny _ _ (call (Value.ref 370) _) _ _ _); (k_dflt (refine' CtrS.use0 (ct_first _ _ _ _ _ _ _ _ _ _ _ _ _ _ ?hr ?hd ?hV (by assumption)) ?k1 ?k2 ?k3 ?k4 ?k5 ?k6 ?k7 ?kK ?kd ?ku ?_; (case k1 => k_asm); (case k2 => k_asm); (case k3 => k_asm); (case k4 => first | k_asm | exact cb_drop (by assumption) (by kcj_all)); (case k5 => k_asm); (case k6 => first | k_asm | assumption); (case k7 => first | k_asm | assumption); (case kK => first | exact rfl | assumption); (case kd => ktr_room); (case ku => ktr_units); (case hr => k_mem); (case hd => k_mem); (case hV => k_mem); k_whole)); intro r9 h9 tk9 n9 F9 N9 ho9; (obtain ⟨eN, tm9, eY⟩ := ho9); subst eN; subst eY; (try dsimp only); (try k_sweep); (try k_fold))
  k_with "call ref" => (k_here; (with_reducible show wpAny _ _ (call (Value.ref 342) _) _ _ _); (k_dflt (refine' CtrP.use (ct_pool _ _ _ _ ?hlen _) ?k1 ?k2 ?k3 ?k4 ?k5 ?k6 ?k7 ?kK ?kd ?ku ?_; (case k1 => k_asm); (case k2 => k_asm); (case k3 => k_asm); (case k4 => first | k_asm | exact cb_drop (by assumption) (by kcj_all)); (case k5 => k_asm); (case k6 => assumption); (case k7 => assumption); (case kK => first | exact rfl | assumption); (case kd => ktr_room); (case ku => ktr_units); (case hlen => omega); k_whole)); intro r9 h9 tk9 n9 F9 N9 ho9; (obtain ⟨S9, v8, v9, t8, t7, c9, eN, eY, b3, b4, b5⟩ := OkPool.out ho9); clear ho9; subst eN; subst eY; (try dsimp only); (try k_sweep); (try k_fold))
  k_with "call ref" => (k_here; (with_reducible show wpAny _ _ (call (Value.ref 405) _) _ _ _); (k_dflt (refine' CtrS.use0 (ct_right' _ _ _ _ _ _ _ _ ?hS ?h0 ?h1 ?h2) ?k1 ?k2 ?k3 ?k4 ?k5 ?k6 ?k7 ?kK ?kd ?ku ?_; (case k1 => k_asm); (case k2 => k_asm); (case k3 => k_asm); (case k4 => first | k_asm | exact cb_drop (by assumption) (by kcj_all)); (case k5 => k_asm); (case k6 => first | k_asm | assumption); (case k7 => first | k_asm | assumption); (case kK => first | exact rfl | assumption); (case kd => ktr_room); (case ku => ktr_units); (case hS => k_mem); (case h0 => assumption); (case h1 => assumption); (case h2 => assumption); k_whole)); intro r9 h9 tk9 n9 F9 N9 ho9; (obtain ⟨v8, v9, t8, t7, c9, eN, eY, b3, b4, b5⟩ := OkRight.out ho9); clear ho9; subst eN; subst eY; (try dsimp only); (try k_sweep); (try k_fold))
  k_with "call ref" => (k_here; (with_reducible show wpAny _ _ (call (Value.ref 356) _) _ _ _); (k_dflt (refine' Ctr.use (ct_one14 _ _ _ _ _ _ _ _ _ _ _ _ _ _ _ _ _ _ _ _ _ _ [] _ ?hr ?hps ?h0 ?h1 ?h2 ?hS ?hP ?hk) ?k1 ?k2 ?k3 ?k4 ?k5 ?kK ?kd ?ku ?_; (case k1 => k_asm); (case k2 => k_asm); (case k3 => k_asm); (case k4 => first | k_asm | exact cb_drop (by assumption) (by kcj_all)); (case k5 => k_asm); (case kK => first | exact rfl | assumption); (case kd => ktr_room); (case ku => ktr_units); (case hS => k_mem); (case hP => k_mem); (case hk => (intro p hp; cases hp)); (case hr => (intro p hp; cases hp)); (case hps => exact (Nat.ne_of_gt (by omega))); (case h0 => assumption); (case h1 => assumption); (case h2 => assumption); k_whole)); intro r9 h9 tk9 n9 F9 N9 ho9; (obtain ⟨v8, v9, t8, t7, c9, e9, q9, b3, b4, b5⟩ := OkOne.out ho9); clear ho9; subst e9; (obtain ⟨x9, tx9, e8, hx9⟩ := wr14 q9); clear q9; subst e8; (try dsimp only); (try k_sweep); (try k_fold))
  k_with "binaryOp Add str str" => (k_here; refine add_w (by assumption) ?_; intro t9 tk9)
  k_with "compareOp Eq str str" => (refine eq_str_is (beq_self_eq_true _) ?_)
  k_with "ite" => (with_reducible refine ite_nt ?_)
  k_with "compareOp NotEq str str" => (refine neq_str_is (beq_self_eq_true _) ?_)

  k_with "execs cons" => ((with_reducible refine wpAny_execs_cons ?_); (try dsimp only); (try ((rename Fr _ _ _ _ => FF9); (revert FF9); (refine let_mX (P := fun mm9 => Fr _ _ _ mm9 → _) ?_); intro mm9 FF9)))
  (repeat' (first | (k_unfold; (try dsimp only)) | (k_end; wrow_close) | (walk1; (try k_fold)) | (dsimp only; walk1; (try k_fold)) | (leave1; (try dsimp only)) | fail "no step"))
  (all_goals (try k_data))
  all_goals w_report
end SB33
end Mine
theorem PySem.Challenge.cw_xm0732_01_holds : PySem.Challenge.rw_xm0732_01.Holds := by
  exact Mine.zz
