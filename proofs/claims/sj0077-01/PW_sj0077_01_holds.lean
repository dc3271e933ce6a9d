import PyProof.Rows.All
import Wide.All
import OpenK.AllK
import Wide.FinOn
import PySem.Challenge.RW_sj0077_01

set_option Elab.async false
set_option maxRecDepth 100000
set_option maxHeartbeats 8000000
section
open PySem PySem.W PyProof.Rows
open PySem PySem.W PyProof.Rows
set_option Elab.async false
namespace Mine
set_option maxRecDepth 100000
set_option maxHeartbeats 8000000

/-- the n-th statement of the text, a def: its parameters, its body, its scope -/
noncomputable def arOf (n : Nat) : Arguments := match PySem.Challenge.pw_sj0077_01.main.body[n]? with
  | some (.FunctionDef _ a _ _ _ _ _ _ _ _) => a
  | _ => default
noncomputable def boOf (n : Nat) : List Stmt := match PySem.Challenge.pw_sj0077_01.main.body[n]? with
  | some (.FunctionDef _ _ b _ _ _ _ _ _ _) => b
  | _ => []
noncomputable def scOf (n : Nat) : Scope := match PySem.Challenge.pw_sj0077_01.main.body[n]? with
  | some (.FunctionDef _ _ _ _ _ _ s _ _ _) => s
  | _ => default
/-- the entries of the text's own names, in the order of their coming -/
noncomputable def hd.ents (nm : Value) : Params → List DictEntry := fun P => [.mk (PyData.keyHash P (Str.ofString "__name__")) (Value.str (Str.ofString "__name__") 165) nm, .mk (PyData.keyHash P (Str.ofString "__doc__")) (Value.str (Str.ofString "__doc__") 166) Value.none, .mk (PyData.keyHash P (Str.ofString "__package__")) (Value.str (Str.ofString "__package__") 167) Value.none, .mk (PyData.keyHash P (Str.ofString "__loader__")) (Value.str (Str.ofString "__loader__") 168) (Value.builtin "__main__.__loader__#opaque"), .mk (PyData.keyHash P (Str.ofString "__spec__")) (Value.str (Str.ofString "__spec__") 169) Value.none, .mk (PyData.keyHash P (Str.ofString "__annotations__")) (Value.str (Str.ofString "__annotations__") 170) (Value.ref 6), .mk (PyData.keyHash P (Str.ofString "__builtins__")) (Value.str (Str.ofString "__builtins__") 171) (Value.ref 4), .mk (PyData.keyHash P (Str.ofString "__file__")) (Value.str (Str.ofString "__file__") 173) (Value.str (Str.ofString "/claim/cut.py") 172), .mk (PyData.keyHash P (Str.ofString "__cached__")) (Value.str (Str.ofString "__cached__") 174) Value.none, .mk (PyData.keyHash P (Str.ofString "GmpError")) (Value.str (Str.ofString "GmpError") 208) (Value.ref 24), .mk (PyData.keyHash P (Str.ofString "DivisionByZero")) (Value.str (Str.ofString "DivisionByZero") 224) (Value.ref 37), .mk (PyData.keyHash P (Str.ofString "OutOfRange")) (Value.str (Str.ofString "OutOfRange") 240) (Value.ref 49), .mk (PyData.keyHash P (Str.ofString "normal")) (Value.str (Str.ofString "normal") 248) (Value.ref 58), .mk (PyData.keyHash P (Str.ofString "compare")) (Value.str (Str.ofString "compare") 257) (Value.ref 65), .mk (PyData.keyHash P (Str.ofString "add")) (Value.str (Str.ofString "add") 270) (Value.ref 72), .mk (PyData.keyHash P (Str.ofString "sub")) (Value.str (Str.ofString "sub") 284) (Value.ref 79), .mk (PyData.keyHash P (Str.ofString "divrem_limb")) (Value.str (Str.ofString "divrem_limb") 296) (Value.ref 86), .mk (PyData.keyHash P (Str.ofString "shift_left")) (Value.str (Str.ofString "shift_left") 311) (Value.ref 93), .mk (PyData.keyHash P (Str.ofString "shift_right")) (Value.str (Str.ofString "shift_right") 326) (Value.ref 100), .mk (PyData.keyHash P (Str.ofString "bits")) (Value.str (Str.ofString "bits") 334) (Value.ref 107), .mk (PyData.keyHash P (Str.ofString "need_count")) (Value.str (Str.ofString "need_count") 343) (Value.ref 114), .mk (PyData.keyHash P (Str.ofString "doubled_pair")) (Value.str (Str.ofString "doubled_pair") 355) (Value.ref 121), .mk (PyData.keyHash P (Str.ofString "fibonacci_pair")) (Value.str (Str.ofString "fibonacci_pair") 366) (Value.ref 128), .mk (PyData.keyHash P (Str.ofString "mul_school")) (Value.str (Str.ofString "mul_school") 384) (Value.ref 135), .mk (PyData.keyHash P (Str.ofString "divrem_small")) (Value.str (Str.ofString "divrem_small") 395) (Value.ref 142), .mk (PyData.keyHash P (Str.ofString "guessed_limb")) (Value.str (Str.ofString "guessed_limb") 409) (Value.ref 149), .mk (PyData.keyHash P (Str.ofString "take_away")) (Value.str (Str.ofString "take_away") 425) (Value.ref 156), .mk (PyData.keyHash P (Str.ofString "put_back")) (Value.str (Str.ofString "put_back") 439) (Value.ref 163), .mk (PyData.keyHash P (Str.ofString "divide_rows")) (Value.str (Str.ofString "divide_rows") 452) (Value.ref 170), .mk (PyData.keyHash P (Str.ofString "divrem_school")) (Value.str (Str.ofString "divrem_school") 465) (Value.ref 177), .mk (PyData.keyHash P (Str.ofString "_law_hopped")) (Value.str (Str.ofString "_law_hopped") 475) (Value.ref 184), .mk (PyData.keyHash P (Str.ofString "_law_summed")) (Value.str (Str.ofString "_law_summed") 486) (Value.ref 191), .mk (PyData.keyHash P (Str.ofString "_law_apart")) (Value.str (Str.ofString "_law_apart") 500) (Value.ref 198), .mk (PyData.keyHash P (Str.ofString "_law_gone")) (Value.str (Str.ofString "_law_gone") 512) (Value.ref 205), .mk (PyData.keyHash P (Str.ofString "_law_are_right")) (Value.str (Str.ofString "_law_are_right") 523) (Value.ref 212), .mk (PyData.keyHash P (Str.ofString "_law_fit")) (Value.str (Str.ofString "_law_fit") 536) (Value.ref 219), .mk (PyData.keyHash P (Str.ofString "law")) (Value.str (Str.ofString "law") 542) (Value.ref 224)]
/-- the made codes with their places, in the order of their coming -/
noncomputable def hd.kids : List Value := Value.int 2 0 :: Value.int 0 0 :: Value.ref 20 :: Value.int 4 0 :: Value.int 0 0 :: Value.ref 33 :: Value.int 6 0 :: Value.int 0 0 :: Value.ref 45 :: Value.int 8 0 :: Value.int 0 0 :: Value.ref 57 :: Value.int 13 0 :: Value.int 0 0 :: Value.ref 64 :: Value.int 20 0 :: Value.int 0 0 :: Value.ref 71 :: Value.int 35 0 :: Value.int 0 0 :: Value.ref 78 :: Value.int 44 0 :: Value.int 0 0 :: Value.ref 85 :: Value.int 53 0 :: Value.int 0 0 :: Value.ref 92 :: Value.int 65 0 :: Value.int 0 0 :: Value.ref 99 :: Value.int 72 0 :: Value.int 0 0 :: Value.ref 106 :: Value.int 75 0 :: Value.int 0 0 :: Value.ref 113 :: Value.int 78 0 :: Value.int 0 0 :: Value.ref 120 :: Value.int 82 0 :: Value.int 0 0 :: Value.ref 127 :: Value.int 92 0 :: Value.int 0 0 :: Value.ref 134 :: Value.int 102 0 :: Value.int 0 0 :: Value.ref 141 :: Value.int 105 0 :: Value.int 0 0 :: Value.ref 148 :: Value.int 113 0 :: Value.int 0 0 :: Value.ref 155 :: Value.int 122 0 :: Value.int 0 0 :: Value.ref 162 :: Value.int 129 0 :: Value.int 0 0 :: Value.ref 169 :: Value.int 139 0 :: Value.int 0 0 :: Value.ref 176 :: Value.int 153 0 :: Value.int 0 0 :: Value.ref 183 :: Value.int 158 0 :: Value.int 0 0 :: Value.ref 190 :: Value.int 162 0 :: Value.int 0 0 :: Value.ref 197 :: Value.int 168 0 :: Value.int 0 0 :: Value.ref 204 :: Value.int 181 0 :: Value.int 0 0 :: Value.ref 211 :: Value.int 187 0 :: Value.int 0 0 :: Value.ref 218 :: Value.int 195 0 :: Value.int 0 0 :: Value.ref 223 :: []
noncomputable def hd.low : Params → List Obj := fun P => boot_o_4 P :: boot_o_5 P :: boot_o_6 P :: boot_o_7 P :: boot_o_8 P :: boot_o_9 P :: boot_o_10 P :: Obj.mk (Value.type "tuple") none (Data.seq #[]) #[] :: []
/-- all objects from the thirteenth on, as the top leaves them -/
noncomputable def hd.tail : Params → List Obj := fun P =>
  Obj.mk (Value.type "code") none (Data.fields #[Value.str (Str.ofString "<module>") 182, Value.str (Str.ofString "<module>") 183, Value.str (Str.ofString "/claim/cut.py") 184, Value.int 1 0, Value.int 0 0, Value.int 0 0, Value.int 0 0, Value.int 0 0, Value.ref 11, Value.bool false, Value.int 181 0, Value.ref 12, Value.none, Value.none, Value.none, Value.none, Value.int 185 0, Value.int 1 0, Value.str (Str.ofString "/claim/cut.py") 186]) #[] ::
   Obj.mk (Value.type "frame") none Data.plain #[some (Value.ref 13), some (Value.ref 3), some (Value.ref 3), none, some (Value.str (Str.ofString "__main__") 164), none, some (Value.ref 0)] ::
   Obj.mk (Value.type "tuple") none (Data.seq #[Value.type "Exception"]) #[] ::
   Obj.mk (Value.type "builtin_function_or_method") none (Data.fields #[Value.builtin "type.__prepare__", Value.type "type"]) #[] ::
   Obj.mk (Value.type "dict") none (Data.dict #[DictEntry.mk (PyData.keyHash P (Str.ofString "__module__")) (Value.str (Str.ofString "__module__") 196) (Value.str (Str.ofString "gmp.limbs") 187), DictEntry.mk (PyData.keyHash P (Str.ofString "__qualname__")) (Value.str (Str.ofString "__qualname__") 198) (Value.str (Str.ofString "GmpError") 197), DictEntry.mk (PyData.keyHash P (Str.ofString "__firstlineno__")) (Value.str (Str.ofString "__firstlineno__") 200) (Value.int 2 199), DictEntry.mk (PyData.keyHash P (Str.ofString "__static_attributes__")) (Value.str (Str.ofString "__static_attributes__") 201) (Value.ref 22)] 4) #[] ::
   Obj.mk (Value.type "tuple") none (Data.seq #[]) #[] ::
   Obj.mk Value.none none (Data.fields #[]) #[] ::
   Obj.mk (Value.type "code") none (Data.fields #[Value.str (Str.ofString "GmpError") 191, Value.str (Str.ofString "GmpError") 192, Value.str (Str.ofString "/claim/cut.py") 193, Value.int 2 0, Value.int 0 0, Value.int 0 0, Value.int 0 0, Value.int 0 0, Value.ref 18, Value.bool false, Value.int 181 0, Value.ref 19, Value.none, Value.none, Value.none, Value.none, Value.int 194 0, Value.int 2 0, Value.str (Str.ofString "/claim/cut.py") 195]) #[] ::
   Obj.mk (Value.type "frame") none Data.plain #[some (Value.ref 20), some (Value.ref 3), some (Value.ref 17), none, some (Value.str (Str.ofString "gmp.limbs") 187), none, some (Value.ref 0)] ::
   Obj.mk (Value.type "tuple") none (Data.seq #[]) #[] ::
   Obj.mk (Value.type "dict") none (Data.dict #[DictEntry.mk (PyData.keyHash P (Str.ofString "__module__")) (Value.str (Str.ofString "__module__") 196) (Value.str (Str.ofString "gmp.limbs") 187), DictEntry.mk (PyData.keyHash P (Str.ofString "__firstlineno__")) (Value.str (Str.ofString "__firstlineno__") 200) (Value.int 2 199), DictEntry.mk (PyData.keyHash P (Str.ofString "__static_attributes__")) (Value.str (Str.ofString "__static_attributes__") 201) (Value.ref 22), DictEntry.mk (PyData.keyHash P (Str.ofString "__weakref__")) (Value.str (Str.ofString "__weakref__") 203) (Value.ref 25), DictEntry.mk (PyData.keyHash P (Str.ofString "__doc__")) (Value.str (Str.ofString "__doc__") 204) Value.none] 3) #[] ::
   Obj.mk (Value.type "type") none (Data.cls (ClassData.mk (Str.ofString "GmpError") [Value.type "Exception"] [Value.ref 24, Value.type "Exception", Value.type "BaseException", Value.type "object"] 23 (Str.ofString "GmpError") true [] [Value.ref 37, Value.ref 49] false none false)) #[some (Value.ref 15), none, some (Value.str (Str.ofString "GmpError") 189), some (Value.str (Str.ofString "GmpError") 197), some (Value.builtin "Exception.__new__"), some (Value.bool true)] ::
   Obj.mk (Value.type "getset_descriptor") none (Data.fields #[Value.str (Str.ofString "__weakref__") 202, Value.ref 24, Value.builtin "ExceptionGroup.__weakref__", Value.none]) #[] ::
   Obj.mk (Value.type "super") none (Data.fields #[Value.ref 24, Value.ref 24, Value.ref 24]) #[] ::
   Obj.mk (Value.type "builtin_function_or_method") none (Data.fields #[Value.builtin "object.__init_subclass__", Value.ref 24]) #[] ::
   Obj.mk (Value.type "tuple") none (Data.seq #[Value.ref 24]) #[] ::
   Obj.mk (Value.type "builtin_function_or_method") none (Data.fields #[Value.builtin "type.__prepare__", Value.type "type"]) #[] ::
   Obj.mk (Value.type "dict") none (Data.dict #[DictEntry.mk (PyData.keyHash P (Str.ofString "__module__")) (Value.str (Str.ofString "__module__") 216) (Value.str (Str.ofString "gmp.limbs") 187), DictEntry.mk (PyData.keyHash P (Str.ofString "__qualname__")) (Value.str (Str.ofString "__qualname__") 218) (Value.str (Str.ofString "DivisionByZero") 217), DictEntry.mk (PyData.keyHash P (Str.ofString "__firstlineno__")) (Value.str (Str.ofString "__firstlineno__") 220) (Value.int 4 219), DictEntry.mk (PyData.keyHash P (Str.ofString "__static_attributes__")) (Value.str (Str.ofString "__static_attributes__") 221) (Value.ref 35)] 4) #[] ::
   Obj.mk (Value.type "tuple") none (Data.seq #[]) #[] ::
   Obj.mk Value.none none (Data.fields #[]) #[] ::
   Obj.mk (Value.type "code") none (Data.fields #[Value.str (Str.ofString "DivisionByZero") 211, Value.str (Str.ofString "DivisionByZero") 212, Value.str (Str.ofString "/claim/cut.py") 213, Value.int 4 0, Value.int 0 0, Value.int 0 0, Value.int 0 0, Value.int 0 0, Value.ref 31, Value.bool false, Value.int 181 0, Value.ref 32, Value.none, Value.none, Value.none, Value.none, Value.int 214 0, Value.int 4 0, Value.str (Str.ofString "/claim/cut.py") 215]) #[] ::
   Obj.mk (Value.type "frame") none Data.plain #[some (Value.ref 33), some (Value.ref 3), some (Value.ref 30), none, some (Value.str (Str.ofString "gmp.limbs") 187), none, some (Value.ref 0)] ::
   Obj.mk (Value.type "tuple") none (Data.seq #[]) #[] ::
   Obj.mk (Value.type "dict") none (Data.dict #[DictEntry.mk (PyData.keyHash P (Str.ofString "__module__")) (Value.str (Str.ofString "__module__") 216) (Value.str (Str.ofString "gmp.limbs") 187), DictEntry.mk (PyData.keyHash P (Str.ofString "__firstlineno__")) (Value.str (Str.ofString "__firstlineno__") 220) (Value.int 4 219), DictEntry.mk (PyData.keyHash P (Str.ofString "__static_attributes__")) (Value.str (Str.ofString "__static_attributes__") 221) (Value.ref 35), DictEntry.mk (PyData.keyHash P (Str.ofString "__doc__")) (Value.str (Str.ofString "__doc__") 222) Value.none] 2) #[] ::
   Obj.mk (Value.type "type") none (Data.cls (ClassData.mk (Str.ofString "DivisionByZero") [Value.ref 24] [Value.ref 37, Value.ref 24, Value.type "Exception", Value.type "BaseException", Value.type "object"] 36 (Str.ofString "DivisionByZero") true [] [] false none false)) #[some (Value.ref 28), none, some (Value.str (Str.ofString "DivisionByZero") 209), some (Value.str (Str.ofString "DivisionByZero") 217), some (Value.builtin "Exception.__new__"), some (Value.bool true)] ::
   Obj.mk (Value.type "super") none (Data.fields #[Value.ref 37, Value.ref 37, Value.ref 37]) #[] ::
   Obj.mk (Value.type "builtin_function_or_method") none (Data.fields #[Value.builtin "object.__init_subclass__", Value.ref 37]) #[] ::
   Obj.mk (Value.type "tuple") none (Data.seq #[Value.ref 24]) #[] ::
   Obj.mk (Value.type "builtin_function_or_method") none (Data.fields #[Value.builtin "type.__prepare__", Value.type "type"]) #[] ::
   Obj.mk (Value.type "dict") none (Data.dict #[DictEntry.mk (PyData.keyHash P (Str.ofString "__module__")) (Value.str (Str.ofString "__module__") 232) (Value.str (Str.ofString "gmp.limbs") 187), DictEntry.mk (PyData.keyHash P (Str.ofString "__qualname__")) (Value.str (Str.ofString "__qualname__") 234) (Value.str (Str.ofString "OutOfRange") 233), DictEntry.mk (PyData.keyHash P (Str.ofString "__firstlineno__")) (Value.str (Str.ofString "__firstlineno__") 236) (Value.int 6 235), DictEntry.mk (PyData.keyHash P (Str.ofString "__static_attributes__")) (Value.str (Str.ofString "__static_attributes__") 237) (Value.ref 47)] 4) #[] ::
   Obj.mk (Value.type "tuple") none (Data.seq #[]) #[] ::
   Obj.mk Value.none none (Data.fields #[]) #[] ::
   Obj.mk (Value.type "code") none (Data.fields #[Value.str (Str.ofString "OutOfRange") 227, Value.str (Str.ofString "OutOfRange") 228, Value.str (Str.ofString "/claim/cut.py") 229, Value.int 6 0, Value.int 0 0, Value.int 0 0, Value.int 0 0, Value.int 0 0, Value.ref 43, Value.bool false, Value.int 181 0, Value.ref 44, Value.none, Value.none, Value.none, Value.none, Value.int 230 0, Value.int 6 0, Value.str (Str.ofString "/claim/cut.py") 231]) #[] ::
   Obj.mk (Value.type "frame") none Data.plain #[some (Value.ref 45), some (Value.ref 3), some (Value.ref 42), none, some (Value.str (Str.ofString "gmp.limbs") 187), none, some (Value.ref 0)] ::
   Obj.mk (Value.type "tuple") none (Data.seq #[]) #[] ::
   Obj.mk (Value.type "dict") none (Data.dict #[DictEntry.mk (PyData.keyHash P (Str.ofString "__module__")) (Value.str (Str.ofString "__module__") 232) (Value.str (Str.ofString "gmp.limbs") 187), DictEntry.mk (PyData.keyHash P (Str.ofString "__firstlineno__")) (Value.str (Str.ofString "__firstlineno__") 236) (Value.int 6 235), DictEntry.mk (PyData.keyHash P (Str.ofString "__static_attributes__")) (Value.str (Str.ofString "__static_attributes__") 237) (Value.ref 47), DictEntry.mk (PyData.keyHash P (Str.ofString "__doc__")) (Value.str (Str.ofString "__doc__") 238) Value.none] 2) #[] ::
   Obj.mk (Value.type "type") none (Data.cls (ClassData.mk (Str.ofString "OutOfRange") [Value.ref 24] [Value.ref 49, Value.ref 24, Value.type "Exception", Value.type "BaseException", Value.type "object"] 48 (Str.ofString "OutOfRange") true [] [] false none false)) #[some (Value.ref 40), none, some (Value.str (Str.ofString "OutOfRange") 225), some (Value.str (Str.ofString "OutOfRange") 233), some (Value.builtin "Exception.__new__"), some (Value.bool true)] ::
   Obj.mk (Value.type "super") none (Data.fields #[Value.ref 49, Value.ref 49, Value.ref 49]) #[] ::
   Obj.mk (Value.type "builtin_function_or_method") none (Data.fields #[Value.builtin "object.__init_subclass__", Value.ref 49]) #[] ::
   Obj.mk (Value.type "tuple") none (Data.seq #[]) #[] ::
   Obj.mk Value.none none (Data.fields #[]) #[] ::
   Obj.mk (Value.type "tuple") none (Data.seq #[Value.str (Str.ofString "a") 244, Value.str (Str.ofString "end") 245]) #[] ::
   Obj.mk (Value.type "tuple") none (Data.seq #[]) #[] ::
   Obj.mk Value.none none (Data.func (FuncData.mk (Str.ofString "normal") (Str.ofString "normal") (arOf 4) (.stmts (boOf 4)) (scOf 4) 0 [] Value.none Value.none Value.none Value.none none Value.none Value.none 0)) #[] ::
   Obj.mk (Value.type "code") none (Data.fields #[Value.str (Str.ofString "normal") 241, Value.str (Str.ofString "normal") 242, Value.str (Str.ofString "/claim/cut.py") 243, Value.int 8 0, Value.int 1 0, Value.int 0 0, Value.int 0 0, Value.int 3 0, Value.ref 52, Value.bool true, Value.int 181 0, Value.ref 53, Value.none, Value.ref 54, Value.ref 55, Value.ref 56, Value.int 246 0, Value.int 8 0, Value.str (Str.ofString "/claim/cut.py") 247]) #[] ::
   Obj.mk (Value.type "function") none (Data.func (FuncData.mk (Str.ofString "normal") (Str.ofString "normal") (arOf 4) (.stmts (boOf 4)) (scOf 4) 3 [] Value.none Value.none Value.none (Value.str (Str.ofString "gmp.limbs") 187) none (Value.ref 57) Value.none 0)) #[] ::
   Obj.mk (Value.type "tuple") none (Data.seq #[]) #[] ::
   Obj.mk Value.none none (Data.fields #[]) #[] ::
   Obj.mk (Value.type "tuple") none (Data.seq #[Value.str (Str.ofString "a") 252, Value.str (Str.ofString "b") 253, Value.str (Str.ofString "at") 254]) #[] ::
   Obj.mk (Value.type "tuple") none (Data.seq #[]) #[] ::
   Obj.mk Value.none none (Data.func (FuncData.mk (Str.ofString "compare") (Str.ofString "compare") (arOf 5) (.stmts (boOf 5)) (scOf 5) 0 [] Value.none Value.none Value.none Value.none none Value.none Value.none 0)) #[] ::
   Obj.mk (Value.type "code") none (Data.fields #[Value.str (Str.ofString "compare") 249, Value.str (Str.ofString "compare") 250, Value.str (Str.ofString "/claim/cut.py") 251, Value.int 13 0, Value.int 2 0, Value.int 0 0, Value.int 0 0, Value.int 3 0, Value.ref 59, Value.bool true, Value.int 181 0, Value.ref 60, Value.none, Value.ref 61, Value.ref 62, Value.ref 63, Value.int 255 0, Value.int 13 0, Value.str (Str.ofString "/claim/cut.py") 256]) #[] ::
   Obj.mk (Value.type "function") none (Data.func (FuncData.mk (Str.ofString "compare") (Str.ofString "compare") (arOf 5) (.stmts (boOf 5)) (scOf 5) 3 [] Value.none Value.none Value.none (Value.str (Str.ofString "gmp.limbs") 187) none (Value.ref 64) Value.none 0)) #[] ::
   Obj.mk (Value.type "tuple") none (Data.seq #[]) #[] ::
   Obj.mk Value.none none (Data.fields #[]) #[] ::
   Obj.mk (Value.type "tuple") none (Data.seq #[Value.str (Str.ofString "a") 261, Value.str (Str.ofString "b") 262, Value.str (Str.ofString "w") 263, Value.str (Str.ofString "found") 264, Value.str (Str.ofString "carry") 265, Value.str (Str.ofString "mask") 266, Value.str (Str.ofString "at") 267]) #[] ::
   Obj.mk (Value.type "tuple") none (Data.seq #[]) #[] ::
   Obj.mk Value.none none (Data.func (FuncData.mk (Str.ofString "add") (Str.ofString "add") (arOf 6) (.stmts (boOf 6)) (scOf 6) 0 [] Value.none Value.none Value.none Value.none none Value.none Value.none 0)) #[] ::
   Obj.mk (Value.type "code") none (Data.fields #[Value.str (Str.ofString "add") 258, Value.str (Str.ofString "add") 259, Value.str (Str.ofString "/claim/cut.py") 260, Value.int 20 0, Value.int 3 0, Value.int 0 0, Value.int 0 0, Value.int 3 0, Value.ref 66, Value.bool true, Value.int 181 0, Value.ref 67, Value.none, Value.ref 68, Value.ref 69, Value.ref 70, Value.int 268 0, Value.int 20 0, Value.str (Str.ofString "/claim/cut.py") 269]) #[] ::
   Obj.mk (Value.type "function") none (Data.func (FuncData.mk (Str.ofString "add") (Str.ofString "add") (arOf 6) (.stmts (boOf 6)) (scOf 6) 3 [] Value.none Value.none Value.none (Value.str (Str.ofString "gmp.limbs") 187) none (Value.ref 71) Value.none 0)) #[] ::
   Obj.mk (Value.type "tuple") none (Data.seq #[]) #[] ::
   Obj.mk Value.none none (Data.fields #[]) #[] ::
   Obj.mk (Value.type "tuple") none (Data.seq #[Value.str (Str.ofString "a") 274, Value.str (Str.ofString "b") 275, Value.str (Str.ofString "w") 276, Value.str (Str.ofString "found") 277, Value.str (Str.ofString "borrow") 278, Value.str (Str.ofString "base") 279, Value.str (Str.ofString "at") 280, Value.str (Str.ofString "limb") 281]) #[] ::
   Obj.mk (Value.type "tuple") none (Data.seq #[]) #[] ::
   Obj.mk Value.none none (Data.func (FuncData.mk (Str.ofString "sub") (Str.ofString "sub") (arOf 7) (.stmts (boOf 7)) (scOf 7) 0 [] Value.none Value.none Value.none Value.none none Value.none Value.none 0)) #[] ::
   Obj.mk (Value.type "code") none (Data.fields #[Value.str (Str.ofString "sub") 271, Value.str (Str.ofString "sub") 272, Value.str (Str.ofString "/claim/cut.py") 273, Value.int 35 0, Value.int 3 0, Value.int 0 0, Value.int 0 0, Value.int 3 0, Value.ref 73, Value.bool true, Value.int 181 0, Value.ref 74, Value.none, Value.ref 75, Value.ref 76, Value.ref 77, Value.int 282 0, Value.int 35 0, Value.str (Str.ofString "/claim/cut.py") 283]) #[] ::
   Obj.mk (Value.type "function") none (Data.func (FuncData.mk (Str.ofString "sub") (Str.ofString "sub") (arOf 7) (.stmts (boOf 7)) (scOf 7) 3 [] Value.none Value.none Value.none (Value.str (Str.ofString "gmp.limbs") 187) none (Value.ref 78) Value.none 0)) #[] ::
   Obj.mk (Value.type "tuple") none (Data.seq #[]) #[] ::
   Obj.mk Value.none none (Data.fields #[]) #[] ::
   Obj.mk (Value.type "tuple") none (Data.seq #[Value.str (Str.ofString "a") 288, Value.str (Str.ofString "limb") 289, Value.str (Str.ofString "w") 290, Value.str (Str.ofString "found") 291, Value.str (Str.ofString "rest") 292, Value.str (Str.ofString "at") 293]) #[] ::
   Obj.mk (Value.type "tuple") none (Data.seq #[]) #[] ::
   Obj.mk Value.none none (Data.func (FuncData.mk (Str.ofString "divrem_limb") (Str.ofString "divrem_limb") (arOf 8) (.stmts (boOf 8)) (scOf 8) 0 [] Value.none Value.none Value.none Value.none none Value.none Value.none 0)) #[] ::
   Obj.mk (Value.type "code") none (Data.fields #[Value.str (Str.ofString "divrem_limb") 285, Value.str (Str.ofString "divrem_limb") 286, Value.str (Str.ofString "/claim/cut.py") 287, Value.int 44 0, Value.int 3 0, Value.int 0 0, Value.int 0 0, Value.int 3 0, Value.ref 80, Value.bool true, Value.int 181 0, Value.ref 81, Value.none, Value.ref 82, Value.ref 83, Value.ref 84, Value.int 294 0, Value.int 44 0, Value.str (Str.ofString "/claim/cut.py") 295]) #[] ::
   Obj.mk (Value.type "function") none (Data.func (FuncData.mk (Str.ofString "divrem_limb") (Str.ofString "divrem_limb") (arOf 8) (.stmts (boOf 8)) (scOf 8) 3 [] Value.none Value.none Value.none (Value.str (Str.ofString "gmp.limbs") 187) none (Value.ref 85) Value.none 0)) #[] ::
   Obj.mk (Value.type "tuple") none (Data.seq #[]) #[] ::
   Obj.mk Value.none none (Data.fields #[]) #[] ::
   Obj.mk (Value.type "tuple") none (Data.seq #[Value.str (Str.ofString "a") 300, Value.str (Str.ofString "n") 301, Value.str (Str.ofString "w") 302, Value.str (Str.ofString "spots") 303, Value.str (Str.ofString "few") 304, Value.str (Str.ofString "found") 305, Value.str (Str.ofString "carry") 306, Value.str (Str.ofString "mask") 307, Value.str (Str.ofString "one") 308]) #[] ::
   Obj.mk (Value.type "tuple") none (Data.seq #[]) #[] ::
   Obj.mk Value.none none (Data.func (FuncData.mk (Str.ofString "shift_left") (Str.ofString "shift_left") (arOf 9) (.stmts (boOf 9)) (scOf 9) 0 [] Value.none Value.none Value.none Value.none none Value.none Value.none 0)) #[] ::
   Obj.mk (Value.type "code") none (Data.fields #[Value.str (Str.ofString "shift_left") 297, Value.str (Str.ofString "shift_left") 298, Value.str (Str.ofString "/claim/cut.py") 299, Value.int 53 0, Value.int 3 0, Value.int 0 0, Value.int 0 0, Value.int 3 0, Value.ref 87, Value.bool true, Value.int 181 0, Value.ref 88, Value.none, Value.ref 89, Value.ref 90, Value.ref 91, Value.int 309 0, Value.int 53 0, Value.str (Str.ofString "/claim/cut.py") 310]) #[] ::
   Obj.mk (Value.type "function") none (Data.func (FuncData.mk (Str.ofString "shift_left") (Str.ofString "shift_left") (arOf 9) (.stmts (boOf 9)) (scOf 9) 3 [] Value.none Value.none Value.none (Value.str (Str.ofString "gmp.limbs") 187) none (Value.ref 92) Value.none 0)) #[] ::
   Obj.mk (Value.type "tuple") none (Data.seq #[]) #[] ::
   Obj.mk Value.none none (Data.fields #[]) #[] ::
   Obj.mk (Value.type "tuple") none (Data.seq #[Value.str (Str.ofString "a") 315, Value.str (Str.ofString "n") 316, Value.str (Str.ofString "w") 317, Value.str (Str.ofString "spots") 318, Value.str (Str.ofString "few") 319, Value.str (Str.ofString "found") 320, Value.str (Str.ofString "mask") 321, Value.str (Str.ofString "at") 322, Value.str (Str.ofString "above") 323]) #[] ::
   Obj.mk (Value.type "tuple") none (Data.seq #[]) #[] ::
   Obj.mk Value.none none (Data.func (FuncData.mk (Str.ofString "shift_right") (Str.ofString "shift_right") (arOf 10) (.stmts (boOf 10)) (scOf 10) 0 [] Value.none Value.none Value.none Value.none none Value.none Value.none 0)) #[] ::
   Obj.mk (Value.type "code") none (Data.fields #[Value.str (Str.ofString "shift_right") 312, Value.str (Str.ofString "shift_right") 313, Value.str (Str.ofString "/claim/cut.py") 314, Value.int 65 0, Value.int 3 0, Value.int 0 0, Value.int 0 0, Value.int 3 0, Value.ref 94, Value.bool true, Value.int 181 0, Value.ref 95, Value.none, Value.ref 96, Value.ref 97, Value.ref 98, Value.int 324 0, Value.int 65 0, Value.str (Str.ofString "/claim/cut.py") 325]) #[] ::
   Obj.mk (Value.type "function") none (Data.func (FuncData.mk (Str.ofString "shift_right") (Str.ofString "shift_right") (arOf 10) (.stmts (boOf 10)) (scOf 10) 3 [] Value.none Value.none Value.none (Value.str (Str.ofString "gmp.limbs") 187) none (Value.ref 99) Value.none 0)) #[] ::
   Obj.mk (Value.type "tuple") none (Data.seq #[]) #[] ::
   Obj.mk Value.none none (Data.fields #[]) #[] ::
   Obj.mk (Value.type "tuple") none (Data.seq #[Value.str (Str.ofString "a") 330, Value.str (Str.ofString "w") 331]) #[] ::
   Obj.mk (Value.type "tuple") none (Data.seq #[]) #[] ::
   Obj.mk Value.none none (Data.func (FuncData.mk (Str.ofString "bits") (Str.ofString "bits") (arOf 11) (.stmts (boOf 11)) (scOf 11) 0 [] Value.none Value.none Value.none Value.none none Value.none Value.none 0)) #[] ::
   Obj.mk (Value.type "code") none (Data.fields #[Value.str (Str.ofString "bits") 327, Value.str (Str.ofString "bits") 328, Value.str (Str.ofString "/claim/cut.py") 329, Value.int 72 0, Value.int 2 0, Value.int 0 0, Value.int 0 0, Value.int 3 0, Value.ref 101, Value.bool true, Value.int 181 0, Value.ref 102, Value.none, Value.ref 103, Value.ref 104, Value.ref 105, Value.int 332 0, Value.int 72 0, Value.str (Str.ofString "/claim/cut.py") 333]) #[] ::
   Obj.mk (Value.type "function") none (Data.func (FuncData.mk (Str.ofString "bits") (Str.ofString "bits") (arOf 11) (.stmts (boOf 11)) (scOf 11) 3 [] Value.none Value.none Value.none (Value.str (Str.ofString "gmp.limbs") 187) none (Value.ref 106) Value.none 0)) #[] ::
   Obj.mk (Value.type "tuple") none (Data.seq #[]) #[] ::
   Obj.mk Value.none none (Data.fields #[]) #[] ::
   Obj.mk (Value.type "tuple") none (Data.seq #[Value.str (Str.ofString "n") 340]) #[] ::
   Obj.mk (Value.type "tuple") none (Data.seq #[]) #[] ::
   Obj.mk Value.none none (Data.func (FuncData.mk (Str.ofString "need_count") (Str.ofString "need_count") (arOf 13) (.stmts (boOf 13)) (scOf 13) 0 [] Value.none Value.none Value.none Value.none none Value.none Value.none 0)) #[] ::
   Obj.mk (Value.type "code") none (Data.fields #[Value.str (Str.ofString "need_count") 337, Value.str (Str.ofString "need_count") 338, Value.str (Str.ofString "/claim/cut.py") 339, Value.int 75 0, Value.int 1 0, Value.int 0 0, Value.int 0 0, Value.int 3 0, Value.ref 108, Value.bool true, Value.int 181 0, Value.ref 109, Value.none, Value.ref 110, Value.ref 111, Value.ref 112, Value.int 341 0, Value.int 75 0, Value.str (Str.ofString "/claim/cut.py") 342]) #[] ::
   Obj.mk (Value.type "function") none (Data.func (FuncData.mk (Str.ofString "need_count") (Str.ofString "need_count") (arOf 13) (.stmts (boOf 13)) (scOf 13) 3 [] Value.none Value.none Value.none (Value.str (Str.ofString "gmp.counts") 335) none (Value.ref 113) Value.none 0)) #[] ::
   Obj.mk (Value.type "tuple") none (Data.seq #[]) #[] ::
   Obj.mk Value.none none (Data.fields #[]) #[] ::
   Obj.mk (Value.type "tuple") none (Data.seq #[Value.str (Str.ofString "pair") 347, Value.str (Str.ofString "w") 348, Value.str (Str.ofString "mul") 349, Value.str (Str.ofString "here") 350, Value.str (Str.ofString "there") 351, Value.str (Str.ofString "twice") 352]) #[] ::
   Obj.mk (Value.type "tuple") none (Data.seq #[]) #[] ::
   Obj.mk Value.none none (Data.func (FuncData.mk (Str.ofString "doubled_pair") (Str.ofString "doubled_pair") (arOf 14) (.stmts (boOf 14)) (scOf 14) 0 [] Value.none Value.none Value.none Value.none none Value.none Value.none 0)) #[] ::
   Obj.mk (Value.type "code") none (Data.fields #[Value.str (Str.ofString "doubled_pair") 344, Value.str (Str.ofString "doubled_pair") 345, Value.str (Str.ofString "/claim/cut.py") 346, Value.int 78 0, Value.int 3 0, Value.int 0 0, Value.int 0 0, Value.int 3 0, Value.ref 115, Value.bool true, Value.int 181 0, Value.ref 116, Value.none, Value.ref 117, Value.ref 118, Value.ref 119, Value.int 353 0, Value.int 78 0, Value.str (Str.ofString "/claim/cut.py") 354]) #[] ::
   Obj.mk (Value.type "function") none (Data.func (FuncData.mk (Str.ofString "doubled_pair") (Str.ofString "doubled_pair") (arOf 14) (.stmts (boOf 14)) (scOf 14) 3 [] Value.none Value.none Value.none (Value.str (Str.ofString "gmp.counts") 335) none (Value.ref 120) Value.none 0)) #[] ::
   Obj.mk (Value.type "tuple") none (Data.seq #[]) #[] ::
   Obj.mk Value.none none (Data.fields #[]) #[] ::
   Obj.mk (Value.type "tuple") none (Data.seq #[Value.str (Str.ofString "n") 359, Value.str (Str.ofString "w") 360, Value.str (Str.ofString "mul") 361, Value.str (Str.ofString "pair") 362, Value.str (Str.ofString "at") 363]) #[] ::
   Obj.mk (Value.type "tuple") none (Data.seq #[]) #[] ::
   Obj.mk Value.none none (Data.func (FuncData.mk (Str.ofString "fibonacci_pair") (Str.ofString "fibonacci_pair") (arOf 15) (.stmts (boOf 15)) (scOf 15) 0 [] Value.none Value.none Value.none Value.none none Value.none Value.none 0)) #[] ::
   Obj.mk (Value.type "code") none (Data.fields #[Value.str (Str.ofString "fibonacci_pair") 356, Value.str (Str.ofString "fibonacci_pair") 357, Value.str (Str.ofString "/claim/cut.py") 358, Value.int 82 0, Value.int 3 0, Value.int 0 0, Value.int 0 0, Value.int 3 0, Value.ref 122, Value.bool true, Value.int 181 0, Value.ref 123, Value.none, Value.ref 124, Value.ref 125, Value.ref 126, Value.int 364 0, Value.int 82 0, Value.str (Str.ofString "/claim/cut.py") 365]) #[] ::
   Obj.mk (Value.type "function") none (Data.func (FuncData.mk (Str.ofString "fibonacci_pair") (Str.ofString "fibonacci_pair") (arOf 15) (.stmts (boOf 15)) (scOf 15) 3 [] Value.none Value.none Value.none (Value.str (Str.ofString "gmp.counts") 335) none (Value.ref 127) Value.none 0)) #[] ::
   Obj.mk (Value.type "tuple") none (Data.seq #[]) #[] ::
   Obj.mk Value.none none (Data.fields #[]) #[] ::
   Obj.mk (Value.type "tuple") none (Data.seq #[Value.str (Str.ofString "a") 372, Value.str (Str.ofString "b") 373, Value.str (Str.ofString "w") 374, Value.str (Str.ofString "found") 375, Value.str (Str.ofString "mask") 376, Value.str (Str.ofString "at") 377, Value.str (Str.ofString "limb") 378, Value.str (Str.ofString "carry") 379, Value.str (Str.ofString "spot") 380, Value.str (Str.ofString "other") 381]) #[] ::
   Obj.mk (Value.type "tuple") none (Data.seq #[]) #[] ::
   Obj.mk Value.none none (Data.func (FuncData.mk (Str.ofString "mul_school") (Str.ofString "mul_school") (arOf 17) (.stmts (boOf 17)) (scOf 17) 0 [] Value.none Value.none Value.none Value.none none Value.none Value.none 0)) #[] ::
   Obj.mk (Value.type "code") none (Data.fields #[Value.str (Str.ofString "mul_school") 369, Value.str (Str.ofString "mul_school") 370, Value.str (Str.ofString "/claim/cut.py") 371, Value.int 92 0, Value.int 3 0, Value.int 0 0, Value.int 0 0, Value.int 3 0, Value.ref 129, Value.bool true, Value.int 181 0, Value.ref 130, Value.none, Value.ref 131, Value.ref 132, Value.ref 133, Value.int 382 0, Value.int 92 0, Value.str (Str.ofString "/claim/cut.py") 383]) #[] ::
   Obj.mk (Value.type "function") none (Data.func (FuncData.mk (Str.ofString "mul_school") (Str.ofString "mul_school") (arOf 17) (.stmts (boOf 17)) (scOf 17) 3 [] Value.none Value.none Value.none (Value.str (Str.ofString "gmp.school") 367) none (Value.ref 134) Value.none 0)) #[] ::
   Obj.mk (Value.type "tuple") none (Data.seq #[]) #[] ::
   Obj.mk Value.none none (Data.fields #[]) #[] ::
   Obj.mk (Value.type "tuple") none (Data.seq #[Value.str (Str.ofString "a") 388, Value.str (Str.ofString "b") 389, Value.str (Str.ofString "w") 390, Value.str (Str.ofString "quotient") 391, Value.str (Str.ofString "rest") 392]) #[] ::
   Obj.mk (Value.type "tuple") none (Data.seq #[]) #[] ::
   Obj.mk Value.none none (Data.func (FuncData.mk (Str.ofString "divrem_small") (Str.ofString "divrem_small") (arOf 18) (.stmts (boOf 18)) (scOf 18) 0 [] Value.none Value.none Value.none Value.none none Value.none Value.none 0)) #[] ::
   Obj.mk (Value.type "code") none (Data.fields #[Value.str (Str.ofString "divrem_small") 385, Value.str (Str.ofString "divrem_small") 386, Value.str (Str.ofString "/claim/cut.py") 387, Value.int 102 0, Value.int 3 0, Value.int 0 0, Value.int 0 0, Value.int 3 0, Value.ref 136, Value.bool true, Value.int 181 0, Value.ref 137, Value.none, Value.ref 138, Value.ref 139, Value.ref 140, Value.int 393 0, Value.int 102 0, Value.str (Str.ofString "/claim/cut.py") 394]) #[] ::
   Obj.mk (Value.type "function") none (Data.func (FuncData.mk (Str.ofString "divrem_small") (Str.ofString "divrem_small") (arOf 18) (.stmts (boOf 18)) (scOf 18) 3 [] Value.none Value.none Value.none (Value.str (Str.ofString "gmp.school") 367) none (Value.ref 141) Value.none 0)) #[] ::
   Obj.mk (Value.type "tuple") none (Data.seq #[]) #[] ::
   Obj.mk Value.none none (Data.fields #[]) #[] ::
   Obj.mk (Value.type "tuple") none (Data.seq #[Value.str (Str.ofString "top") 399, Value.str (Str.ofString "first") 400, Value.str (Str.ofString "second") 401, Value.str (Str.ofString "w") 402, Value.str (Str.ofString "high") 403, Value.str (Str.ofString "base") 404, Value.str (Str.ofString "limb") 405, Value.str (Str.ofString "rest") 406]) #[] ::
   Obj.mk (Value.type "tuple") none (Data.seq #[]) #[] ::
   Obj.mk Value.none none (Data.func (FuncData.mk (Str.ofString "guessed_limb") (Str.ofString "guessed_limb") (arOf 19) (.stmts (boOf 19)) (scOf 19) 0 [] Value.none Value.none Value.none Value.none none Value.none Value.none 0)) #[] ::
   Obj.mk (Value.type "code") none (Data.fields #[Value.str (Str.ofString "guessed_limb") 396, Value.str (Str.ofString "guessed_limb") 397, Value.str (Str.ofString "/claim/cut.py") 398, Value.int 105 0, Value.int 4 0, Value.int 0 0, Value.int 0 0, Value.int 3 0, Value.ref 143, Value.bool true, Value.int 181 0, Value.ref 144, Value.none, Value.ref 145, Value.ref 146, Value.ref 147, Value.int 407 0, Value.int 105 0, Value.str (Str.ofString "/claim/cut.py") 408]) #[] ::
   Obj.mk (Value.type "function") none (Data.func (FuncData.mk (Str.ofString "guessed_limb") (Str.ofString "guessed_limb") (arOf 19) (.stmts (boOf 19)) (scOf 19) 3 [] Value.none Value.none Value.none (Value.str (Str.ofString "gmp.school") 367) none (Value.ref 148) Value.none 0)) #[] ::
   Obj.mk (Value.type "tuple") none (Data.seq #[]) #[] ::
   Obj.mk Value.none none (Data.fields #[]) #[] ::
   Obj.mk (Value.type "tuple") none (Data.seq #[Value.str (Str.ofString "rest") 413, Value.str (Str.ofString "b") 414, Value.str (Str.ofString "limb") 415, Value.str (Str.ofString "at") 416, Value.str (Str.ofString "w") 417, Value.str (Str.ofString "carry") 418, Value.str (Str.ofString "base") 419, Value.str (Str.ofString "spot") 420, Value.str (Str.ofString "other") 421, Value.str (Str.ofString "here") 422]) #[] ::
   Obj.mk (Value.type "tuple") none (Data.seq #[]) #[] ::
   Obj.mk Value.none none (Data.func (FuncData.mk (Str.ofString "take_away") (Str.ofString "take_away") (arOf 20) (.stmts (boOf 20)) (scOf 20) 0 [] Value.none Value.none Value.none Value.none none Value.none Value.none 0)) #[] ::
   Obj.mk (Value.type "code") none (Data.fields #[Value.str (Str.ofString "take_away") 410, Value.str (Str.ofString "take_away") 411, Value.str (Str.ofString "/claim/cut.py") 412, Value.int 113 0, Value.int 5 0, Value.int 0 0, Value.int 0 0, Value.int 3 0, Value.ref 150, Value.bool true, Value.int 181 0, Value.ref 151, Value.none, Value.ref 152, Value.ref 153, Value.ref 154, Value.int 423 0, Value.int 113 0, Value.str (Str.ofString "/claim/cut.py") 424]) #[] ::
   Obj.mk (Value.type "function") none (Data.func (FuncData.mk (Str.ofString "take_away") (Str.ofString "take_away") (arOf 20) (.stmts (boOf 20)) (scOf 20) 3 [] Value.none Value.none Value.none (Value.str (Str.ofString "gmp.school") 367) none (Value.ref 155) Value.none 0)) #[] ::
   Obj.mk (Value.type "tuple") none (Data.seq #[]) #[] ::
   Obj.mk Value.none none (Data.fields #[]) #[] ::
   Obj.mk (Value.type "tuple") none (Data.seq #[Value.str (Str.ofString "rest") 429, Value.str (Str.ofString "b") 430, Value.str (Str.ofString "at") 431, Value.str (Str.ofString "w") 432, Value.str (Str.ofString "carry") 433, Value.str (Str.ofString "mask") 434, Value.str (Str.ofString "spot") 435, Value.str (Str.ofString "other") 436]) #[] ::
   Obj.mk (Value.type "tuple") none (Data.seq #[]) #[] ::
   Obj.mk Value.none none (Data.func (FuncData.mk (Str.ofString "put_back") (Str.ofString "put_back") (arOf 21) (.stmts (boOf 21)) (scOf 21) 0 [] Value.none Value.none Value.none Value.none none Value.none Value.none 0)) #[] ::
   Obj.mk (Value.type "code") none (Data.fields #[Value.str (Str.ofString "put_back") 426, Value.str (Str.ofString "put_back") 427, Value.str (Str.ofString "/claim/cut.py") 428, Value.int 122 0, Value.int 4 0, Value.int 0 0, Value.int 0 0, Value.int 3 0, Value.ref 157, Value.bool true, Value.int 181 0, Value.ref 158, Value.none, Value.ref 159, Value.ref 160, Value.ref 161, Value.int 437 0, Value.int 122 0, Value.str (Str.ofString "/claim/cut.py") 438]) #[] ::
   Obj.mk (Value.type "function") none (Data.func (FuncData.mk (Str.ofString "put_back") (Str.ofString "put_back") (arOf 21) (.stmts (boOf 21)) (scOf 21) 3 [] Value.none Value.none Value.none (Value.str (Str.ofString "gmp.school") 367) none (Value.ref 162) Value.none 0)) #[] ::
   Obj.mk (Value.type "tuple") none (Data.seq #[]) #[] ::
   Obj.mk Value.none none (Data.fields #[]) #[] ::
   Obj.mk (Value.type "tuple") none (Data.seq #[Value.str (Str.ofString "rest") 443, Value.str (Str.ofString "b") 444, Value.str (Str.ofString "w") 445, Value.str (Str.ofString "size") 446, Value.str (Str.ofString "quotient") 447, Value.str (Str.ofString "at") 448, Value.str (Str.ofString "limb") 449]) #[] ::
   Obj.mk (Value.type "tuple") none (Data.seq #[]) #[] ::
   Obj.mk Value.none none (Data.func (FuncData.mk (Str.ofString "divide_rows") (Str.ofString "divide_rows") (arOf 22) (.stmts (boOf 22)) (scOf 22) 0 [] Value.none Value.none Value.none Value.none none Value.none Value.none 0)) #[] ::
   Obj.mk (Value.type "code") none (Data.fields #[Value.str (Str.ofString "divide_rows") 440, Value.str (Str.ofString "divide_rows") 441, Value.str (Str.ofString "/claim/cut.py") 442, Value.int 129 0, Value.int 3 0, Value.int 0 0, Value.int 0 0, Value.int 3 0, Value.ref 164, Value.bool true, Value.int 181 0, Value.ref 165, Value.none, Value.ref 166, Value.ref 167, Value.ref 168, Value.int 450 0, Value.int 129 0, Value.str (Str.ofString "/claim/cut.py") 451]) #[] ::
   Obj.mk (Value.type "function") none (Data.func (FuncData.mk (Str.ofString "divide_rows") (Str.ofString "divide_rows") (arOf 22) (.stmts (boOf 22)) (scOf 22) 3 [] Value.none Value.none Value.none (Value.str (Str.ofString "gmp.school") 367) none (Value.ref 169) Value.none 0)) #[] ::
   Obj.mk (Value.type "tuple") none (Data.seq #[]) #[] ::
   Obj.mk Value.none none (Data.fields #[]) #[] ::
   Obj.mk (Value.type "tuple") none (Data.seq #[Value.str (Str.ofString "a") 456, Value.str (Str.ofString "b") 457, Value.str (Str.ofString "w") 458, Value.str (Str.ofString "shift") 459, Value.str (Str.ofString "divisor") 460, Value.str (Str.ofString "rest") 461, Value.str (Str.ofString "quotient") 462]) #[] ::
   Obj.mk (Value.type "tuple") none (Data.seq #[]) #[] ::
   Obj.mk Value.none none (Data.func (FuncData.mk (Str.ofString "divrem_school") (Str.ofString "divrem_school") (arOf 23) (.stmts (boOf 23)) (scOf 23) 0 [] Value.none Value.none Value.none Value.none none Value.none Value.none 0)) #[] ::
   Obj.mk (Value.type "code") none (Data.fields #[Value.str (Str.ofString "divrem_school") 453, Value.str (Str.ofString "divrem_school") 454, Value.str (Str.ofString "/claim/cut.py") 455, Value.int 139 0, Value.int 3 0, Value.int 0 0, Value.int 0 0, Value.int 3 0, Value.ref 171, Value.bool true, Value.int 181 0, Value.ref 172, Value.none, Value.ref 173, Value.ref 174, Value.ref 175, Value.int 463 0, Value.int 139 0, Value.str (Str.ofString "/claim/cut.py") 464]) #[] ::
   Obj.mk (Value.type "function") none (Data.func (FuncData.mk (Str.ofString "divrem_school") (Str.ofString "divrem_school") (arOf 23) (.stmts (boOf 23)) (scOf 23) 3 [] Value.none Value.none Value.none (Value.str (Str.ofString "gmp.school") 367) none (Value.ref 176) Value.none 0)) #[] ::
   Obj.mk (Value.type "tuple") none (Data.seq #[]) #[] ::
   Obj.mk Value.none none (Data.fields #[]) #[] ::
   Obj.mk (Value.type "tuple") none (Data.seq #[Value.str (Str.ofString "trail") 471, Value.str (Str.ofString "many") 472]) #[] ::
   Obj.mk (Value.type "tuple") none (Data.seq #[]) #[] ::
   Obj.mk Value.none none (Data.func (FuncData.mk (Str.ofString "_law_hopped") (Str.ofString "_law_hopped") (arOf 25) (.stmts (boOf 25)) (scOf 25) 0 [] Value.none Value.none Value.none Value.none none Value.none Value.none 0)) #[] ::
   Obj.mk (Value.type "code") none (Data.fields #[Value.str (Str.ofString "_law_hopped") 468, Value.str (Str.ofString "_law_hopped") 469, Value.str (Str.ofString "/claim/cut.py") 470, Value.int 153 0, Value.int 2 0, Value.int 0 0, Value.int 0 0, Value.int 3 0, Value.ref 178, Value.bool true, Value.int 181 0, Value.ref 179, Value.none, Value.ref 180, Value.ref 181, Value.ref 182, Value.int 473 0, Value.int 153 0, Value.str (Str.ofString "/claim/cut.py") 474]) #[] ::
   Obj.mk (Value.type "function") none (Data.func (FuncData.mk (Str.ofString "_law_hopped") (Str.ofString "_law_hopped") (arOf 25) (.stmts (boOf 25)) (scOf 25) 3 [] Value.none Value.none Value.none (Value.str (Str.ofString "law_sj0077_01") 466) none (Value.ref 183) Value.none 0)) #[] ::
   Obj.mk (Value.type "tuple") none (Data.seq #[]) #[] ::
   Obj.mk Value.none none (Data.fields #[]) #[] ::
   Obj.mk (Value.type "tuple") none (Data.seq #[Value.str (Str.ofString "one") 479, Value.str (Str.ofString "other") 480, Value.str (Str.ofString "w") 481, Value.str (Str.ofString "ahead") 482, Value.str (Str.ofString "here") 483]) #[] ::
   Obj.mk (Value.type "tuple") none (Data.seq #[]) #[] ::
   Obj.mk Value.none none (Data.func (FuncData.mk (Str.ofString "_law_summed") (Str.ofString "_law_summed") (arOf 26) (.stmts (boOf 26)) (scOf 26) 0 [] Value.none Value.none Value.none Value.none none Value.none Value.none 0)) #[] ::
   Obj.mk (Value.type "code") none (Data.fields #[Value.str (Str.ofString "_law_summed") 476, Value.str (Str.ofString "_law_summed") 477, Value.str (Str.ofString "/claim/cut.py") 478, Value.int 158 0, Value.int 3 0, Value.int 0 0, Value.int 0 0, Value.int 3 0, Value.ref 185, Value.bool true, Value.int 181 0, Value.ref 186, Value.none, Value.ref 187, Value.ref 188, Value.ref 189, Value.int 484 0, Value.int 158 0, Value.str (Str.ofString "/claim/cut.py") 485]) #[] ::
   Obj.mk (Value.type "function") none (Data.func (FuncData.mk (Str.ofString "_law_summed") (Str.ofString "_law_summed") (arOf 26) (.stmts (boOf 26)) (scOf 26) 3 [] Value.none Value.none Value.none (Value.str (Str.ofString "law_sj0077_01") 466) none (Value.ref 190) Value.none 0)) #[] ::
   Obj.mk (Value.type "tuple") none (Data.seq #[]) #[] ::
   Obj.mk Value.none none (Data.fields #[]) #[] ::
   Obj.mk (Value.type "tuple") none (Data.seq #[Value.str (Str.ofString "far") 490, Value.str (Str.ofString "near") 491, Value.str (Str.ofString "is_odd") 492, Value.str (Str.ofString "w") 493, Value.str (Str.ofString "found") 494, Value.str (Str.ofString "one") 495, Value.str (Str.ofString "first") 496, Value.str (Str.ofString "second") 497]) #[] ::
   Obj.mk (Value.type "tuple") none (Data.seq #[]) #[] ::
   Obj.mk Value.none none (Data.func (FuncData.mk (Str.ofString "_law_apart") (Str.ofString "_law_apart") (arOf 27) (.stmts (boOf 27)) (scOf 27) 0 [] Value.none Value.none Value.none Value.none none Value.none Value.none 0)) #[] ::
   Obj.mk (Value.type "code") none (Data.fields #[Value.str (Str.ofString "_law_apart") 487, Value.str (Str.ofString "_law_apart") 488, Value.str (Str.ofString "/claim/cut.py") 489, Value.int 162 0, Value.int 4 0, Value.int 0 0, Value.int 0 0, Value.int 3 0, Value.ref 192, Value.bool true, Value.int 181 0, Value.ref 193, Value.none, Value.ref 194, Value.ref 195, Value.ref 196, Value.int 498 0, Value.int 162 0, Value.str (Str.ofString "/claim/cut.py") 499]) #[] ::
   Obj.mk (Value.type "function") none (Data.func (FuncData.mk (Str.ofString "_law_apart") (Str.ofString "_law_apart") (arOf 27) (.stmts (boOf 27)) (scOf 27) 3 [] Value.none Value.none Value.none (Value.str (Str.ofString "law_sj0077_01") 466) none (Value.ref 197) Value.none 0)) #[] ::
   Obj.mk (Value.type "tuple") none (Data.seq #[]) #[] ::
   Obj.mk Value.none none (Data.fields #[]) #[] ::
   Obj.mk (Value.type "tuple") none (Data.seq #[Value.str (Str.ofString "form") 504, Value.str (Str.ofString "here") 505, Value.str (Str.ofString "moment") 506, Value.str (Str.ofString "w") 507, Value.str (Str.ofString "place") 508, Value.str (Str.ofString "pair") 509]) #[] ::
   Obj.mk (Value.type "tuple") none (Data.seq #[]) #[] ::
   Obj.mk Value.none none (Data.func (FuncData.mk (Str.ofString "_law_gone") (Str.ofString "_law_gone") (arOf 28) (.stmts (boOf 28)) (scOf 28) 0 [] Value.none Value.none Value.none Value.none none Value.none Value.none 0)) #[] ::
   Obj.mk (Value.type "code") none (Data.fields #[Value.str (Str.ofString "_law_gone") 501, Value.str (Str.ofString "_law_gone") 502, Value.str (Str.ofString "/claim/cut.py") 503, Value.int 168 0, Value.int 4 0, Value.int 0 0, Value.int 0 0, Value.int 3 0, Value.ref 199, Value.bool true, Value.int 181 0, Value.ref 200, Value.none, Value.ref 201, Value.ref 202, Value.ref 203, Value.int 510 0, Value.int 168 0, Value.str (Str.ofString "/claim/cut.py") 511]) #[] ::
   Obj.mk (Value.type "function") none (Data.func (FuncData.mk (Str.ofString "_law_gone") (Str.ofString "_law_gone") (arOf 28) (.stmts (boOf 28)) (scOf 28) 3 [] Value.none Value.none Value.none (Value.str (Str.ofString "law_sj0077_01") 466) none (Value.ref 204) Value.none 0)) #[] ::
   Obj.mk (Value.type "tuple") none (Data.seq #[]) #[] ::
   Obj.mk Value.none none (Data.fields #[]) #[] ::
   Obj.mk (Value.type "tuple") none (Data.seq #[Value.str (Str.ofString "place") 516, Value.str (Str.ofString "pair") 517, Value.str (Str.ofString "w") 518, Value.str (Str.ofString "square") 519, Value.str (Str.ofString "beside") 520]) #[] ::
   Obj.mk (Value.type "tuple") none (Data.seq #[]) #[] ::
   Obj.mk Value.none none (Data.func (FuncData.mk (Str.ofString "_law_are_right") (Str.ofString "_law_are_right") (arOf 29) (.stmts (boOf 29)) (scOf 29) 0 [] Value.none Value.none Value.none Value.none none Value.none Value.none 0)) #[] ::
   Obj.mk (Value.type "code") none (Data.fields #[Value.str (Str.ofString "_law_are_right") 513, Value.str (Str.ofString "_law_are_right") 514, Value.str (Str.ofString "/claim/cut.py") 515, Value.int 181 0, Value.int 3 0, Value.int 0 0, Value.int 0 0, Value.int 3 0, Value.ref 206, Value.bool true, Value.int 181 0, Value.ref 207, Value.none, Value.ref 208, Value.ref 209, Value.ref 210, Value.int 521 0, Value.int 181 0, Value.str (Str.ofString "/claim/cut.py") 522]) #[] ::
   Obj.mk (Value.type "function") none (Data.func (FuncData.mk (Str.ofString "_law_are_right") (Str.ofString "_law_are_right") (arOf 29) (.stmts (boOf 29)) (scOf 29) 3 [] Value.none Value.none Value.none (Value.str (Str.ofString "law_sj0077_01") 466) none (Value.ref 211) Value.none 0)) #[] ::
   Obj.mk (Value.type "tuple") none (Data.seq #[]) #[] ::
   Obj.mk Value.none none (Data.fields #[]) #[] ::
   Obj.mk (Value.type "tuple") none (Data.seq #[Value.str (Str.ofString "one") 527, Value.str (Str.ofString "other") 528, Value.str (Str.ofString "w") 529, Value.str (Str.ofString "first") 530, Value.str (Str.ofString "second") 531, Value.str (Str.ofString "far") 532, Value.str (Str.ofString "near") 533]) #[] ::
   Obj.mk (Value.type "tuple") none (Data.seq #[]) #[] ::
   Obj.mk Value.none none (Data.func (FuncData.mk (Str.ofString "_law_fit") (Str.ofString "_law_fit") (arOf 30) (.stmts (boOf 30)) (scOf 30) 0 [] Value.none Value.none Value.none Value.none none Value.none Value.none 0)) #[] ::
   Obj.mk (Value.type "code") none (Data.fields #[Value.str (Str.ofString "_law_fit") 524, Value.str (Str.ofString "_law_fit") 525, Value.str (Str.ofString "/claim/cut.py") 526, Value.int 187 0, Value.int 3 0, Value.int 0 0, Value.int 0 0, Value.int 3 0, Value.ref 213, Value.bool true, Value.int 181 0, Value.ref 214, Value.none, Value.ref 215, Value.ref 216, Value.ref 217, Value.int 534 0, Value.int 187 0, Value.str (Str.ofString "/claim/cut.py") 535]) #[] ::
   Obj.mk (Value.type "function") none (Data.func (FuncData.mk (Str.ofString "_law_fit") (Str.ofString "_law_fit") (arOf 30) (.stmts (boOf 30)) (scOf 30) 3 [] Value.none Value.none Value.none (Value.str (Str.ofString "law_sj0077_01") 466) none (Value.ref 218) Value.none 0)) #[] ::
   Obj.mk (Value.type "tuple") none (Data.seq #[]) #[] ::
   Obj.mk Value.none none (Data.fields #[]) #[] ::
   Obj.mk Value.none none (Data.func (FuncData.mk (Str.ofString "law") (Str.ofString "law") (arOf 31) (.stmts (boOf 31)) (scOf 31) 0 [] Value.none Value.none Value.none Value.none none Value.none Value.none 0)) #[] ::
   Obj.mk (Value.type "code") none (Data.fields #[Value.str (Str.ofString "law") 537, Value.str (Str.ofString "law") 538, Value.str (Str.ofString "/claim/cut.py") 539, Value.int 195 0, Value.int 1 0, Value.int 0 0, Value.int 0 0, Value.int 3 0, Value.ref 220, Value.bool true, Value.int 181 0, Value.ref 221, Value.none, Value.none, Value.none, Value.ref 222, Value.int 540 0, Value.int 195 0, Value.str (Str.ofString "/claim/cut.py") 541]) #[] ::
   Obj.mk (Value.type "function") none (Data.func (FuncData.mk (Str.ofString "law") (Str.ofString "law") (arOf 31) (.stmts (boOf 31)) (scOf 31) 3 [] Value.none Value.none Value.none (Value.str (Str.ofString "law_sj0077_01") 466) none (Value.ref 223) Value.none 0)) #[] :: []
noncomputable def hd.two : Params → Obj := fun P => Obj.mk Value.none none (Data.dict #[DictEntry.mk (PyData.keyHash P (Str.ofString "type.__subclasses__.Exception.0")) (Value.str (Str.ofString "type.__subclasses__.Exception.0") 205) (Value.int 24 0), DictEntry.mk (PyData.keyHash P (Str.ofString "type.__subclasses__.Exception.n")) (Value.str (Str.ofString "type.__subclasses__.Exception.n") 206) (Value.int 1 0)] 2) #[]
noncomputable def hd.main (nm : Value) (m : Nat) (P : Params) : Obj := Obj.mk (Value.type "dict") none (Data.dict ⟨(hd.ents nm P).take m⟩ m) #[]
/-- the heap behind a statement: so many objects from the fourth on, so many names -/
noncomputable def hd.heapAt (two main : Params → Obj) (k n : Nat) (P : Params) : Heap :=
  ⟨⟨boot_o_0 P :: boot_o_1 P :: two P :: main P :: (hd.low P ++ Obj.mk Value.none none (.fields ⟨hd.kids.take k⟩) #[] :: (hd.tail P).take n)⟩, (boot_heap P).life⟩
noncomputable def hd.heap0 : Params → Heap := hd.heapAt boot_o_2 boot_o_3 0 2
noncomputable def hd.heap1 : Params → Heap := hd.heapAt hd.two (hd.main (.str (Str.ofString "gmp.limbs") 187) 12) 9 39
noncomputable def hd.heap2 : Params → Heap := hd.heapAt hd.two (hd.main (.str (Str.ofString "gmp.counts") 335) 23) 42 116
noncomputable def hd.heap3 : Params → Heap := hd.heapAt hd.two (hd.main (.str (Str.ofString "law_sj0077_01") 466) 37) 84 212
noncomputable def hd.st (h : Params → Heap) (k : Nat) (w : World) (os : OsState) : Shared := ⟨h w.params, ⟨[]⟩, boot_drawn, k, os⟩
noncomputable def hd.b : List Stmt := behindTheImports PySem.Challenge.pw_sj0077_01
noncomputable def hd.env : Env := { scope := PySem.Challenge.pw_sj0077_01.main.scope, locals := mainNs, globals := mainNs, cells := [], code := .ref 13, frame := some 14 }
noncomputable def hd.c : Code := .body hd.b hd.env
theorem hd.opens : ∀ w : World, (fencedOpening treeTable PySem.Challenge.pw_sj0077_01 w 3130).map (fun s => (s.heap, s.gens, s.drawn, s.toks)) = some (boot_heap w.params, Array.mk [], boot_drawn, boot_toks) :=
  boot_open (by kernel_rfl) (by kernel_rfl) (fun s => by kernel_rfl)
theorem hd.run0 (w : World) (os : OsState) : topGo treeTable PySem.Challenge.pw_sj0077_01 w 11 (some (.ref 6)) 12 ⟨boot_heap w.params, ⟨[]⟩, boot_drawn, boot_toks, os⟩ (topStub PySem.Challenge.pw_sj0077_01) =
    some (hd.st hd.heap0 187 w os, ⟨denote treeTable hd.c, hd.c, ⟨0, 0, 0, 0⟩, [topFrame ⟨0, 0, 0, 0⟩]⟩) := by kernel_rfl
theorem hd.runB (w : World) (os : OsState) : segRun treeTable PySem.Challenge.pw_sj0077_01 w 11 (some (.ref 6)) 1 1 (hd.st hd.heap0 187 w os) (blockOf hd.b hd.env hd.c ⟨0, 0, 0, 0⟩ [topFrame ⟨0, 0, 0, 0⟩]) =
    some (.next, hd.st hd.heap0 187 w os, hd.c, ⟨0, 0, 0, 0⟩) := by kernel_rfl
theorem hd.run1 (w : World) (os : OsState) : segRun treeTable PySem.Challenge.pw_sj0077_01 w 11 (some (.ref 6)) 1 632 (hd.st hd.heap0 187 w os) (piecesOf (hd.b.take 4) hd.env hd.c ⟨0, 0, 0, 0⟩ [topFrame ⟨0, 0, 0, 0⟩]) =
    some (.next, hd.st hd.heap1 241 w os, hd.c, ⟨6, 0, 7, 8⟩) := by kernel_rfl
theorem hd.run2 (w : World) (os : OsState) : segRun treeTable PySem.Challenge.pw_sj0077_01 w 11 (some (.ref 6)) 1 600 (hd.st hd.heap1 241 w os) (piecesOf ((hd.b.drop 4).take 12) hd.env hd.c ⟨6, 0, 7, 8⟩ [topFrame ⟨0, 0, 0, 0⟩]) =
    some (.next, hd.st hd.heap2 367 w os, hd.c, ⟨82, 0, 90, 15⟩) := by kernel_rfl
theorem hd.run3 (w : World) (os : OsState) : segRun treeTable PySem.Challenge.pw_sj0077_01 w 11 (some (.ref 6)) 1 800 (hd.st hd.heap2 367 w os) (piecesOf ((hd.b.drop 4).drop 12) hd.env hd.c ⟨82, 0, 90, 15⟩ [topFrame ⟨0, 0, 0, 0⟩]) =
    some (.next, hd.st hd.heap3 543 w os, hd.c, ⟨195, 0, 208, 60⟩) := by kernel_rfl
theorem hd.run4 (w : World) (os : OsState) : topRun treeTable PySem.Challenge.pw_sj0077_01 w 11 (some (.ref 6)) 3 (hd.st hd.heap3 543 w os) ⟨doneF .next, hd.c, ⟨195, 0, 208, 60⟩, [topFrame ⟨0, 0, 0, 0⟩]⟩ =
    some (hd.st hd.heap3 543 w os) := by kernel_rfl
/-- what the top leaves behind: the objects that the law reaches -/
noncomputable def hd.heap_39 : Params → Frag := fun P =>
  (nat_lit 2, Obj.mk Value.none none (Data.dict #[DictEntry.mk (PyData.keyHash P (Str.ofString "type.__subclasses__.Exception.0")) (Value.str (Str.ofString "type.__subclasses__.Exception.0") 205) (Value.int 24 0), DictEntry.mk (PyData.keyHash P (Str.ofString "type.__subclasses__.Exception.n")) (Value.str (Str.ofString "type.__subclasses__.Exception.n") 206) (Value.int 1 0)] 2) #[]) ::
   (nat_lit 3, Obj.mk (Value.type "dict") none (Data.dict #[DictEntry.mk (PyData.keyHash P (Str.ofString "__name__")) (Value.str (Str.ofString "__name__") 165) (Value.str (Str.ofString "law_sj0077_01") 466), DictEntry.mk (PyData.keyHash P (Str.ofString "__doc__")) (Value.str (Str.ofString "__doc__") 166) Value.none, DictEntry.mk (PyData.keyHash P (Str.ofString "__package__")) (Value.str (Str.ofString "__package__") 167) Value.none, DictEntry.mk (PyData.keyHash P (Str.ofString "__loader__")) (Value.str (Str.ofString "__loader__") 168) (Value.builtin "__main__.__loader__#opaque"), DictEntry.mk (PyData.keyHash P (Str.ofString "__spec__")) (Value.str (Str.ofString "__spec__") 169) Value.none, DictEntry.mk (PyData.keyHash P (Str.ofString "__annotations__")) (Value.str (Str.ofString "__annotations__") 170) (Value.ref 6), DictEntry.mk (PyData.keyHash P (Str.ofString "__builtins__")) (Value.str (Str.ofString "__builtins__") 171) (Value.ref 4), DictEntry.mk (PyData.keyHash P (Str.ofString "__file__")) (Value.str (Str.ofString "__file__") 173) (Value.str (Str.ofString "/claim/cut.py") 172), DictEntry.mk (PyData.keyHash P (Str.ofString "__cached__")) (Value.str (Str.ofString "__cached__") 174) Value.none, DictEntry.mk (PyData.keyHash P (Str.ofString "GmpError")) (Value.str (Str.ofString "GmpError") 208) (Value.ref 24), DictEntry.mk (PyData.keyHash P (Str.ofString "DivisionByZero")) (Value.str (Str.ofString "DivisionByZero") 224) (Value.ref 37), DictEntry.mk (PyData.keyHash P (Str.ofString "OutOfRange")) (Value.str (Str.ofString "OutOfRange") 240) (Value.ref 49), DictEntry.mk (PyData.keyHash P (Str.ofString "normal")) (Value.str (Str.ofString "normal") 248) (Value.ref 58), DictEntry.mk (PyData.keyHash P (Str.ofString "compare")) (Value.str (Str.ofString "compare") 257) (Value.ref 65), DictEntry.mk (PyData.keyHash P (Str.ofString "add")) (Value.str (Str.ofString "add") 270) (Value.ref 72), DictEntry.mk (PyData.keyHash P (Str.ofString "sub")) (Value.str (Str.ofString "sub") 284) (Value.ref 79), DictEntry.mk (PyData.keyHash P (Str.ofString "divrem_limb")) (Value.str (Str.ofString "divrem_limb") 296) (Value.ref 86), DictEntry.mk (PyData.keyHash P (Str.ofString "shift_left")) (Value.str (Str.ofString "shift_left") 311) (Value.ref 93), DictEntry.mk (PyData.keyHash P (Str.ofString "shift_right")) (Value.str (Str.ofString "shift_right") 326) (Value.ref 100), DictEntry.mk (PyData.keyHash P (Str.ofString "bits")) (Value.str (Str.ofString "bits") 334) (Value.ref 107), DictEntry.mk (PyData.keyHash P (Str.ofString "need_count")) (Value.str (Str.ofString "need_count") 343) (Value.ref 114), DictEntry.mk (PyData.keyHash P (Str.ofString "doubled_pair")) (Value.str (Str.ofString "doubled_pair") 355) (Value.ref 121), DictEntry.mk (PyData.keyHash P (Str.ofString "fibonacci_pair")) (Value.str (Str.ofString "fibonacci_pair") 366) (Value.ref 128), DictEntry.mk (PyData.keyHash P (Str.ofString "mul_school")) (Value.str (Str.ofString "mul_school") 384) (Value.ref 135), DictEntry.mk (PyData.keyHash P (Str.ofString "divrem_small")) (Value.str (Str.ofString "divrem_small") 395) (Value.ref 142), DictEntry.mk (PyData.keyHash P (Str.ofString "guessed_limb")) (Value.str (Str.ofString "guessed_limb") 409) (Value.ref 149), DictEntry.mk (PyData.keyHash P (Str.ofString "take_away")) (Value.str (Str.ofString "take_away") 425) (Value.ref 156), DictEntry.mk (PyData.keyHash P (Str.ofString "put_back")) (Value.str (Str.ofString "put_back") 439) (Value.ref 163), DictEntry.mk (PyData.keyHash P (Str.ofString "divide_rows")) (Value.str (Str.ofString "divide_rows") 452) (Value.ref 170), DictEntry.mk (PyData.keyHash P (Str.ofString "divrem_school")) (Value.str (Str.ofString "divrem_school") 465) (Value.ref 177), DictEntry.mk (PyData.keyHash P (Str.ofString "_law_hopped")) (Value.str (Str.ofString "_law_hopped") 475) (Value.ref 184), DictEntry.mk (PyData.keyHash P (Str.ofString "_law_summed")) (Value.str (Str.ofString "_law_summed") 486) (Value.ref 191), DictEntry.mk (PyData.keyHash P (Str.ofString "_law_apart")) (Value.str (Str.ofString "_law_apart") 500) (Value.ref 198), DictEntry.mk (PyData.keyHash P (Str.ofString "_law_gone")) (Value.str (Str.ofString "_law_gone") 512) (Value.ref 205), DictEntry.mk (PyData.keyHash P (Str.ofString "_law_are_right")) (Value.str (Str.ofString "_law_are_right") 523) (Value.ref 212), DictEntry.mk (PyData.keyHash P (Str.ofString "_law_fit")) (Value.str (Str.ofString "_law_fit") 536) (Value.ref 219), DictEntry.mk (PyData.keyHash P (Str.ofString "law")) (Value.str (Str.ofString "law") 542) (Value.ref 224)] 37) #[]) ::
   (nat_lit 15, Obj.mk (Value.type "tuple") none (Data.seq #[Value.type "Exception"]) #[]) ::
   (nat_lit 22, Obj.mk (Value.type "tuple") none (Data.seq #[]) #[]) ::
   (nat_lit 23, Obj.mk (Value.type "dict") none (Data.dict #[DictEntry.mk (PyData.keyHash P (Str.ofString "__module__")) (Value.str (Str.ofString "__module__") 196) (Value.str (Str.ofString "gmp.limbs") 187), DictEntry.mk (PyData.keyHash P (Str.ofString "__firstlineno__")) (Value.str (Str.ofString "__firstlineno__") 200) (Value.int 2 199), DictEntry.mk (PyData.keyHash P (Str.ofString "__static_attributes__")) (Value.str (Str.ofString "__static_attributes__") 201) (Value.ref 22), DictEntry.mk (PyData.keyHash P (Str.ofString "__weakref__")) (Value.str (Str.ofString "__weakref__") 203) (Value.ref 25), DictEntry.mk (PyData.keyHash P (Str.ofString "__doc__")) (Value.str (Str.ofString "__doc__") 204) Value.none] 3) #[]) ::
   (nat_lit 24, Obj.mk (Value.type "type") none (Data.cls (ClassData.mk (Str.ofString "GmpError") [Value.type "Exception"] [Value.ref 24, Value.type "Exception", Value.type "BaseException", Value.type "object"] 23 (Str.ofString "GmpError") true [] [Value.ref 37, Value.ref 49] false none false)) #[some (Value.ref 15), none, some (Value.str (Str.ofString "GmpError") 189), some (Value.str (Str.ofString "GmpError") 197), some (Value.builtin "Exception.__new__"), some (Value.bool true)]) ::
   (nat_lit 25, Obj.mk (Value.type "getset_descriptor") none (Data.fields #[Value.str (Str.ofString "__weakref__") 202, Value.ref 24, Value.builtin "ExceptionGroup.__weakref__", Value.none]) #[]) ::
   (nat_lit 28, Obj.mk (Value.type "tuple") none (Data.seq #[Value.ref 24]) #[]) ::
   (nat_lit 35, Obj.mk (Value.type "tuple") none (Data.seq #[]) #[]) ::
   (nat_lit 36, Obj.mk (Value.type "dict") none (Data.dict #[DictEntry.mk (PyData.keyHash P (Str.ofString "__module__")) (Value.str (Str.ofString "__module__") 216) (Value.str (Str.ofString "gmp.limbs") 187), DictEntry.mk (PyData.keyHash P (Str.ofString "__firstlineno__")) (Value.str (Str.ofString "__firstlineno__") 220) (Value.int 4 219), DictEntry.mk (PyData.keyHash P (Str.ofString "__static_attributes__")) (Value.str (Str.ofString "__static_attributes__") 221) (Value.ref 35), DictEntry.mk (PyData.keyHash P (Str.ofString "__doc__")) (Value.str (Str.ofString "__doc__") 222) Value.none] 2) #[]) ::
   (nat_lit 37, Obj.mk (Value.type "type") none (Data.cls (ClassData.mk (Str.ofString "DivisionByZero") [Value.ref 24] [Value.ref 37, Value.ref 24, Value.type "Exception", Value.type "BaseException", Value.type "object"] 36 (Str.ofString "DivisionByZero") true [] [] false none false)) #[some (Value.ref 28), none, some (Value.str (Str.ofString "DivisionByZero") 209), some (Value.str (Str.ofString "DivisionByZero") 217), some (Value.builtin "Exception.__new__"), some (Value.bool true)]) ::
   (nat_lit 40, Obj.mk (Value.type "tuple") none (Data.seq #[Value.ref 24]) #[]) ::
   (nat_lit 47, Obj.mk (Value.type "tuple") none (Data.seq #[]) #[]) ::
   (nat_lit 48, Obj.mk (Value.type "dict") none (Data.dict #[DictEntry.mk (PyData.keyHash P (Str.ofString "__module__")) (Value.str (Str.ofString "__module__") 232) (Value.str (Str.ofString "gmp.limbs") 187), DictEntry.mk (PyData.keyHash P (Str.ofString "__firstlineno__")) (Value.str (Str.ofString "__firstlineno__") 236) (Value.int 6 235), DictEntry.mk (PyData.keyHash P (Str.ofString "__static_attributes__")) (Value.str (Str.ofString "__static_attributes__") 237) (Value.ref 47), DictEntry.mk (PyData.keyHash P (Str.ofString "__doc__")) (Value.str (Str.ofString "__doc__") 238) Value.none] 2) #[]) ::
   (nat_lit 49, Obj.mk (Value.type "type") none (Data.cls (ClassData.mk (Str.ofString "OutOfRange") [Value.ref 24] [Value.ref 49, Value.ref 24, Value.type "Exception", Value.type "BaseException", Value.type "object"] 48 (Str.ofString "OutOfRange") true [] [] false none false)) #[some (Value.ref 40), none, some (Value.str (Str.ofString "OutOfRange") 225), some (Value.str (Str.ofString "OutOfRange") 233), some (Value.builtin "Exception.__new__"), some (Value.bool true)]) ::
   (nat_lit 52, Obj.mk (Value.type "tuple") none (Data.seq #[]) #[]) ::
   (nat_lit 54, Obj.mk (Value.type "tuple") none (Data.seq #[Value.str (Str.ofString "a") 244, Value.str (Str.ofString "end") 245]) #[]) ::
   (nat_lit 55, Obj.mk (Value.type "tuple") none (Data.seq #[]) #[]) ::
   (nat_lit 57, Obj.mk (Value.type "code") none (Data.fields #[Value.str (Str.ofString "normal") 241, Value.str (Str.ofString "normal") 242, Value.str (Str.ofString "/claim/cut.py") 243, Value.int 8 0, Value.int 1 0, Value.int 0 0, Value.int 0 0, Value.int 3 0, Value.ref 52, Value.bool true, Value.int 181 0, Value.ref 53, Value.none, Value.ref 54, Value.ref 55, Value.ref 56, Value.int 246 0, Value.int 8 0, Value.str (Str.ofString "/claim/cut.py") 247]) #[]) ::
   (nat_lit 58, Obj.mk (Value.type "function") none (Data.func (FuncData.mk (Str.ofString "normal") (Str.ofString "normal") (arOf 4) (.stmts (boOf 4)) (scOf 4) 3 [] Value.none Value.none Value.none (Value.str (Str.ofString "gmp.limbs") 187) none (Value.ref 57) Value.none 0)) #[]) ::
   (nat_lit 59, Obj.mk (Value.type "tuple") none (Data.seq #[]) #[]) ::
   (nat_lit 61, Obj.mk (Value.type "tuple") none (Data.seq #[Value.str (Str.ofString "a") 252, Value.str (Str.ofString "b") 253, Value.str (Str.ofString "at") 254]) #[]) ::
   (nat_lit 62, Obj.mk (Value.type "tuple") none (Data.seq #[]) #[]) ::
   (nat_lit 64, Obj.mk (Value.type "code") none (Data.fields #[Value.str (Str.ofString "compare") 249, Value.str (Str.ofString "compare") 250, Value.str (Str.ofString "/claim/cut.py") 251, Value.int 13 0, Value.int 2 0, Value.int 0 0, Value.int 0 0, Value.int 3 0, Value.ref 59, Value.bool true, Value.int 181 0, Value.ref 60, Value.none, Value.ref 61, Value.ref 62, Value.ref 63, Value.int 255 0, Value.int 13 0, Value.str (Str.ofString "/claim/cut.py") 256]) #[]) ::
   (nat_lit 65, Obj.mk (Value.type "function") none (Data.func (FuncData.mk (Str.ofString "compare") (Str.ofString "compare") (arOf 5) (.stmts (boOf 5)) (scOf 5) 3 [] Value.none Value.none Value.none (Value.str (Str.ofString "gmp.limbs") 187) none (Value.ref 64) Value.none 0)) #[]) ::
   (nat_lit 66, Obj.mk (Value.type "tuple") none (Data.seq #[]) #[]) ::
   (nat_lit 68, Obj.mk (Value.type "tuple") none (Data.seq #[Value.str (Str.ofString "a") 261, Value.str (Str.ofString "b") 262, Value.str (Str.ofString "w") 263, Value.str (Str.ofString "found") 264, Value.str (Str.ofString "carry") 265, Value.str (Str.ofString "mask") 266, Value.str (Str.ofString "at") 267]) #[]) ::
   (nat_lit 69, Obj.mk (Value.type "tuple") none (Data.seq #[]) #[]) ::
   (nat_lit 71, Obj.mk (Value.type "code") none (Data.fields #[Value.str (Str.ofString "add") 258, Value.str (Str.ofString "add") 259, Value.str (Str.ofString "/claim/cut.py") 260, Value.int 20 0, Value.int 3 0, Value.int 0 0, Value.int 0 0, Value.int 3 0, Value.ref 66, Value.bool true, Value.int 181 0, Value.ref 67, Value.none, Value.ref 68, Value.ref 69, Value.ref 70, Value.int 268 0, Value.int 20 0, Value.str (Str.ofString "/claim/cut.py") 269]) #[]) ::
   (nat_lit 72, Obj.mk (Value.type "function") none (Data.func (FuncData.mk (Str.ofString "add") (Str.ofString "add") (arOf 6) (.stmts (boOf 6)) (scOf 6) 3 [] Value.none Value.none Value.none (Value.str (Str.ofString "gmp.limbs") 187) none (Value.ref 71) Value.none 0)) #[]) ::
   (nat_lit 73, Obj.mk (Value.type "tuple") none (Data.seq #[]) #[]) ::
   (nat_lit 75, Obj.mk (Value.type "tuple") none (Data.seq #[Value.str (Str.ofString "a") 274, Value.str (Str.ofString "b") 275, Value.str (Str.ofString "w") 276, Value.str (Str.ofString "found") 277, Value.str (Str.ofString "borrow") 278, Value.str (Str.ofString "base") 279, Value.str (Str.ofString "at") 280, Value.str (Str.ofString "limb") 281]) #[]) ::
   (nat_lit 76, Obj.mk (Value.type "tuple") none (Data.seq #[]) #[]) ::
   (nat_lit 78, Obj.mk (Value.type "code") none (Data.fields #[Value.str (Str.ofString "sub") 271, Value.str (Str.ofString "sub") 272, Value.str (Str.ofString "/claim/cut.py") 273, Value.int 35 0, Value.int 3 0, Value.int 0 0, Value.int 0 0, Value.int 3 0, Value.ref 73, Value.bool true, Value.int 181 0, Value.ref 74, Value.none, Value.ref 75, Value.ref 76, Value.ref 77, Value.int 282 0, Value.int 35 0, Value.str (Str.ofString "/claim/cut.py") 283]) #[]) ::
   (nat_lit 79, Obj.mk (Value.type "function") none (Data.func (FuncData.mk (Str.ofString "sub") (Str.ofString "sub") (arOf 7) (.stmts (boOf 7)) (scOf 7) 3 [] Value.none Value.none Value.none (Value.str (Str.ofString "gmp.limbs") 187) none (Value.ref 78) Value.none 0)) #[]) ::
   (nat_lit 80, Obj.mk (Value.type "tuple") none (Data.seq #[]) #[]) ::
   (nat_lit 82, Obj.mk (Value.type "tuple") none (Data.seq #[Value.str (Str.ofString "a") 288, Value.str (Str.ofString "limb") 289, Value.str (Str.ofString "w") 290, Value.str (Str.ofString "found") 291, Value.str (Str.ofString "rest") 292, Value.str (Str.ofString "at") 293]) #[]) ::
   (nat_lit 83, Obj.mk (Value.type "tuple") none (Data.seq #[]) #[]) ::
   (nat_lit 85, Obj.mk (Value.type "code") none (Data.fields #[Value.str (Str.ofString "divrem_limb") 285, Value.str (Str.ofString "divrem_limb") 286, Value.str (Str.ofString "/claim/cut.py") 287, Value.int 44 0, Value.int 3 0, Value.int 0 0, Value.int 0 0, Value.int 3 0, Value.ref 80, Value.bool true, Value.int 181 0, Value.ref 81, Value.none, Value.ref 82, Value.ref 83, Value.ref 84, Value.int 294 0, Value.int 44 0, Value.str (Str.ofString "/claim/cut.py") 295]) #[]) ::
   (nat_lit 86, Obj.mk (Value.type "function") none (Data.func (FuncData.mk (Str.ofString "divrem_limb") (Str.ofString "divrem_limb") (arOf 8) (.stmts (boOf 8)) (scOf 8) 3 [] Value.none Value.none Value.none (Value.str (Str.ofString "gmp.limbs") 187) none (Value.ref 85) Value.none 0)) #[]) ::
   (nat_lit 87, Obj.mk (Value.type "tuple") none (Data.seq #[]) #[]) ::
   (nat_lit 89, Obj.mk (Value.type "tuple") none (Data.seq #[Value.str (Str.ofString "a") 300, Value.str (Str.ofString "n") 301, Value.str (Str.ofString "w") 302, Value.str (Str.ofString "spots") 303, Value.str (Str.ofString "few") 304, Value.str (Str.ofString "found") 305, Value.str (Str.ofString "carry") 306, Value.str (Str.ofString "mask") 307, Value.str (Str.ofString "one") 308]) #[]) ::
   (nat_lit 90, Obj.mk (Value.type "tuple") none (Data.seq #[]) #[]) ::
   (nat_lit 92, Obj.mk (Value.type "code") none (Data.fields #[Value.str (Str.ofString "shift_left") 297, Value.str (Str.ofString "shift_left") 298, Value.str (Str.ofString "/claim/cut.py") 299, Value.int 53 0, Value.int 3 0, Value.int 0 0, Value.int 0 0, Value.int 3 0, Value.ref 87, Value.bool true, Value.int 181 0, Value.ref 88, Value.none, Value.ref 89, Value.ref 90, Value.ref 91, Value.int 309 0, Value.int 53 0, Value.str (Str.ofString "/claim/cut.py") 310]) #[]) ::
   (nat_lit 93, Obj.mk (Value.type "function") none (Data.func (FuncData.mk (Str.ofString "shift_left") (Str.ofString "shift_left") (arOf 9) (.stmts (boOf 9)) (scOf 9) 3 [] Value.none Value.none Value.none (Value.str (Str.ofString "gmp.limbs") 187) none (Value.ref 92) Value.none 0)) #[]) ::
   (nat_lit 94, Obj.mk (Value.type "tuple") none (Data.seq #[]) #[]) ::
   (nat_lit 96, Obj.mk (Value.type "tuple") none (Data.seq #[Value.str (Str.ofString "a") 315, Value.str (Str.ofString "n") 316, Value.str (Str.ofString "w") 317, Value.str (Str.ofString "spots") 318, Value.str (Str.ofString "few") 319, Value.str (Str.ofString "found") 320, Value.str (Str.ofString "mask") 321, Value.str (Str.ofString "at") 322, Value.str (Str.ofString "above") 323]) #[]) ::
   (nat_lit 97, Obj.mk (Value.type "tuple") none (Data.seq #[]) #[]) ::
   (nat_lit 99, Obj.mk (Value.type "code") none (Data.fields #[Value.str (Str.ofString "shift_right") 312, Value.str (Str.ofString "shift_right") 313, Value.str (Str.ofString "/claim/cut.py") 314, Value.int 65 0, Value.int 3 0, Value.int 0 0, Value.int 0 0, Value.int 3 0, Value.ref 94, Value.bool true, Value.int 181 0, Value.ref 95, Value.none, Value.ref 96, Value.ref 97, Value.ref 98, Value.int 324 0, Value.int 65 0, Value.str (Str.ofString "/claim/cut.py") 325]) #[]) ::
   (nat_lit 100, Obj.mk (Value.type "function") none (Data.func (FuncData.mk (Str.ofString "shift_right") (Str.ofString "shift_right") (arOf 10) (.stmts (boOf 10)) (scOf 10) 3 [] Value.none Value.none Value.none (Value.str (Str.ofString "gmp.limbs") 187) none (Value.ref 99) Value.none 0)) #[]) ::
   (nat_lit 101, Obj.mk (Value.type "tuple") none (Data.seq #[]) #[]) ::
   (nat_lit 103, Obj.mk (Value.type "tuple") none (Data.seq #[Value.str (Str.ofString "a") 330, Value.str (Str.ofString "w") 331]) #[]) ::
   (nat_lit 104, Obj.mk (Value.type "tuple") none (Data.seq #[]) #[]) ::
   (nat_lit 106, Obj.mk (Value.type "code") none (Data.fields #[Value.str (Str.ofString "bits") 327, Value.str (Str.ofString "bits") 328, Value.str (Str.ofString "/claim/cut.py") 329, Value.int 72 0, Value.int 2 0, Value.int 0 0, Value.int 0 0, Value.int 3 0, Value.ref 101, Value.bool true, Value.int 181 0, Value.ref 102, Value.none, Value.ref 103, Value.ref 104, Value.ref 105, Value.int 332 0, Value.int 72 0, Value.str (Str.ofString "/claim/cut.py") 333]) #[]) ::
   (nat_lit 107, Obj.mk (Value.type "function") none (Data.func (FuncData.mk (Str.ofString "bits") (Str.ofString "bits") (arOf 11) (.stmts (boOf 11)) (scOf 11) 3 [] Value.none Value.none Value.none (Value.str (Str.ofString "gmp.limbs") 187) none (Value.ref 106) Value.none 0)) #[]) ::
   (nat_lit 108, Obj.mk (Value.type "tuple") none (Data.seq #[]) #[]) ::
   (nat_lit 110, Obj.mk (Value.type "tuple") none (Data.seq #[Value.str (Str.ofString "n") 340]) #[]) ::
   (nat_lit 111, Obj.mk (Value.type "tuple") none (Data.seq #[]) #[]) ::
   (nat_lit 113, Obj.mk (Value.type "code") none (Data.fields #[Value.str (Str.ofString "need_count") 337, Value.str (Str.ofString "need_count") 338, Value.str (Str.ofString "/claim/cut.py") 339, Value.int 75 0, Value.int 1 0, Value.int 0 0, Value.int 0 0, Value.int 3 0, Value.ref 108, Value.bool true, Value.int 181 0, Value.ref 109, Value.none, Value.ref 110, Value.ref 111, Value.ref 112, Value.int 341 0, Value.int 75 0, Value.str (Str.ofString "/claim/cut.py") 342]) #[]) ::
   (nat_lit 114, Obj.mk (Value.type "function") none (Data.func (FuncData.mk (Str.ofString "need_count") (Str.ofString "need_count") (arOf 13) (.stmts (boOf 13)) (scOf 13) 3 [] Value.none Value.none Value.none (Value.str (Str.ofString "gmp.counts") 335) none (Value.ref 113) Value.none 0)) #[]) ::
   (nat_lit 115, Obj.mk (Value.type "tuple") none (Data.seq #[]) #[]) ::
   (nat_lit 117, Obj.mk (Value.type "tuple") none (Data.seq #[Value.str (Str.ofString "pair") 347, Value.str (Str.ofString "w") 348, Value.str (Str.ofString "mul") 349, Value.str (Str.ofString "here") 350, Value.str (Str.ofString "there") 351, Value.str (Str.ofString "twice") 352]) #[]) ::
   (nat_lit 118, Obj.mk (Value.type "tuple") none (Data.seq #[]) #[]) ::
   (nat_lit 120, Obj.mk (Value.type "code") none (Data.fields #[Value.str (Str.ofString "doubled_pair") 344, Value.str (Str.ofString "doubled_pair") 345, Value.str (Str.ofString "/claim/cut.py") 346, Value.int 78 0, Value.int 3 0, Value.int 0 0, Value.int 0 0, Value.int 3 0, Value.ref 115, Value.bool true, Value.int 181 0, Value.ref 116, Value.none, Value.ref 117, Value.ref 118, Value.ref 119, Value.int 353 0, Value.int 78 0, Value.str (Str.ofString "/claim/cut.py") 354]) #[]) ::
   (nat_lit 121, Obj.mk (Value.type "function") none (Data.func (FuncData.mk (Str.ofString "doubled_pair") (Str.ofString "doubled_pair") (arOf 14) (.stmts (boOf 14)) (scOf 14) 3 [] Value.none Value.none Value.none (Value.str (Str.ofString "gmp.counts") 335) none (Value.ref 120) Value.none 0)) #[]) ::
   (nat_lit 122, Obj.mk (Value.type "tuple") none (Data.seq #[]) #[]) ::
   (nat_lit 124, Obj.mk (Value.type "tuple") none (Data.seq #[Value.str (Str.ofString "n") 359, Value.str (Str.ofString "w") 360, Value.str (Str.ofString "mul") 361, Value.str (Str.ofString "pair") 362, Value.str (Str.ofString "at") 363]) #[]) ::
   (nat_lit 125, Obj.mk (Value.type "tuple") none (Data.seq #[]) #[]) ::
   (nat_lit 127, Obj.mk (Value.type "code") none (Data.fields #[Value.str (Str.ofString "fibonacci_pair") 356, Value.str (Str.ofString "fibonacci_pair") 357, Value.str (Str.ofString "/claim/cut.py") 358, Value.int 82 0, Value.int 3 0, Value.int 0 0, Value.int 0 0, Value.int 3 0, Value.ref 122, Value.bool true, Value.int 181 0, Value.ref 123, Value.none, Value.ref 124, Value.ref 125, Value.ref 126, Value.int 364 0, Value.int 82 0, Value.str (Str.ofString "/claim/cut.py") 365]) #[]) ::
   (nat_lit 128, Obj.mk (Value.type "function") none (Data.func (FuncData.mk (Str.ofString "fibonacci_pair") (Str.ofString "fibonacci_pair") (arOf 15) (.stmts (boOf 15)) (scOf 15) 3 [] Value.none Value.none Value.none (Value.str (Str.ofString "gmp.counts") 335) none (Value.ref 127) Value.none 0)) #[]) ::
   (nat_lit 129, Obj.mk (Value.type "tuple") none (Data.seq #[]) #[]) ::
   (nat_lit 131, Obj.mk (Value.type "tuple") none (Data.seq #[Value.str (Str.ofString "a") 372, Value.str (Str.ofString "b") 373, Value.str (Str.ofString "w") 374, Value.str (Str.ofString "found") 375, Value.str (Str.ofString "mask") 376, Value.str (Str.ofString "at") 377, Value.str (Str.ofString "limb") 378, Value.str (Str.ofString "carry") 379, Value.str (Str.ofString "spot") 380, Value.str (Str.ofString "other") 381]) #[]) ::
   (nat_lit 132, Obj.mk (Value.type "tuple") none (Data.seq #[]) #[]) ::
   (nat_lit 134, Obj.mk (Value.type "code") none (Data.fields #[Value.str (Str.ofString "mul_school") 369, Value.str (Str.ofString "mul_school") 370, Value.str (Str.ofString "/claim/cut.py") 371, Value.int 92 0, Value.int 3 0, Value.int 0 0, Value.int 0 0, Value.int 3 0, Value.ref 129, Value.bool true, Value.int 181 0, Value.ref 130, Value.none, Value.ref 131, Value.ref 132, Value.ref 133, Value.int 382 0, Value.int 92 0, Value.str (Str.ofString "/claim/cut.py") 383]) #[]) ::
   (nat_lit 135, Obj.mk (Value.type "function") none (Data.func (FuncData.mk (Str.ofString "mul_school") (Str.ofString "mul_school") (arOf 17) (.stmts (boOf 17)) (scOf 17) 3 [] Value.none Value.none Value.none (Value.str (Str.ofString "gmp.school") 367) none (Value.ref 134) Value.none 0)) #[]) ::
   (nat_lit 136, Obj.mk (Value.type "tuple") none (Data.seq #[]) #[]) ::
   (nat_lit 138, Obj.mk (Value.type "tuple") none (Data.seq #[Value.str (Str.ofString "a") 388, Value.str (Str.ofString "b") 389, Value.str (Str.ofString "w") 390, Value.str (Str.ofString "quotient") 391, Value.str (Str.ofString "rest") 392]) #[]) ::
   (nat_lit 139, Obj.mk (Value.type "tuple") none (Data.seq #[]) #[]) ::
   (nat_lit 141, Obj.mk (Value.type "code") none (Data.fields #[Value.str (Str.ofString "divrem_small") 385, Value.str (Str.ofString "divrem_small") 386, Value.str (Str.ofString "/claim/cut.py") 387, Value.int 102 0, Value.int 3 0, Value.int 0 0, Value.int 0 0, Value.int 3 0, Value.ref 136, Value.bool true, Value.int 181 0, Value.ref 137, Value.none, Value.ref 138, Value.ref 139, Value.ref 140, Value.int 393 0, Value.int 102 0, Value.str (Str.ofString "/claim/cut.py") 394]) #[]) ::
   (nat_lit 142, Obj.mk (Value.type "function") none (Data.func (FuncData.mk (Str.ofString "divrem_small") (Str.ofString "divrem_small") (arOf 18) (.stmts (boOf 18)) (scOf 18) 3 [] Value.none Value.none Value.none (Value.str (Str.ofString "gmp.school") 367) none (Value.ref 141) Value.none 0)) #[]) ::
   (nat_lit 143, Obj.mk (Value.type "tuple") none (Data.seq #[]) #[]) ::
   (nat_lit 145, Obj.mk (Value.type "tuple") none (Data.seq #[Value.str (Str.ofString "top") 399, Value.str (Str.ofString "first") 400, Value.str (Str.ofString "second") 401, Value.str (Str.ofString "w") 402, Value.str (Str.ofString "high") 403, Value.str (Str.ofString "base") 404, Value.str (Str.ofString "limb") 405, Value.str (Str.ofString "rest") 406]) #[]) ::
   (nat_lit 146, Obj.mk (Value.type "tuple") none (Data.seq #[]) #[]) ::
   (nat_lit 148, Obj.mk (Value.type "code") none (Data.fields #[Value.str (Str.ofString "guessed_limb") 396, Value.str (Str.ofString "guessed_limb") 397, Value.str (Str.ofString "/claim/cut.py") 398, Value.int 105 0, Value.int 4 0, Value.int 0 0, Value.int 0 0, Value.int 3 0, Value.ref 143, Value.bool true, Value.int 181 0, Value.ref 144, Value.none, Value.ref 145, Value.ref 146, Value.ref 147, Value.int 407 0, Value.int 105 0, Value.str (Str.ofString "/claim/cut.py") 408]) #[]) ::
   (nat_lit 149, Obj.mk (Value.type "function") none (Data.func (FuncData.mk (Str.ofString "guessed_limb") (Str.ofString "guessed_limb") (arOf 19) (.stmts (boOf 19)) (scOf 19) 3 [] Value.none Value.none Value.none (Value.str (Str.ofString "gmp.school") 367) none (Value.ref 148) Value.none 0)) #[]) ::
   (nat_lit 150, Obj.mk (Value.type "tuple") none (Data.seq #[]) #[]) ::
   (nat_lit 152, Obj.mk (Value.type "tuple") none (Data.seq #[Value.str (Str.ofString "rest") 413, Value.str (Str.ofString "b") 414, Value.str (Str.ofString "limb") 415, Value.str (Str.ofString "at") 416, Value.str (Str.ofString "w") 417, Value.str (Str.ofString "carry") 418, Value.str (Str.ofString "base") 419, Value.str (Str.ofString "spot") 420, Value.str (Str.ofString "other") 421, Value.str (Str.ofString "here") 422]) #[]) ::
   (nat_lit 153, Obj.mk (Value.type "tuple") none (Data.seq #[]) #[]) ::
   (nat_lit 155, Obj.mk (Value.type "code") none (Data.fields #[Value.str (Str.ofString "take_away") 410, Value.str (Str.ofString "take_away") 411, Value.str (Str.ofString "/claim/cut.py") 412, Value.int 113 0, Value.int 5 0, Value.int 0 0, Value.int 0 0, Value.int 3 0, Value.ref 150, Value.bool true, Value.int 181 0, Value.ref 151, Value.none, Value.ref 152, Value.ref 153, Value.ref 154, Value.int 423 0, Value.int 113 0, Value.str (Str.ofString "/claim/cut.py") 424]) #[]) ::
   (nat_lit 156, Obj.mk (Value.type "function") none (Data.func (FuncData.mk (Str.ofString "take_away") (Str.ofString "take_away") (arOf 20) (.stmts (boOf 20)) (scOf 20) 3 [] Value.none Value.none Value.none (Value.str (Str.ofString "gmp.school") 367) none (Value.ref 155) Value.none 0)) #[]) ::
   (nat_lit 157, Obj.mk (Value.type "tuple") none (Data.seq #[]) #[]) ::
   (nat_lit 159, Obj.mk (Value.type "tuple") none (Data.seq #[Value.str (Str.ofString "rest") 429, Value.str (Str.ofString "b") 430, Value.str (Str.ofString "at") 431, Value.str (Str.ofString "w") 432, Value.str (Str.ofString "carry") 433, Value.str (Str.ofString "mask") 434, Value.str (Str.ofString "spot") 435, Value.str (Str.ofString "other") 436]) #[]) ::
   (nat_lit 160, Obj.mk (Value.type "tuple") none (Data.seq #[]) #[]) ::
   (nat_lit 162, Obj.mk (Value.type "code") none (Data.fields #[Value.str (Str.ofString "put_back") 426, Value.str (Str.ofString "put_back") 427, Value.str (Str.ofString "/claim/cut.py") 428, Value.int 122 0, Value.int 4 0, Value.int 0 0, Value.int 0 0, Value.int 3 0, Value.ref 157, Value.bool true, Value.int 181 0, Value.ref 158, Value.none, Value.ref 159, Value.ref 160, Value.ref 161, Value.int 437 0, Value.int 122 0, Value.str (Str.ofString "/claim/cut.py") 438]) #[]) ::
   (nat_lit 163, Obj.mk (Value.type "function") none (Data.func (FuncData.mk (Str.ofString "put_back") (Str.ofString "put_back") (arOf 21) (.stmts (boOf 21)) (scOf 21) 3 [] Value.none Value.none Value.none (Value.str (Str.ofString "gmp.school") 367) none (Value.ref 162) Value.none 0)) #[]) ::
   (nat_lit 164, Obj.mk (Value.type "tuple") none (Data.seq #[]) #[]) ::
   (nat_lit 166, Obj.mk (Value.type "tuple") none (Data.seq #[Value.str (Str.ofString "rest") 443, Value.str (Str.ofString "b") 444, Value.str (Str.ofString "w") 445, Value.str (Str.ofString "size") 446, Value.str (Str.ofString "quotient") 447, Value.str (Str.ofString "at") 448, Value.str (Str.ofString "limb") 449]) #[]) ::
   (nat_lit 167, Obj.mk (Value.type "tuple") none (Data.seq #[]) #[]) ::
   (nat_lit 169, Obj.mk (Value.type "code") none (Data.fields #[Value.str (Str.ofString "divide_rows") 440, Value.str (Str.ofString "divide_rows") 441, Value.str (Str.ofString "/claim/cut.py") 442, Value.int 129 0, Value.int 3 0, Value.int 0 0, Value.int 0 0, Value.int 3 0, Value.ref 164, Value.bool true, Value.int 181 0, Value.ref 165, Value.none, Value.ref 166, Value.ref 167, Value.ref 168, Value.int 450 0, Value.int 129 0, Value.str (Str.ofString "/claim/cut.py") 451]) #[]) ::
   (nat_lit 170, Obj.mk (Value.type "function") none (Data.func (FuncData.mk (Str.ofString "divide_rows") (Str.ofString "divide_rows") (arOf 22) (.stmts (boOf 22)) (scOf 22) 3 [] Value.none Value.none Value.none (Value.str (Str.ofString "gmp.school") 367) none (Value.ref 169) Value.none 0)) #[]) ::
   (nat_lit 171, Obj.mk (Value.type "tuple") none (Data.seq #[]) #[]) ::
   (nat_lit 173, Obj.mk (Value.type "tuple") none (Data.seq #[Value.str (Str.ofString "a") 456, Value.str (Str.ofString "b") 457, Value.str (Str.ofString "w") 458, Value.str (Str.ofString "shift") 459, Value.str (Str.ofString "divisor") 460, Value.str (Str.ofString "rest") 461, Value.str (Str.ofString "quotient") 462]) #[]) ::
   (nat_lit 174, Obj.mk (Value.type "tuple") none (Data.seq #[]) #[]) ::
   (nat_lit 176, Obj.mk (Value.type "code") none (Data.fields #[Value.str (Str.ofString "divrem_school") 453, Value.str (Str.ofString "divrem_school") 454, Value.str (Str.ofString "/claim/cut.py") 455, Value.int 139 0, Value.int 3 0, Value.int 0 0, Value.int 0 0, Value.int 3 0, Value.ref 171, Value.bool true, Value.int 181 0, Value.ref 172, Value.none, Value.ref 173, Value.ref 174, Value.ref 175, Value.int 463 0, Value.int 139 0, Value.str (Str.ofString "/claim/cut.py") 464]) #[]) ::
   (nat_lit 177, Obj.mk (Value.type "function") none (Data.func (FuncData.mk (Str.ofString "divrem_school") (Str.ofString "divrem_school") (arOf 23) (.stmts (boOf 23)) (scOf 23) 3 [] Value.none Value.none Value.none (Value.str (Str.ofString "gmp.school") 367) none (Value.ref 176) Value.none 0)) #[]) ::
   (nat_lit 178, Obj.mk (Value.type "tuple") none (Data.seq #[]) #[]) ::
   (nat_lit 180, Obj.mk (Value.type "tuple") none (Data.seq #[Value.str (Str.ofString "trail") 471, Value.str (Str.ofString "many") 472]) #[]) ::
   (nat_lit 181, Obj.mk (Value.type "tuple") none (Data.seq #[]) #[]) ::
   (nat_lit 183, Obj.mk (Value.type "code") none (Data.fields #[Value.str (Str.ofString "_law_hopped") 468, Value.str (Str.ofString "_law_hopped") 469, Value.str (Str.ofString "/claim/cut.py") 470, Value.int 153 0, Value.int 2 0, Value.int 0 0, Value.int 0 0, Value.int 3 0, Value.ref 178, Value.bool true, Value.int 181 0, Value.ref 179, Value.none, Value.ref 180, Value.ref 181, Value.ref 182, Value.int 473 0, Value.int 153 0, Value.str (Str.ofString "/claim/cut.py") 474]) #[]) ::
   (nat_lit 184, Obj.mk (Value.type "function") none (Data.func (FuncData.mk (Str.ofString "_law_hopped") (Str.ofString "_law_hopped") (arOf 25) (.stmts (boOf 25)) (scOf 25) 3 [] Value.none Value.none Value.none (Value.str (Str.ofString "law_sj0077_01") 466) none (Value.ref 183) Value.none 0)) #[]) ::
   (nat_lit 185, Obj.mk (Value.type "tuple") none (Data.seq #[]) #[]) ::
   (nat_lit 187, Obj.mk (Value.type "tuple") none (Data.seq #[Value.str (Str.ofString "one") 479, Value.str (Str.ofString "other") 480, Value.str (Str.ofString "w") 481, Value.str (Str.ofString "ahead") 482, Value.str (Str.ofString "here") 483]) #[]) ::
   (nat_lit 188, Obj.mk (Value.type "tuple") none (Data.seq #[]) #[]) ::
   (nat_lit 190, Obj.mk (Value.type "code") none (Data.fields #[Value.str (Str.ofString "_law_summed") 476, Value.str (Str.ofString "_law_summed") 477, Value.str (Str.ofString "/claim/cut.py") 478, Value.int 158 0, Value.int 3 0, Value.int 0 0, Value.int 0 0, Value.int 3 0, Value.ref 185, Value.bool true, Value.int 181 0, Value.ref 186, Value.none, Value.ref 187, Value.ref 188, Value.ref 189, Value.int 484 0, Value.int 158 0, Value.str (Str.ofString "/claim/cut.py") 485]) #[]) ::
   (nat_lit 191, Obj.mk (Value.type "function") none (Data.func (FuncData.mk (Str.ofString "_law_summed") (Str.ofString "_law_summed") (arOf 26) (.stmts (boOf 26)) (scOf 26) 3 [] Value.none Value.none Value.none (Value.str (Str.ofString "law_sj0077_01") 466) none (Value.ref 190) Value.none 0)) #[]) ::
   (nat_lit 192, Obj.mk (Value.type "tuple") none (Data.seq #[]) #[]) ::
   (nat_lit 194, Obj.mk (Value.type "tuple") none (Data.seq #[Value.str (Str.ofString "far") 490, Value.str (Str.ofString "near") 491, Value.str (Str.ofString "is_odd") 492, Value.str (Str.ofString "w") 493, Value.str (Str.ofString "found") 494, Value.str (Str.ofString "one") 495, Value.str (Str.ofString "first") 496, Value.str (Str.ofString "second") 497]) #[]) ::
   (nat_lit 195, Obj.mk (Value.type "tuple") none (Data.seq #[]) #[]) ::
   (nat_lit 197, Obj.mk (Value.type "code") none (Data.fields #[Value.str (Str.ofString "_law_apart") 487, Value.str (Str.ofString "_law_apart") 488, Value.str (Str.ofString "/claim/cut.py") 489, Value.int 162 0, Value.int 4 0, Value.int 0 0, Value.int 0 0, Value.int 3 0, Value.ref 192, Value.bool true, Value.int 181 0, Value.ref 193, Value.none, Value.ref 194, Value.ref 195, Value.ref 196, Value.int 498 0, Value.int 162 0, Value.str (Str.ofString "/claim/cut.py") 499]) #[]) ::
   (nat_lit 198, Obj.mk (Value.type "function") none (Data.func (FuncData.mk (Str.ofString "_law_apart") (Str.ofString "_law_apart") (arOf 27) (.stmts (boOf 27)) (scOf 27) 3 [] Value.none Value.none Value.none (Value.str (Str.ofString "law_sj0077_01") 466) none (Value.ref 197) Value.none 0)) #[]) ::
   (nat_lit 199, Obj.mk (Value.type "tuple") none (Data.seq #[]) #[]) ::
   (nat_lit 201, Obj.mk (Value.type "tuple") none (Data.seq #[Value.str (Str.ofString "form") 504, Value.str (Str.ofString "here") 505, Value.str (Str.ofString "moment") 506, Value.str (Str.ofString "w") 507, Value.str (Str.ofString "place") 508, Value.str (Str.ofString "pair") 509]) #[]) ::
   (nat_lit 202, Obj.mk (Value.type "tuple") none (Data.seq #[]) #[]) ::
   (nat_lit 204, Obj.mk (Value.type "code") none (Data.fields #[Value.str (Str.ofString "_law_gone") 501, Value.str (Str.ofString "_law_gone") 502, Value.str (Str.ofString "/claim/cut.py") 503, Value.int 168 0, Value.int 4 0, Value.int 0 0, Value.int 0 0, Value.int 3 0, Value.ref 199, Value.bool true, Value.int 181 0, Value.ref 200, Value.none, Value.ref 201, Value.ref 202, Value.ref 203, Value.int 510 0, Value.int 168 0, Value.str (Str.ofString "/claim/cut.py") 511]) #[]) ::
   (nat_lit 205, Obj.mk (Value.type "function") none (Data.func (FuncData.mk (Str.ofString "_law_gone") (Str.ofString "_law_gone") (arOf 28) (.stmts (boOf 28)) (scOf 28) 3 [] Value.none Value.none Value.none (Value.str (Str.ofString "law_sj0077_01") 466) none (Value.ref 204) Value.none 0)) #[]) ::
   (nat_lit 206, Obj.mk (Value.type "tuple") none (Data.seq #[]) #[]) ::
   (nat_lit 208, Obj.mk (Value.type "tuple") none (Data.seq #[Value.str (Str.ofString "place") 516, Value.str (Str.ofString "pair") 517, Value.str (Str.ofString "w") 518, Value.str (Str.ofString "square") 519, Value.str (Str.ofString "beside") 520]) #[]) ::
   (nat_lit 209, Obj.mk (Value.type "tuple") none (Data.seq #[]) #[]) ::
   (nat_lit 211, Obj.mk (Value.type "code") none (Data.fields #[Value.str (Str.ofString "_law_are_right") 513, Value.str (Str.ofString "_law_are_right") 514, Value.str (Str.ofString "/claim/cut.py") 515, Value.int 181 0, Value.int 3 0, Value.int 0 0, Value.int 0 0, Value.int 3 0, Value.ref 206, Value.bool true, Value.int 181 0, Value.ref 207, Value.none, Value.ref 208, Value.ref 209, Value.ref 210, Value.int 521 0, Value.int 181 0, Value.str (Str.ofString "/claim/cut.py") 522]) #[]) ::
   (nat_lit 212, Obj.mk (Value.type "function") none (Data.func (FuncData.mk (Str.ofString "_law_are_right") (Str.ofString "_law_are_right") (arOf 29) (.stmts (boOf 29)) (scOf 29) 3 [] Value.none Value.none Value.none (Value.str (Str.ofString "law_sj0077_01") 466) none (Value.ref 211) Value.none 0)) #[]) ::
   (nat_lit 213, Obj.mk (Value.type "tuple") none (Data.seq #[]) #[]) ::
   (nat_lit 215, Obj.mk (Value.type "tuple") none (Data.seq #[Value.str (Str.ofString "one") 527, Value.str (Str.ofString "other") 528, Value.str (Str.ofString "w") 529, Value.str (Str.ofString "first") 530, Value.str (Str.ofString "second") 531, Value.str (Str.ofString "far") 532, Value.str (Str.ofString "near") 533]) #[]) ::
   (nat_lit 216, Obj.mk (Value.type "tuple") none (Data.seq #[]) #[]) ::
   (nat_lit 218, Obj.mk (Value.type "code") none (Data.fields #[Value.str (Str.ofString "_law_fit") 524, Value.str (Str.ofString "_law_fit") 525, Value.str (Str.ofString "/claim/cut.py") 526, Value.int 187 0, Value.int 3 0, Value.int 0 0, Value.int 0 0, Value.int 3 0, Value.ref 213, Value.bool true, Value.int 181 0, Value.ref 214, Value.none, Value.ref 215, Value.ref 216, Value.ref 217, Value.int 534 0, Value.int 187 0, Value.str (Str.ofString "/claim/cut.py") 535]) #[]) ::
   (nat_lit 219, Obj.mk (Value.type "function") none (Data.func (FuncData.mk (Str.ofString "_law_fit") (Str.ofString "_law_fit") (arOf 30) (.stmts (boOf 30)) (scOf 30) 3 [] Value.none Value.none Value.none (Value.str (Str.ofString "law_sj0077_01") 466) none (Value.ref 218) Value.none 0)) #[]) ::
   (nat_lit 220, Obj.mk (Value.type "tuple") none (Data.seq #[]) #[]) ::
   (nat_lit 223, Obj.mk (Value.type "code") none (Data.fields #[Value.str (Str.ofString "law") 537, Value.str (Str.ofString "law") 538, Value.str (Str.ofString "/claim/cut.py") 539, Value.int 195 0, Value.int 1 0, Value.int 0 0, Value.int 0 0, Value.int 3 0, Value.ref 220, Value.bool true, Value.int 181 0, Value.ref 221, Value.none, Value.none, Value.none, Value.ref 222, Value.int 540 0, Value.int 195 0, Value.str (Str.ofString "/claim/cut.py") 541]) #[]) ::
   (nat_lit 224, Obj.mk (Value.type "function") none (Data.func (FuncData.mk (Str.ofString "law") (Str.ofString "law") (arOf 31) (.stmts (boOf 31)) (scOf 31) 3 [] Value.none Value.none Value.none (Value.str (Str.ofString "law_sj0077_01") 466) none (Value.ref 223) Value.none 0)) #[]) :: []
/-- the text as the walk sees it: less the rows that set its own name -/
noncomputable def hd.view_39 : Program :=
  { PySem.Challenge.pw_sj0077_01 with main := { PySem.Challenge.pw_sj0077_01.main with body := PySem.Challenge.pw_sj0077_01.main.body.filter fun | .Assign .. => false | _ => true } }
noncomputable def hd.addrs : List Addr := nat_lit 2 :: nat_lit 3 :: nat_lit 15 :: nat_lit 22 :: nat_lit 23 :: nat_lit 24 :: nat_lit 25 :: nat_lit 28 :: nat_lit 35 :: nat_lit 36 :: nat_lit 37 :: nat_lit 40 :: nat_lit 47 :: nat_lit 48 :: nat_lit 49 :: nat_lit 52 :: nat_lit 54 :: nat_lit 55 :: nat_lit 57 :: nat_lit 58 :: nat_lit 59 :: nat_lit 61 :: nat_lit 62 :: nat_lit 64 :: nat_lit 65 :: nat_lit 66 :: nat_lit 68 :: nat_lit 69 :: nat_lit 71 :: nat_lit 72 :: nat_lit 73 :: nat_lit 75 :: nat_lit 76 :: nat_lit 78 :: nat_lit 79 :: nat_lit 80 :: nat_lit 82 :: nat_lit 83 :: nat_lit 85 :: nat_lit 86 :: nat_lit 87 :: nat_lit 89 :: nat_lit 90 :: nat_lit 92 :: nat_lit 93 :: nat_lit 94 :: nat_lit 96 :: nat_lit 97 :: nat_lit 99 :: nat_lit 100 :: nat_lit 101 :: nat_lit 103 :: nat_lit 104 :: nat_lit 106 :: nat_lit 107 :: nat_lit 108 :: nat_lit 110 :: nat_lit 111 :: nat_lit 113 :: nat_lit 114 :: nat_lit 115 :: nat_lit 117 :: nat_lit 118 :: nat_lit 120 :: nat_lit 121 :: nat_lit 122 :: nat_lit 124 :: nat_lit 125 :: nat_lit 127 :: nat_lit 128 :: nat_lit 129 :: nat_lit 131 :: nat_lit 132 :: nat_lit 134 :: nat_lit 135 :: nat_lit 136 :: nat_lit 138 :: nat_lit 139 :: nat_lit 141 :: nat_lit 142 :: nat_lit 143 :: nat_lit 145 :: nat_lit 146 :: nat_lit 148 :: nat_lit 149 :: nat_lit 150 :: nat_lit 152 :: nat_lit 153 :: nat_lit 155 :: nat_lit 156 :: nat_lit 157 :: nat_lit 159 :: nat_lit 160 :: nat_lit 162 :: nat_lit 163 :: nat_lit 164 :: nat_lit 166 :: nat_lit 167 :: nat_lit 169 :: nat_lit 170 :: nat_lit 171 :: nat_lit 173 :: nat_lit 174 :: nat_lit 176 :: nat_lit 177 :: nat_lit 178 :: nat_lit 180 :: nat_lit 181 :: nat_lit 183 :: nat_lit 184 :: nat_lit 185 :: nat_lit 187 :: nat_lit 188 :: nat_lit 190 :: nat_lit 191 :: nat_lit 192 :: nat_lit 194 :: nat_lit 195 :: nat_lit 197 :: nat_lit 198 :: nat_lit 199 :: nat_lit 201 :: nat_lit 202 :: nat_lit 204 :: nat_lit 205 :: nat_lit 206 :: nat_lit 208 :: nat_lit 209 :: nat_lit 211 :: nat_lit 212 :: nat_lit 213 :: nat_lit 215 :: nat_lit 216 :: nat_lit 218 :: nat_lit 219 :: nat_lit 220 :: nat_lit 223 :: nat_lit 224 :: []
theorem hd.addrs_ok (P : Params) : hd.addrs = (hd.heap_39 P).map (·.1) := by kernel_rfl
theorem hd.said : PySem.Challenge.rw_sj0077_01.wellSaid = true := by
  unfold OpenLaw.wellSaid OpenRow.wellSaid OpenRow.partSaid looksOpen
  repeat' (with_reducible refine look_both ?_ ?_)
  all_goals decide +kernel
noncomputable abbrev hd.pr : Program := (OpenRow.toRowW (OpenLaw.row PySem.Challenge.rw_sj0077_01)).prog
noncomputable abbrev hd.xt : Shared → Bool := fun s => xlAt hd.view_39 [] s && recOk (RowW.records (OpenRow.toRowW (OpenLaw.row PySem.Challenge.rw_sj0077_01))) s
theorem hd.run (w : World) (os : OsState) : topRun treeTable PySem.Challenge.pw_sj0077_01 w 11 (some (.ref 6)) 2053 ⟨boot_heap w.params, ⟨[]⟩, boot_drawn, boot_toks, os⟩ (topStub PySem.Challenge.pw_sj0077_01) = some (hd.st hd.heap3 543 w os) := by
  have e : hd.b = hd.b.take 4 ++ ((hd.b.drop 4).take 12 ++ ((hd.b.drop 4).drop 12 ++ [])) := by simp only [List.append_nil, List.take_append_drop]
  refine go_top (n := 12) (N := 2041) (hd.run0 w os) ?_
  refine piece_block (n := 1) (N := 2040) (hd.runB w os) ?_
  rw [e]
  refine piece_app (n := 632) (N := 1408) (hd.run1 w os) ?_
  refine piece_app (n := 600) (N := 808) (hd.run2 w os) ?_
  refine piece_app (n := 800) (N := 8) (hd.run3 w os) ?_
  exact topRun_mono 5 _ _ _ _ (hd.run4 w os)
theorem hd.size (w : World) : ((boot_heap w.params).isNs mainGlobals && (Array.mk [] : Array GenState).size == 0, (boot_heap w.params).objs.size, (boot_heap w.params).nsMap mainGlobals "__annotations__") = (true, 11, some (.ref 6)) := by kernel_rfl
theorem hd.left : LeftO hd.pr hd.view_39 [] hd.xt (Hook.obs (kHook hd.heap_39 hd.addrs hd.addrs_ok)) (Hook.val (kHook hd.heap_39 hd.addrs hd.addrs_ok)) 3130 :=
  LeftO.of_pieces (H₀ := boot_heap) (H₁ := hd.heap3) (gs₀ := ⟨[]⟩) (gs₁ := ⟨[]⟩) (d₀ := boot_drawn) (d₁ := boot_drawn) (k₀ := boot_toks) (k₁ := 543) (m₀ := 11) (ann := some (.ref 6)) (M := 2053)
    hd.opens hd.size hd.run (by kernel_rfl) fun w => funext fun os => Prod.ext (by kernel_rfl) (Prod.ext (by kernel_rfl) (by kernel_rfl))
theorem hd {d : DefRec} (hdef : defOf hd.view_39 (OpenRow.toRowW (OpenLaw.row PySem.Challenge.rw_sj0077_01)).name = some (d, []))
    (hp : (OpenRow.toRowW (OpenLaw.row PySem.Challenge.rw_sj0077_01)).prog.theDef (OpenRow.toRowW (OpenLaw.row PySem.Challenge.rw_sj0077_01)).name = some (d.params, d.body, d.scope)) (hk : kwWritten? d.params.kwonlyargs d.params.kw_defaults = some [])
    (walk : WalkO hd.view_39 [] (XL hd.view_39 []) (kHook hd.heap_39 hd.addrs hd.addrs_ok).says (OpenRow.toRowW (OpenLaw.row PySem.Challenge.rw_sj0077_01)) d [] fun f vs => PySem.call f vs) :
    PySem.Challenge.rw_sj0077_01.Holds := by
  w_on
  refine holds_law hd.said fun said => ?_
  refine PySem.W.holds_open (q := hd.view_39) (loose := []) (XP := XL hd.view_39 []) (YP := Hook.says (kHook hd.heap_39 hd.addrs hd.addrs_ok)) hd.left (Hook.of _) (Hook.keeps _) (fun s e => xl_of s (Bool.and_eq_true_iff.mp e).1) XL.keeps hdef hp hk (fun s e => recFacts_of (Bool.and_eq_true_iff.mp e).2) rfl (by assumption) (by decide +kernel) ⟨rfl, rfl, rfl, rfl, rfl, by decide +kernel⟩ ?hw walk
  case hw => w_witness2
end Mine
end
section
open PySem PySem.W
namespace Mine
/-- the head leaves the walker's switch for the top on; the contracts walk with it off -/
theorem switched_off : True := by
  w_top off
  trivial
end Mine
end

/-! Base -/
section
open PySem PySem.W PySem.Calls PyProof.Rows
set_option Elab.async false
set_option maxRecDepth 100000
namespace Mine





/-- heap growth: what stood, stands -/
def Kp (h h' : Heap) : Prop := ∀ b o, h.get? b = some o → h'.get? b = some o

theorem Kp.refl {h : Heap} : Kp h h := fun _ _ e => e
theorem Kp.trans {a b c : Heap} (x : Kp a b) (y : Kp b c) : Kp a c := fun q o e => y q o (x q o e)

/-- what a call needs of the place where it is made -/
structure Cx (w : World) (A : Around) (h : Heap) (d : Nat) : Prop where
  calm : A.handled = none
  room : A.depth + d < 1000
  units : A.units + 8 * d < 9900
  below : ∃ base outer, Below A base outer h
  kin : (hd.heap_39 w.params).In h
  top : ∃ mean mg mb, Top hd.view_39 (looseW hd.view_39 []) mean mg mb h

theorem Cx.less {w : World} {A : Around} {h : Heap} {d d' : Nat} (C : Cx w A h d) (hle : d' ≤ d) : Cx w A h d' :=
  ⟨C.calm, by have := C.room; omega, by have := C.units; omega, C.below, C.kin, C.top⟩

theorem Cx.deeper {w : World} {A : Around} {g h : Heap} {d : Nat} {L a : Addr} {m : Str → Option Value} {name : Str} {scope : Scope} {cd : Value}
    (C : Cx w A g (d + 1)) (F : Fr g L h m) (hk : scope.kind = .function := by rfl) : Cx w (A.deeper (envOf name scope L a cd)) h d := by
  obtain ⟨base, outer, B⟩ := C.below
  obtain ⟨mean, mg, mb, T⟩ := C.top
  refine ⟨C.calm, ?_, ?_, ⟨base, _, B.push F hk⟩, C.kin.keeps F.keep, ⟨mean, mg, mb, T.keeps F.keep⟩⟩
  · have := C.room; simp only [Around.deeper]; omega
  · have := C.units; simp only [Around.deeper]; omega

theorem enter {w : World} {A : Around} {s : Shared} {Q : Value → Shared → Prop} {E : Value → Shared → Prop} {d : Nat}
    {name qual : Str} {params params' : Arguments} {body body' : List Stmt} {scope scope' : Scope} {dV kV doc pm cdv ct oc : Value} {an od : Option Addr} {osl : Array (Option Value)} {f : Addr} {args : List Value} {binds : List (Str × Value)}
    (C : Cx w A s.heap (d + 1))
    (ho : (hd.heap_39 w.params).lookup f = some ⟨oc, od, .func (fnOf name qual params body scope dV kV doc pm an cdv ct), osl⟩) (hcd : codeIn (hd.heap_39 w.params) cdv qual = true)
    (hbind : bindArgs (fnOf name qual params' body' scope' dV kV doc pm an cdv ct) ⟨args, []⟩ = pure binds)
    (hloc : ∀ y ∈ binds, scope'.names.lookup y.1 = some .local)
    (h : ∀ L h₁, Fr s.heap L h₁ (fun y => binds.reverse.lookup y) → News s.heap L h₁ [] →
      wpAny (model PySem.Challenge.rw_sj0077_01.row.prog w) (A.deeper (envOf qual scope' L f cdv)) (execs body' (envOf qual scope' L f cdv))
        (fun fl s' => Q (match fl with | .ret v => v | _ => .none) s') (fun _ _ => False)
        { s with heap := h₁, toks := s.toks + binds.length })
    (hco : scope'.isCoroutine = false := by rfl) (hgen : scope'.isGenerator = false := by rfl) (hk : scope'.kind = .function := by rfl)
    (hcell : ∀ x ∈ scope'.names, x.2 ≠ .cell := by decide)
    (e1 : params = params') (e2 : body = body') (e3 : scope = scope') : wpAny (model PySem.Challenge.rw_sj0077_01.row.prog w) A (call (.ref f) args) Q E s := by
  subst e1 e2 e3
  obtain ⟨mean, mg, mb, T⟩ := C.top
  refine wpAny_call ?_
  refine codeAny_call_def (fd := fnOf name qual params body scope dV kV doc pm an cdv ct) (body := body) (binds := binds) (by have := C.room; simp only [recursionLimit]; omega) (C.kin _ _ ho) rfl T.nolimit (codeRec_of C.kin hcd) rfl (.of_eq hbind) hcell hloc (fun h₁ hns hk₁ => ?_) hco hgen hk
  exact wpAny_mono (h s.heap.objs.size h₁ ⟨hns, hk₁, Nat.le_refl _⟩ News.nil) (fun _ _ x => x) (fun _ _ x => x.elim)

/-- one element of a goal that is to stand still under the walk -/
structure Halt (P : Prop) : Prop where
  out : P

theorem halted {P : Prop} (h : Halt P) : P := h.out
end Mine
end

/-! Loops -/
section
open PySem PySem.W PySem.Calls PyProof.Rows PySem.Spec PyProof.V
set_option Elab.async false
set_option maxRecDepth 100000
namespace Mine

/-- a turn's end: the state's letters, the frame, the ledger -/
def TE {σ : Type} (h₀ : Heap) (L : Addr) (Led : σ → List (Addr × Obj)) (ps : σ → List (Str × Value)) (P : σ → Prop) (own : List (Addr × Obj)) (s₁ s₂ : Shared) : Prop :=
  ∃ c' h' tk' m', s₂ = { s₁ with heap := h', toks := tk' } ∧ Fr h₀ L h' m' ∧ News h₀ L h' (Led c' ++ own) ∧ (∀ p ∈ ps c', m' p.1 = some p.2) ∧ P c'

theorem TE.intro {σ : Type} {h₀ : Heap} {L : Addr} {Led : σ → List (Addr × Obj)} {ps : σ → List (Str × Value)} {P : σ → Prop} {own : List (Addr × Obj)} {s₁ : Shared} (c' : σ) {h' : Heap} {tk' : Nat} {m' : Str → Option Value} {news' : List (Addr × Obj)}
    (F : Fr h₀ L h' m') (N : News h₀ L h' news') (hl : ∀ p ∈ Led c', p ∈ news') (ho : ∀ p ∈ own, p ∈ news') (hk : ∀ p ∈ ps c', m' p.1 = some p.2) (hp : P c') :
    TE h₀ L Led ps P own s₁ { s₁ with heap := h', toks := tk' } :=
  ⟨c', h', tk', m', rfl, F, fun p hp => N p ((List.mem_append.mp hp).elim (hl p) (ho p)), hk, hp⟩

/-- a turn's end, by the flow -/
def TEF {σ : Type} (h₀ : Heap) (L : Addr) (Led : σ → List (Addr × Obj)) (ps : σ → List (Str × Value)) (P : σ → Prop) (own : List (Addr × Obj)) (s₁ : Shared) (Q : Flow → Shared → Prop) (f : Flow) (s₂ : Shared) : Prop :=
  match f with
  | .ret v => Q (.ret v) s₂
  | .brk => Q .next s₂
  | _ => TE h₀ L Led ps P own s₁ s₂

theorem kstB_self {m : Str → Option Value} {ps : List (Str × Value)} (hk : ∀ p ∈ ps, m p.1 = some p.2) : kstB m ps = m := by
  funext z
  exact kstB_eq hk fun _ => rfl

theorem Fr.norm {h₀ : Heap} {L : Addr} {h : Heap} {m : Str → Option Value} (F : Fr h₀ L h m) {ps : List (Str × Value)} (hk : ∀ p ∈ ps, m p.1 = some p.2) : Fr h₀ L h (kstB m ps) := by
  rw [kstB_self hk]; exact F

theorem Fr.norm1 {h₀ : Heap} {L : Addr} {h : Heap} {m : Str → Option Value} {x : Str} {v : Value} (F : Fr h₀ L h (fun y => if y = x then some v else m y)) {ps : List (Str × Value)} (hk : ∀ p ∈ ps, m p.1 = some p.2) : Fr h₀ L h (kstB m ((x, v) :: ps)) := by
  have e : kstB m ((x, v) :: ps) = fun y => if y = x then some v else m y := by
    funext z
    show (if z = x then some v else kstB m ps z) = _
    rw [kstB_self hk]
  rw [e]; exact F

theorem Fr.norm2 {h₀ : Heap} {L : Addr} {h : Heap} {m : Str → Option Value} {x y : Str} {v v' : Value} (F : Fr h₀ L h (fun z => if z = x then some v else if z = y then some v' else m z)) {ps : List (Str × Value)} (hk : ∀ p ∈ ps, m p.1 = some p.2) : Fr h₀ L h (kstB m ((x, v) :: (y, v') :: ps)) := by
  have e : kstB m ((x, v) :: (y, v') :: ps) = fun z => if z = x then some v else if z = y then some v' else m z := by
    funext z
    show (if z = x then some v else if z = y then some v' else kstB m ps z) = _
    rw [kstB_self hk]
  rw [e]; exact F

section
variable {prog : Program} {w : World} {A : Around} {E : Value → Shared → Prop} {s : Shared} {env : Env} {h₀ : Heap} {L : Addr} {x : Str} {body : List Stmt} {Q : Flow → Shared → Prop} {σ : Type}

/-- what a walk of fixed addresses gives -/
theorem walks_ {I : Addr} {fp wr : List Addr} {n : Nat} {V : Nat → Value → Prop} {St : Nat → Heap → Prop} {m₀ : Str → Option Value} (Led : σ → List (Addr × Obj)) (ps : σ → List (Str × Value)) (P : Nat → σ → Prop) (c₀ : σ) (adr : List Addr)
    (hadr : ∀ c, (Led c).map (·.1) = adr) (hL : env.locals = L)
    (W : Walks prog w A I fp wr n V St) (hLf : L ∉ fp) (hwr : ∀ b ∈ wr, h₀.get? b = none) (hfp : ∀ q ∈ adr, q ∉ fp) (hst : St 0 s.heap)
    (F : Fr h₀ L s.heap m₀) (N : News h₀ L s.heap (Led c₀)) (hk : ∀ p ∈ ps c₀, m₀ p.1 = some p.2) (hp : P 0 c₀)
    (turn : ∀ i v c u h tk own, i < n → V i v → P i c → OwnOff own adr → Fr h₀ L h (kstB u ((x, v) :: ps c)) → News h₀ L h (Led c ++ own) →
      wpAny (model prog w) A (execs body env) (TEF h₀ L Led ps (P (i + 1)) own { s with heap := h, toks := tk } Q) E { s with heap := h, toks := tk })
    (done : ∀ c u h tk, P n c → Fr h₀ L h (kstB u (ps c)) → News h₀ L h (Led c) → Q .next { s with heap := h, toks := tk }) :
    LoopAtV prog w A h₀ env x body Q E (.ref I) s := by
  subst hL
  have hq : ∀ q ∈ Led c₀, q.1 ∉ fp := fun q hq => hfp q.1 (hadr c₀ ▸ List.mem_map.mpr ⟨q, hq, rfl⟩)
  refine loop_invN (fun i m nx => ∃ c, nx = Led c ∧ (∀ p ∈ ps c, m p.1 = some p.2) ∧ P i c) W hLf hwr (fun p hp hw => hq p hp (W.sub _ hw)) hq hst F N ⟨c₀, rfl, hk, hp⟩ ?_ ?_
  · rintro i v m₁ nx h tk own hi hv _ hoff ⟨c, rfl, hk', hp'⟩ F₁ N₁
    rw [hadr] at hoff ⊢
    refine wpAny_mono (turn i v c m₁ h tk own hi hv hp' hoff (Fr.norm1 F₁ hk') N₁) (fun f s₂ q => ?_) fun _ _ e => e
    have fin : TE h₀ env.locals Led ps (P (i + 1)) own { s with heap := h, toks := tk } s₂ → InvEndN h₀ env.locals (fun m nx => ∃ c, nx = Led c ∧ (∀ p ∈ ps c, m p.1 = some p.2) ∧ P (i + 1) c) own adr { s with heap := h, toks := tk } s₂ := by
      rintro ⟨c', h', tk', m', e, F', N', hk'', hp''⟩
      exact ⟨h', tk', m', Led c' ++ own, Led c', e, F', N', fun p hp => List.mem_append_left _ hp, fun p hp => List.mem_append_right _ hp, hadr c', c', rfl, hk'', hp''⟩
    cases f with
    | ret v => exact q
    | brk => exact q
    | next => exact fin q
    | cont => exact fin q
  · rintro m₁ nx h tk ⟨c, rfl, hk', hp'⟩ F₁ N₁
    exact done c m₁ h tk hp' (Fr.norm F₁ hk') N₁

/-- for x in range(a, b) -/
theorem rng_ {r : Addr} {a₀ b₀ : Int} {t₀ u₀ v₀ : Tok} {m₀ : Str → Option Value} (Led : σ → List (Addr × Obj)) (ps : σ → List (Str × Value)) (P : Nat → σ → Prop) (c₀ : σ) (adr : List Addr)
    (hadr : ∀ c, (Led c).map (·.1) = adr) (hL : env.locals = L) (hh : A.handled = none) (hr : IsRange s.heap r a₀ b₀ 1 t₀ u₀ v₀)
    (h1 : -(2 ^ 62) ≤ a₀) (h2 : a₀ < 2 ^ 62) (h3 : -(2 ^ 62) ≤ b₀) (h4 : b₀ < 2 ^ 62)
    (F : Fr h₀ L s.heap m₀) (N : News h₀ L s.heap (Led c₀)) (hk : ∀ p ∈ ps c₀, m₀ p.1 = some p.2) (hp : P 0 c₀)
    (turn : ∀ (i : Nat) t c u h tk own, (i : Int) < b₀ - a₀ → P i c → OwnOff own adr → Fr h₀ L h (kstB u ((x, .int (a₀ + i) t) :: ps c)) → News h₀ L h (Led c ++ own) →
      wpAny (model prog w) A (execs body env) (TEF h₀ L Led ps (P (i + 1)) own { s with heap := h, toks := tk } Q) E { s with heap := h, toks := tk })
    (done : ∀ c u h tk, P (b₀ - a₀).toNat c → Fr h₀ L h (kstB u (ps c)) → News h₀ L h (Led c) → Q .next { s with heap := h, toks := tk }) :
    wpAny (model prog w) A (pyIter (.ref r)) (fun it s₂ => LoopAtV prog w A h₀ env x body Q E it s₂) E s := by
  have hsz : Builtin.Range.rangeSize a₀ b₀ 1 = ((b₀ - a₀).toNat : Int) := by
    unfold Builtin.Range.rangeSize
    simp only [show ((1 : Int) > 0) by decide, if_true, Int.ediv_one]
    split <;> omega
  have hsmall : Builtin.Range.small a₀ b₀ 1 = true := by
    unfold Builtin.Range.small
    rw [hsz]
    simp only [Builtin.Range.rangeFitsLong, Bool.and_eq_true, Bool.or_eq_true, decide_eq_true_eq, beq_iff_eq, show ((1 : Int) > 0) by decide, if_true]
    omega
  refine wpAny_pyIter_range hr hsmall ?_
  have W := (Walks.range (prog := prog) (w := w) (A := A) hh s.heap.objs.size a₀ 1 (b₀ - a₀).toNat)
  refine walks_ Led ps P c₀ adr hadr hL W ?_ ?_ ?_ (by show IsRangeIter _ _ _ _ _; rw [hsz]; simpa using Heap.get?_push_size _ rfl) (F.push _) (fun p hp => ⟨Heap.get?_push_of_some _ (N p hp).1, (N p hp).2⟩) hk hp ?_ ?_
  · intro hm
    exact absurd F.ns.lt ((List.mem_singleton.mp hm) ▸ Nat.lt_irrefl _)
  · intro b hb
    rw [List.mem_singleton.mp hb]
    exact next_is_new F
  · intro q hq hI
    rw [← hadr c₀] at hq
    obtain ⟨p, hp, rfl⟩ := List.mem_map.mp hq
    exact absurd (Heap.lt_size (N p hp).1) ((List.mem_singleton.mp hI) ▸ Nat.lt_irrefl _)
  · rintro i v c u h tk own hi ⟨t, rfl⟩ hp' hoff F₁ N₁
    have e1 : a₀ + (i : Int) * 1 = a₀ + (i : Int) := by omega
    rw [e1] at F₁
    exact turn i t c u h tk own (by omega) hp' hoff F₁ N₁
  · intro c u h tk hp' F₁ N₁
    exact done c u h tk hp' F₁ N₁

/-- for x in range(a, b, -1) -/
theorem rngD_ {r : Addr} {a₀ b₀ : Int} {t₀ u₀ v₀ : Tok} {m₀ : Str → Option Value} (Led : σ → List (Addr × Obj)) (ps : σ → List (Str × Value)) (P : Nat → σ → Prop) (c₀ : σ) (adr : List Addr)
    (hadr : ∀ c, (Led c).map (·.1) = adr) (hL : env.locals = L) (hh : A.handled = none) (hr : IsRange s.heap r a₀ b₀ (-1) t₀ u₀ v₀)
    (h1 : -(2 ^ 62) ≤ a₀) (h2 : a₀ < 2 ^ 62) (h3 : -(2 ^ 62) ≤ b₀) (h4 : b₀ < 2 ^ 62)
    (F : Fr h₀ L s.heap m₀) (N : News h₀ L s.heap (Led c₀)) (hk : ∀ p ∈ ps c₀, m₀ p.1 = some p.2) (hp : P 0 c₀)
    (turn : ∀ (i : Nat) t c u h tk own, (i : Int) < a₀ - b₀ → P i c → OwnOff own adr → Fr h₀ L h (kstB u ((x, .int (a₀ - i) t) :: ps c)) → News h₀ L h (Led c ++ own) →
      wpAny (model prog w) A (execs body env) (TEF h₀ L Led ps (P (i + 1)) own { s with heap := h, toks := tk } Q) E { s with heap := h, toks := tk })
    (done : ∀ c u h tk, P (a₀ - b₀).toNat c → Fr h₀ L h (kstB u (ps c)) → News h₀ L h (Led c) → Q .next { s with heap := h, toks := tk }) :
    wpAny (model prog w) A (pyIter (.ref r)) (fun it s₂ => LoopAtV prog w A h₀ env x body Q E it s₂) E s := by
  have hsz := rangeSize_downNat a₀ b₀
  have hsmall : Builtin.Range.small a₀ b₀ (-1) = true := small_down h1 h2 h3 h4
  refine wpAny_pyIter_range hr hsmall ?_
  have W := (Walks.range (prog := prog) (w := w) (A := A) hh s.heap.objs.size a₀ (-1) (a₀ - b₀).toNat)
  refine walks_ Led ps P c₀ adr hadr hL W ?_ ?_ ?_ (by show IsRangeIter _ _ _ _ _; rw [hsz]; simpa using Heap.get?_push_size _ rfl) (F.push _) (fun p hp => ⟨Heap.get?_push_of_some _ (N p hp).1, (N p hp).2⟩) hk hp ?_ ?_
  · intro hm
    exact absurd F.ns.lt ((List.mem_singleton.mp hm) ▸ Nat.lt_irrefl _)
  · intro b hb
    rw [List.mem_singleton.mp hb]
    exact next_is_new F
  · intro q hq hI
    rw [← hadr c₀] at hq
    obtain ⟨p, hp, rfl⟩ := List.mem_map.mp hq
    exact absurd (Heap.lt_size (N p hp).1) ((List.mem_singleton.mp hI) ▸ Nat.lt_irrefl _)
  · rintro i v c u h tk own hi ⟨t, rfl⟩ hp' hoff F₁ N₁
    have e1 : a₀ + (i : Int) * (-1) = a₀ - (i : Int) := by omega
    rw [e1] at F₁
    exact turn i t c u h tk own (by omega) hp' hoff F₁ N₁
  · intro c u h tk hp' F₁ N₁
    exact done c u h tk hp' F₁ N₁

/-- for x in a list of ints of the base -/
theorem lst_ {l : Addr} {vs : List Value} {ns : List Int} {m₀ : Str → Option Value} (Led : σ → List (Addr × Obj)) (ps : σ → List (Str × Value)) (P : Nat → σ → Prop) (c₀ : σ) (adr : List Addr)
    (hadr : ∀ c, (Led c).map (·.1) = adr) (hL : env.locals = L) (hh : A.handled = none) (hl : h₀.IsList l vs.toArray) (hi : IntsAre vs ns)
    (F : Fr h₀ L s.heap m₀) (N : News h₀ L s.heap (Led c₀)) (hk : ∀ p ∈ ps c₀, m₀ p.1 = some p.2) (hp : P 0 c₀)
    (turn : ∀ (i : Nat) n t c u h tk own, ns[i]? = some n → P i c → OwnOff own adr → Fr h₀ L h (kstB u ((x, .int n t) :: ps c)) → News h₀ L h (Led c ++ own) →
      wpAny (model prog w) A (execs body env) (TEF h₀ L Led ps (P (i + 1)) own { s with heap := h, toks := tk } Q) E { s with heap := h, toks := tk })
    (done : ∀ c u h tk, P ns.length c → Fr h₀ L h (kstB u (ps c)) → News h₀ L h (Led c) → Q .next { s with heap := h, toks := tk }) :
    wpAny (model prog w) A (pyIter (.ref l)) (fun it s₂ => LoopAtV prog w A h₀ env x body Q E it s₂) E s := by
  have hls : s.heap.IsList l vs.toArray := hl.at fun o e => F.keep l o e
  obtain ⟨ol, hol, _⟩ := id hl
  have hlt : l < h₀.objs.size := Heap.lt_size hol
  have hne : l ≠ s.heap.objs.size := Nat.ne_of_lt (Nat.lt_trans (Nat.lt_of_lt_of_le hlt F.above) F.ns.lt)
  refine wpAny_pyIter_list hls ?_
  have W := Walks.list (prog := prog) (w := w) hh s.heap.objs.size l hne vs.toArray
  have hlen : vs.toArray.size = ns.length := by simp [hi.length]
  rw [hlen] at W
  refine walks_ Led ps P c₀ adr hadr hL W ?_ ?_ ?_ ⟨⟨_, Heap.get?_push_size _ rfl, rfl, rfl⟩, hls.at fun o e => Heap.get?_push_of_some _ e⟩ (F.push _) (fun p hp => ⟨Heap.get?_push_of_some _ (N p hp).1, (N p hp).2⟩) hk hp ?_ ?_
  · intro hm
    rcases List.mem_cons.mp hm with e | hm
    · exact absurd F.ns.lt (e ▸ Nat.lt_irrefl _)
    · exact absurd (Nat.lt_of_lt_of_le hlt F.above) ((List.mem_singleton.mp hm) ▸ Nat.lt_irrefl _)
  · intro b hb
    rw [List.mem_singleton.mp hb]
    exact next_is_new F
  · intro q hq hI
    rw [← hadr c₀] at hq
    obtain ⟨p, hp, rfl⟩ := List.mem_map.mp hq
    rcases List.mem_cons.mp hI with e | hI
    · exact absurd (Heap.lt_size (N p hp).1) (e ▸ Nat.lt_irrefl _)
    · have h3 := (N p hp).2.2
      rw [List.mem_singleton.mp hI, hol] at h3
      cases h3
  · rintro i v c u h tk own hi' hv hp' hoff F₁ N₁
    obtain ⟨n, t, rfl, hn⟩ := hi.at i v (by simpa using hv)
    exact turn i n t c u h tk own hn hp' hoff F₁ N₁
  · intro c u h tk hp' F₁ N₁
    exact done c u h tk hp' F₁ N₁

/-- for i, x in enumerate(a list of ints of the base) -/
theorem enum_ {xi xc : Str} {xv : Value} {ns : List Int} {m₀ : Str → Option Value} {news : List (Addr × Obj)} (Led : σ → List (Addr × Obj)) (ps : σ → List (Str × Value)) (P : Nat → σ → Prop) (c₀ : σ) (adr : List Addr)
    (hadr : ∀ c, (Led c).map (·.1) = adr) (hL : env.locals = L) (S : PairSrcL prog w A E h₀ L ItemKind.int ns xv s m₀ news) (hnews : news = Led c₀)
    (hk : ∀ p ∈ ps c₀, m₀ p.1 = some p.2) (hp : P 0 c₀)
    (turn : ∀ (i : Nat) n ti t c u h tk own, ns[i]? = some n → P i c → OwnOff own adr → Fr h₀ L h (kstB u ((xc, .int n t) :: (xi, .int i ti) :: ps c)) → News h₀ L h (Led c ++ own) →
      wpAny (model prog w) A (execs body env) (TEF h₀ L Led ps (P (i + 1)) own { s with heap := h, toks := tk } Q) E { s with heap := h, toks := tk })
    (done : ∀ c u h tk, P ns.length c → Fr h₀ L h (kstB u (ps c)) → News h₀ L h (Led c) → Q .next { s with heap := h, toks := tk }) :
    wpAny (model prog w) A (pyIter xv) (fun it s₂ => PairAt3 prog w A h₀ env xi xc body Q E it s₂) E s := by
  refine S env hL xi xc body Q (fun i m nx => ∃ c, nx = Led c ∧ (∀ p ∈ ps c, m p.1 = some p.2) ∧ P i c) ⟨c₀, hnews, hk, hp⟩ ?_ ?_
  · rintro i n ti v m₁ nx s₁ own ⟨h, tk, rfl⟩ hn hv ⟨c, rfl, hk', hp'⟩ h1 h2 F₁ N₁
    obtain ⟨t, rfl⟩ := ItemKind.int_is hv
    subst hL
    have hoff : OwnOff own adr := fun p hp b hb e => by
      rw [← hadr c₀, ← hnews] at hb
      obtain ⟨q, hq, rfl⟩ := List.mem_map.mp hb
      exact h2 p hp q hq e
    have N₂ : News h₀ env.locals h (Led c ++ own) := fun p hp => N₁ p ((List.mem_append.mp hp).elim (fun h => List.mem_append.mpr (.inr h)) fun h => List.mem_append.mpr (.inl h))
    refine wpAny_mono (turn i n ti t c m₁ h tk own hn hp' hoff (Fr.norm2 F₁ hk') N₂) (fun f s₂ q => ?_) fun _ _ e => e
    have fin : TE h₀ env.locals Led ps (P (i + 1)) own { s with heap := h, toks := tk } s₂ → LoopStep2 h₀ env.locals own (Led c) (fun m nx => ∃ c, nx = Led c ∧ (∀ p ∈ ps c, m p.1 = some p.2) ∧ P (i + 1) c) { s with heap := h, toks := tk } .next s₂ := by
      rintro ⟨c', h', tk', m', e, F', N', hk'', hp''⟩
      refine ⟨rfl, h', tk', m', Led c', e, F', fun p hp => N' p ((List.mem_append.mp hp).elim (fun h => List.mem_append.mpr (.inr h)) fun h => List.mem_append.mpr (.inl h)), by rw [hadr, hadr], c', rfl, hk'', hp''⟩
    cases f with
    | ret v => exact q
    | brk => exact q
    | next => exact fin q
    | cont => exact fin q
  · rintro h' tk m' nx F' N' _ ⟨c, rfl, hk', hp'⟩
    subst hL
    exact done c m' h' tk hp' (Fr.norm F' hk') N'

/-- a while by a word and a measure -/
theorem whl_ {test : Expr} {pos : Pos} {m₀ : Str → Option Value} (Led : σ → List (Addr × Obj)) (ps : σ → List (Str × Value)) (P : σ → Prop) (μ : σ → Nat) (c₀ : σ)
    (F : Fr h₀ L s.heap m₀) (N : News h₀ L s.heap (Led c₀)) (hk : ∀ p ∈ ps c₀, m₀ p.1 = some p.2) (hp : P c₀)
    (turn : ∀ c u h tk, P c → Fr h₀ L h (kstB u (ps c)) → News h₀ L h (Led c) →
      wpAny (model prog w) A (isTrue test env (eval test env)) (fun b s₂ =>
        if b = true then wpAny (model prog w) A (execs body env) (TEF h₀ L Led ps (fun c' => P c' ∧ μ c' < μ c) [] s Q) E s₂ else Q .next s₂) E { s with heap := h, toks := tk })
    (hE : PassesOwn (model prog w) A env E := by passes_own) :
    wpAny (model prog w) A (exec (.While test body [] pos) env) Q E s := by
  refine While_inv2 (fun n m nx => ∃ c : σ, nx = Led c ∧ μ c = n ∧ (∀ p ∈ ps c, m p.1 = some p.2) ∧ P c) F N ⟨c₀, rfl, rfl, hk, hp⟩ ?_ hE
  rintro n m₁ nx h tk F₁ N₁ ⟨c, hnx, hsz, h1, hp'⟩
  subst hnx hsz
  refine wpAny_mono (turn c m₁ h tk hp' (Fr.norm F₁ h1) N₁) (fun b s₂ p => ?_) fun _ _ x => x
  cases b with
  | false => simpa using p
  | true =>
    simp only [if_true] at p ⊢
    refine wpAny_mono p (fun f s₃ q => ?_) fun _ _ x => x
    cases f with
    | ret v => exact q
    | brk => exact q
    | next =>
      obtain ⟨c', h', tk', m', rfl, F', N', hk9, hp9, hm9⟩ := q
      exact ⟨h', tk', m', Led c', μ c', rfl, F', fun p hp => N' p (List.mem_append_left _ hp), hm9, c', rfl, rfl, hk9, hp9⟩
    | cont =>
      obtain ⟨c', h', tk', m', rfl, F', N', hk9, hp9, hm9⟩ := q
      exact ⟨h', tk', m', Led c', μ c', rfl, F', fun p hp => N' p (List.mem_append_left _ hp), hm9, c', rfl, rfl, hk9, hp9⟩
end

/-! what a call hands on -/
def AllNe (r : Nat) : List (Addr × Obj) → Prop
  | [] => True
  | p :: l => @Ne Nat p.1 r ∧ AllNe r l

theorem allNe_of {r : Addr} : ∀ {l : List (Addr × Obj)}, (∀ p ∈ l, p.1 ≠ r) → AllNe r l
  | [], _ => trivial
  | p :: _, h => ⟨h p (.head _), allNe_of fun q hq => h q (.tail _ hq)⟩

def Post1 (s : Shared) (R : Value → Heap → Prop) (v : Value) (s' : Shared) : Prop := ∃ h' tk', s' = { s with heap := h', toks := tk' } ∧ Kp s.heap h' ∧ R v h'

theorem fr_kp {h₀ h h' : Heap} {L : Addr} {m : Str → Option Value} (F : Fr h₀ L h m) (k : Kp h h') : Fr h₀ L h' m := ⟨F.ns.keeps k, fun b o e => k _ _ (F.keep b o e), F.above⟩
theorem news_kp {h₀ h h' : Heap} {L : Addr} {news : List (Addr × Obj)} (N : News h₀ L h news) (k : Kp h h') : News h₀ L h' news := fun p hp => ⟨k _ _ (N p hp).1, (N p hp).2⟩
theorem news_kp1 {h₀ h h' : Heap} {L r : Addr} {o : Obj} {m : Str → Option Value} {news : List (Addr × Obj)} (F : Fr h₀ L h m) (N : News h₀ L h news) (k : Kp h h') (hr : h.get? r = none) (ho : h'.get? r = some o) :
    News h₀ L h' ((r, o) :: news) := by
  intro p hp
  rcases List.mem_cons.mp hp with rfl | hp
  · refine ⟨ho, fun e => ?_, ?_⟩
    · obtain ⟨oL, _, _, hL, _⟩ := F.ns
      rw [← e] at hL
      exact absurd (hL.symm.trans hr) (by simp)
    · cases q : h₀.get? r with
      | none => rfl
      | some o' => exact absurd ((F.keep _ _ q).symm.trans hr) (by simp)
  · exact news_kp N k p hp
theorem news_ne {h₀ h : Heap} {L r : Addr} {news : List (Addr × Obj)} (N : News h₀ L h news) (hr : h.get? r = none) : AllNe r news :=
  allNe_of fun p hp e => by have := (N p hp).1; rw [e, hr] at this; cases this

theorem TEF.next {σ : Type} {h₀ : Heap} {L : Addr} {Led : σ → List (Addr × Obj)} {ps : σ → List (Str × Value)} {P : σ → Prop} {own : List (Addr × Obj)} {s₁ s₂ : Shared} {Q : Flow → Shared → Prop}
    (h : TE h₀ L Led ps P own s₁ s₂) : TEF h₀ L Led ps P own s₁ Q .next s₂ := h
theorem TEF.ret {σ : Type} {h₀ : Heap} {L : Addr} {Led : σ → List (Addr × Obj)} {ps : σ → List (Str × Value)} {P : σ → Prop} {own : List (Addr × Obj)} {s₁ s₂ : Shared} {Q : Flow → Shared → Prop} {v : Value}
    (h : Q (.ret v) s₂) : TEF h₀ L Led ps P own s₁ Q (.ret v) s₂ := h

/-- a list of ints comes back, new -/
def RetL (g : Heap) (R : List Int → Prop) (v : Value) (h' : Heap) : Prop := ∃ r ws n nr, v = .ref r ∧ g.get? r = none ∧ h'.get? r = some (listOf (List.toArray ws) n) ∧ IntsAre ws nr ∧ R nr
/-- an int comes back -/
def RetI (R : Int → Prop) (v : Value) (_h' : Heap) : Prop := ∃ k t, v = .int k t ∧ R k

theorem ret_list {s : Shared} {L : Addr} {m : Str → Option Value} {news : List (Addr × Obj)} {h' : Heap} {tk' : Nat} {r : Addr} {ws : List Value} {n : Nat} {nr : List Int} {R : List Int → Prop}
    (F : Fr s.heap L h' m) (N : News s.heap L h' news) (hm : (r, listOf (List.toArray ws) n) ∈ news) (hi : IntsAre ws nr) (hR : R nr) : Post1 s (RetL s.heap R) (.ref r) { s with heap := h', toks := tk' } :=
  ⟨_, _, rfl, F.keep, r, ws, n, nr, rfl, (N _ hm).2.2, (N _ hm).1, hi, hR⟩
theorem ret_int {s : Shared} {L : Addr} {m : Str → Option Value} {h' : Heap} {tk' : Nat} {k : Int} {t : Tok} {R : Int → Prop}
    (F : Fr s.heap L h' m) (hR : R k) : Post1 s (RetI R) (.int k t) { s with heap := h', toks := tk' } :=
  ⟨_, _, rfl, F.keep, k, t, rfl, hR⟩

theorem use_list {M : Model} {A : Around} {E : Value → Shared → Prop} {s : Shared} {t : Sem Value} {R : List Int → Prop} {h₀ : Heap} {L : Addr} {m : Str → Option Value} {news : List (Addr × Obj)} {Q : Value → Shared → Prop}
    (hc : wpAny M A t (Post1 s (RetL s.heap R)) E s) (F : Fr h₀ L s.heap m) (N : News h₀ L s.heap news)
    (h : ∀ r ws n nr h' tk', Fr h₀ L h' m → News h₀ L h' ((r, listOf (List.toArray ws) n) :: news) → IntsAre ws nr → R nr → AllNe r news → Q (.ref r) { s with heap := h', toks := tk' }) :
    wpAny M A t Q E s := by
  refine wpAny_mono hc (fun v s' hv => ?_) fun _ _ x => x
  obtain ⟨h', tk', rfl, hk, r, ws, n, nr, rfl, h1, h2, h3, h4⟩ := hv
  exact h r ws n nr h' tk' (fr_kp F hk) (news_kp1 F N hk h1 h2) h3 h4 (news_ne N h1)
theorem use_int {M : Model} {A : Around} {E : Value → Shared → Prop} {s : Shared} {t : Sem Value} {R : Int → Prop} {h₀ : Heap} {L : Addr} {m : Str → Option Value} {news : List (Addr × Obj)} {Q : Value → Shared → Prop}
    (hc : wpAny M A t (Post1 s (RetI R)) E s) (F : Fr h₀ L s.heap m) (N : News h₀ L s.heap news)
    (h : ∀ k t h' tk', Fr h₀ L h' m → News h₀ L h' news → R k → Q (.int k t) { s with heap := h', toks := tk' }) :
    wpAny M A t Q E s := by
  refine wpAny_mono hc (fun v s' hv => ?_) fun _ _ x => x
  obtain ⟨h', tk', rfl, hk, k, t, rfl, h4⟩ := hv
  exact h k t h' tk' (fr_kp F hk) (news_kp N hk) h4

/-- a statement's end, told anew by letters -/
def NX {σ : Type} (h₀ : Heap) (L : Addr) (Led : σ → List (Addr × Obj)) (ps : σ → List (Str × Value)) (P : σ → Prop) (s : Shared) (f : Flow) (s₂ : Shared) : Prop :=
  f = .next ∧ TE h₀ L Led ps P [] s s₂
theorem NX.intro {σ : Type} {h₀ : Heap} {L : Addr} {Led : σ → List (Addr × Obj)} {ps : σ → List (Str × Value)} {P : σ → Prop} {s : Shared} (c' : σ) {h' : Heap} {tk' : Nat} {m' : Str → Option Value} {news' : List (Addr × Obj)}
    (F : Fr h₀ L h' m') (N : News h₀ L h' news') (hl : ∀ p ∈ Led c', p ∈ news') (hk : ∀ p ∈ ps c', m' p.1 = some p.2) (hp : P c') :
    NX h₀ L Led ps P s .next { s with heap := h', toks := tk' } := ⟨rfl, TE.intro c' F N hl (fun _ h => nomatch h) hk hp⟩
theorem seq_ {σ : Type} {M : Model} {A : Around} {E : Value → Shared → Prop} {s s₁ : Shared} {t : Sem Flow} {Q : Flow → Shared → Prop} {h₀ : Heap} {L : Addr} (Led : σ → List (Addr × Obj)) (ps : σ → List (Str × Value)) (P : σ → Prop)
    (h : wpAny M A t (NX h₀ L Led ps P s) E s₁) (k : ∀ c u h tk, P c → Fr h₀ L h (kstB u (ps c)) → News h₀ L h (Led c) → Q .next { s with heap := h, toks := tk }) : wpAny M A t Q E s₁ := by
  refine wpAny_mono h (fun f s' hv => ?_) fun _ _ x => x
  obtain ⟨rfl, c', h', tk', m', rfl, F, N, hk, hp⟩ := hv
  exact k c' m' h' tk' hp (Fr.norm F hk) fun p hp => N p (List.mem_append_left _ hp)

/-- [0] * x -/
theorem mulz {prog : Program} {w : World} {A : Around} {E : Value → Shared → Prop} {s : Shared} {h₀ : Heap} {L : Addr} {m : Str → Option Value} {news : List (Addr × Obj)} {l : Addr} {n : Nat} {t : Tok} {x : Int} {u : Tok} {Q : Value → Shared → Prop}
    (F : Fr h₀ L s.heap m) (N : News h₀ L s.heap news) (hm : (l, listOf #[.int 0 t] n) ∈ news) (hlo : 0 ≤ x) (hhi : x < 4000)
    (h : ∀ D ws h', Fr h₀ L h' m → News h₀ L h' ((D, listOf (List.toArray ws) 0) :: news) → (∀ p ∈ news, p.1 < D) → IntsAre ws (List.replicate x.toNat 0) → Q (.ref D) { s with heap := h' }) :
    wpAny (model prog w) A (binaryOp .Mult (.ref l) (.int x u)) Q E s := by
  refine KM.mul F N (vs := [.int 0 t]) (ns := [0]) ⟨_, (N _ hm).1, rfl, n, rfl⟩ (.cons _ _ .nil) (by omega) (by omega) (by simp; omega) ?_
  intro D h' F' N' l1 i1 _ _ _ _ _
  have e : ∀ k : Nat, (List.replicate k [(0 : Int)]).flatten = List.replicate k 0 := by
    intro k
    induction k with
    | zero => rfl
    | succ k ih => rw [List.replicate_succ, List.flatten_cons, ih, List.replicate_succ]; rfl
  rw [e] at i1
  exact h D _ h' F' N' l1 i1

theorem cut_ {α : Type} {M : Model} {A : Around} {E : Value → Shared → Prop} {s : Shared} {t : Sem α} {Q : α → Shared → Prop} (Q' : α → Shared → Prop) (h : wpAny M A t Q' E s) (k : ∀ a s', Q' a s' → Q a s') : wpAny M A t Q E s :=
  wpAny_mono h k fun _ _ x => x

/-! a def that turns one object of its caller's -/
theorem fr_hide {h₀ h : Heap} {L ra : Addr} {m : Str → Option Value} (F : Fr h₀ L h m) (hne : L ≠ ra) (h0 : h₀.get? ra = none) : Fr h₀ L (h.hide ra) m :=
  ⟨F.ns.at' fun o e => (Heap.hide_ne h hne).trans e, fun b o e => (Heap.hide_ne h (by rintro rfl; rw [h0] at e; cases e)).trans (F.keep b o e), F.above⟩
theorem isList_hide {h : Heap} {l ra : Addr} {its : Array Value} (x : h.IsList l its) (hne : l ≠ ra) : (h.hide ra).IsList l its :=
  let ⟨o, ho, r⟩ := x; ⟨o, (Heap.hide_ne h hne).trans ho, r⟩
theorem isList_base {h₀ h : Heap} {L l ra : Addr} {m : Str → Option Value} {its : Array Value} (F : Fr h₀ L h m) (x : h₀.IsList l its) (h0 : h₀.get? ra = none) : (h.hide ra).IsList l its :=
  let ⟨o, ho, r⟩ := x; ⟨o, (Heap.hide_ne h (by rintro rfl; rw [h0] at ho; cases ho)).trans (F.keep _ _ ho), r⟩

theorem enterM {w : World} {A : Around} {s : Shared} {Q : Value → Shared → Prop} {E : Value → Shared → Prop} {d : Nat} {ra : Addr} {o : Obj}
    {name qual : Str} {params params' : Arguments} {body body' : List Stmt} {scope scope' : Scope} {dV kV doc pm cdv ct oc : Value} {an od : Option Addr} {osl : Array (Option Value)} {f : Addr} {args : List Value} {binds : List (Str × Value)}
    (C : Cx w A (s.heap.hide ra) (d + 1)) (hr : s.heap.get? ra = some o)
    (ho : (hd.heap_39 w.params).lookup f = some ⟨oc, od, .func (fnOf name qual params body scope dV kV doc pm an cdv ct), osl⟩) (hcd : codeIn (hd.heap_39 w.params) cdv qual = true)
    (hbind : bindArgs (fnOf name qual params' body' scope' dV kV doc pm an cdv ct) ⟨args, []⟩ = pure binds)
    (hloc : ∀ y ∈ binds, scope'.names.lookup y.1 = some .local)
    (h : ∀ L h₁, Fr (s.heap.hide ra) L h₁ (fun y => binds.reverse.lookup y) → News (s.heap.hide ra) L h₁ [(ra, o)] →
      wpAny (model PySem.Challenge.rw_sj0077_01.row.prog w) (A.deeper (envOf qual scope' L f cdv)) (execs body' (envOf qual scope' L f cdv))
        (fun fl s' => Q (match fl with | .ret v => v | _ => .none) s') (fun _ _ => False)
        { s with heap := h₁, toks := s.toks + binds.length })
    (hco : scope'.isCoroutine = false := by rfl) (hgen : scope'.isGenerator = false := by rfl) (hk : scope'.kind = .function := by rfl)
    (hcell : ∀ x ∈ scope'.names, x.2 ≠ .cell := by decide)
    (e1 : params = params') (e2 : body = body') (e3 : scope = scope') : wpAny (model PySem.Challenge.rw_sj0077_01.row.prog w) A (call (.ref f) args) Q E s := by
  subst e1 e2 e3
  obtain ⟨mean, mg, mb, T⟩ := C.top
  have st : ∀ b o, (s.heap.hide ra).get? b = some o → s.heap.get? b = some o := fun b o e => Heap.of_hide e
  refine wpAny_call ?_
  refine codeAny_call_def (fd := fnOf name qual params body scope dV kV doc pm an cdv ct) (body := body) (binds := binds) (by have := C.room; simp only [recursionLimit]; omega) (st _ _ (C.kin _ _ ho)) rfl (T.nolimit.keeps st) (codeRec_of (C.kin.keeps st) hcd) rfl (.of_eq hbind) hcell hloc (fun h₁ hns hk₁ => ?_) hco hgen hk
  refine wpAny_mono (h s.heap.objs.size h₁ ⟨hns, fun b o e => hk₁ b o (st b o e), Nat.le_of_eq (Heap.hide_size _ _)⟩ ?_) (fun _ _ x => x) (fun _ _ x => x.elim)
  intro p hp
  rw [List.mem_singleton.mp hp]
  exact ⟨hk₁ _ _ hr, Nat.ne_of_lt (Heap.lt_size hr), Heap.hide_self _ _⟩

def PostM (s : Shared) (ra : Addr) (R : Value → Heap → Prop) (v : Value) (s' : Shared) : Prop := ∃ h' tk', s' = { s with heap := h', toks := tk' } ∧ Kp (s.heap.hide ra) h' ∧ R v h'
/-- the turned object is a list of ints; what comes back is said by V -/
def TurnL (ra : Addr) (V : Value → List Int → Prop) (v : Value) (h' : Heap) : Prop := ∃ ws n nr, h'.get? ra = some (listOf (List.toArray ws) n) ∧ IntsAre ws nr ∧ V v nr

theorem retM {s : Shared} {L ra : Addr} {m : Str → Option Value} {news : List (Addr × Obj)} {h' : Heap} {tk' : Nat} {ws : List Value} {n : Nat} {nr : List Int} {v : Value} {V : Value → List Int → Prop}
    (F : Fr (s.heap.hide ra) L h' m) (N : News (s.heap.hide ra) L h' news) (hm : (ra, listOf (List.toArray ws) n) ∈ news) (hi : IntsAre ws nr) (hV : V v nr) : PostM s ra (TurnL ra V) v { s with heap := h', toks := tk' } :=
  ⟨_, _, rfl, F.keep, ws, n, nr, (N _ hm).1, hi, hV⟩

theorem useM {M : Model} {A : Around} {E : Value → Shared → Prop} {s : Shared} {t : Sem Value} {ra : Addr} {o : Obj} {V : Value → List Int → Prop} {h₀ : Heap} {L : Addr} {m : Str → Option Value} {rest : List (Addr × Obj)} {Q : Value → Shared → Prop}
    (hc : wpAny M A t (PostM s ra (TurnL ra V)) E s) (F : Fr h₀ L s.heap m) (N : News h₀ L s.heap ((ra, o) :: rest)) (hne : ∀ p ∈ rest, p.1 ≠ ra)
    (h : ∀ v ws n nr h' tk', Fr h₀ L h' m → News h₀ L h' ((ra, listOf (List.toArray ws) n) :: rest) → IntsAre ws nr → V v nr → Q v { s with heap := h', toks := tk' }) :
    wpAny M A t Q E s := by
  refine wpAny_mono hc (fun v s' hv => ?_) fun _ _ x => x
  obtain ⟨h', tk', rfl, hk, ws, n, nr, h1, h2, h3⟩ := hv
  have n0 := N _ (.head _)
  have up : ∀ b o, b ≠ ra → s.heap.get? b = some o → h'.get? b = some o := fun b o hb e => hk b o ((Heap.hide_ne _ hb).trans e)
  refine h v ws n nr h' tk' ⟨F.ns.at' fun o e => up _ o (Ne.symm n0.2.1) e, fun b o e => up b o (fun q => by have z := n0.2.2; rw [← q, e] at z; cases z) (F.keep b o e), F.above⟩ ?_ h2 h3
  intro p hp
  rcases List.mem_cons.mp hp with rfl | hp
  · exact ⟨h1, n0.2⟩
  · have np := N p (.tail _ hp)
    exact ⟨up _ _ (hne p hp) np.1, np.2⟩

/-! tuples that come back -/
abbrev tupO (vs : Array Value) : Obj := { cls := .type "tuple", data := .seq vs }
/-- a pair of a list and an int -/
def RetLI (g : Heap) (R : List Int → Int → Prop) (v : Value) (h' : Heap) : Prop := ∃ T r ws n nr k t, v = .ref T ∧ g.get? T = none ∧ h'.get? T = some (tupO #[.ref r, .int k t]) ∧ g.get? r = none ∧ h'.get? r = some (listOf (List.toArray ws) n) ∧ IntsAre ws nr ∧ R nr k
theorem ret_li {s : Shared} {L : Addr} {m : Str → Option Value} {news : List (Addr × Obj)} {h' : Heap} {tk' : Nat} {T r : Addr} {ws : List Value} {n : Nat} {nr : List Int} {k : Int} {t : Tok} {R : List Int → Int → Prop}
    (F : Fr s.heap L h' m) (N : News s.heap L h' news) (hT : (T, tupO #[.ref r, .int k t]) ∈ news) (hm : (r, listOf (List.toArray ws) n) ∈ news) (hi : IntsAre ws nr) (hR : R nr k) : Post1 s (RetLI s.heap R) (.ref T) { s with heap := h', toks := tk' } :=
  ⟨_, _, rfl, F.keep, T, r, ws, n, nr, k, t, rfl, (N _ hT).2.2, (N _ hT).1, (N _ hm).2.2, (N _ hm).1, hi, hR⟩
theorem use_li {M : Model} {A : Around} {E : Value → Shared → Prop} {s : Shared} {t : Sem Value} {R : List Int → Int → Prop} {h₀ : Heap} {L : Addr} {m : Str → Option Value} {news : List (Addr × Obj)} {Q : Value → Shared → Prop}
    (hc : wpAny M A t (Post1 s (RetLI s.heap R)) E s) (F : Fr h₀ L s.heap m) (N : News h₀ L s.heap news)
    (h : ∀ T r ws n nr k tt h' tk', Fr h₀ L h' m → News h₀ L h' ((T, tupO #[.ref r, .int k tt]) :: (r, listOf (List.toArray ws) n) :: news) → IntsAre ws nr → R nr k → Q (.ref T) { s with heap := h', toks := tk' }) :
    wpAny M A t Q E s := by
  refine wpAny_mono hc (fun v s' hv => ?_) fun _ _ x => x
  obtain ⟨h', tk', rfl, hk, T, r, ws, n, nr, k, tt, rfl, h1, h2, h3, h4, h5, h6⟩ := hv
  refine h T r ws n nr k tt h' tk' (fr_kp F hk) (fun p hp => ?_) h5 h6
  rcases List.mem_cons.mp hp with rfl | hp
  · exact news_kp1 F N hk h1 h2 _ (.head _)
  · exact news_kp1 F N hk h3 h4 p hp
/-- a pair of two lists -/
def RetLL (g : Heap) (R : List Int → List Int → Prop) (v : Value) (h' : Heap) : Prop := ∃ T a b wa wb n n' na nb, v = .ref T ∧ g.get? T = none ∧ h'.get? T = some (tupO #[.ref a, .ref b]) ∧ g.get? a = none ∧ h'.get? a = some (listOf (List.toArray wa) n) ∧ g.get? b = none ∧ h'.get? b = some (listOf (List.toArray wb) n') ∧ IntsAre wa na ∧ IntsAre wb nb ∧ R na nb
theorem ret_ll {s : Shared} {L : Addr} {m : Str → Option Value} {news : List (Addr × Obj)} {h' : Heap} {tk' : Nat} {T a b : Addr} {wa wb : List Value} {n n' : Nat} {na nb : List Int} {R : List Int → List Int → Prop}
    (F : Fr s.heap L h' m) (N : News s.heap L h' news) (hT : (T, tupO #[.ref a, .ref b]) ∈ news) (ha : (a, listOf (List.toArray wa) n) ∈ news) (hb : (b, listOf (List.toArray wb) n') ∈ news) (hia : IntsAre wa na) (hib : IntsAre wb nb) (hR : R na nb) : Post1 s (RetLL s.heap R) (.ref T) { s with heap := h', toks := tk' } :=
  ⟨_, _, rfl, F.keep, T, a, b, wa, wb, n, n', na, nb, rfl, (N _ hT).2.2, (N _ hT).1, (N _ ha).2.2, (N _ ha).1, (N _ hb).2.2, (N _ hb).1, hia, hib, hR⟩
theorem use_ll {M : Model} {A : Around} {E : Value → Shared → Prop} {s : Shared} {t : Sem Value} {R : List Int → List Int → Prop} {h₀ : Heap} {L : Addr} {m : Str → Option Value} {news : List (Addr × Obj)} {Q : Value → Shared → Prop}
    (hc : wpAny M A t (Post1 s (RetLL s.heap R)) E s) (F : Fr h₀ L s.heap m) (N : News h₀ L s.heap news)
    (h : ∀ T a b wa wb n n' na nb h' tk', Fr h₀ L h' m → News h₀ L h' ((T, tupO #[.ref a, .ref b]) :: (a, listOf (List.toArray wa) n) :: (b, listOf (List.toArray wb) n') :: news) → IntsAre wa na → IntsAre wb nb → R na nb → Q (.ref T) { s with heap := h', toks := tk' }) :
    wpAny M A t Q E s := by
  refine wpAny_mono hc (fun v s' hv => ?_) fun _ _ x => x
  obtain ⟨h', tk', rfl, hk, T, a, b, wa, wb, n, n', na, nb, rfl, h1, h2, h3, h4, h5, h6, h7, h8, h9⟩ := hv
  refine h T a b wa wb n n' na nb h' tk' (fr_kp F hk) (fun p hp => ?_) h7 h8 h9
  rcases List.mem_cons.mp hp with rfl | hp
  · exact news_kp1 F N hk h1 h2 _ (.head _)
  rcases List.mem_cons.mp hp with rfl | hp
  · exact news_kp1 F N hk h3 h4 _ (.head _)
  · exact news_kp1 F N hk h5 h6 p hp
/-- None comes back -/
def RetN (v : Value) (_h' : Heap) : Prop := v = .none
theorem ret_none {s : Shared} {L : Addr} {m : Str → Option Value} {h' : Heap} {tk' : Nat} (F : Fr s.heap L h' m) : Post1 s RetN .none { s with heap := h', toks := tk' } := ⟨_, _, rfl, F.keep, rfl⟩
theorem use_none {M : Model} {A : Around} {E : Value → Shared → Prop} {s : Shared} {t : Sem Value} {h₀ : Heap} {L : Addr} {m : Str → Option Value} {news : List (Addr × Obj)} {Q : Value → Shared → Prop}
    (hc : wpAny M A t (Post1 s RetN) E s) (F : Fr h₀ L s.heap m) (N : News h₀ L s.heap news) (h : ∀ h' tk', Fr h₀ L h' m → News h₀ L h' news → Q .none { s with heap := h', toks := tk' }) : wpAny M A t Q E s := by
  refine wpAny_mono hc (fun v s' hv => ?_) fun _ _ x => x
  obtain ⟨h', tk', rfl, hk, rfl⟩ := hv
  exact h h' tk' (fr_kp F hk) (news_kp N hk)
/-- a bool comes back -/
def RetB (R : Bool → Prop) (v : Value) (_h' : Heap) : Prop := ∃ b, v = .bool b ∧ R b
theorem ret_bool {s : Shared} {L : Addr} {m : Str → Option Value} {h' : Heap} {tk' : Nat} {b : Bool} {R : Bool → Prop} (F : Fr s.heap L h' m) (hR : R b) : Post1 s (RetB R) (.bool b) { s with heap := h', toks := tk' } := ⟨_, _, rfl, F.keep, b, rfl, hR⟩
theorem use_bool {M : Model} {A : Around} {E : Value → Shared → Prop} {s : Shared} {t : Sem Value} {R : Bool → Prop} {h₀ : Heap} {L : Addr} {m : Str → Option Value} {news : List (Addr × Obj)} {Q : Value → Shared → Prop}
    (hc : wpAny M A t (Post1 s (RetB R)) E s) (F : Fr h₀ L s.heap m) (N : News h₀ L s.heap news) (h : ∀ b h' tk', Fr h₀ L h' m → News h₀ L h' news → R b → Q (.bool b) { s with heap := h', toks := tk' }) : wpAny M A t Q E s := by
  refine wpAny_mono hc (fun v s' hv => ?_) fun _ _ x => x
  obtain ⟨h', tk', rfl, hk, b, rfl, hR⟩ := hv
  exact h b h' tk' (fr_kp F hk) (news_kp N hk) hR

/-- the turned list, and a new list back -/
def TurnR (ra : Addr) (g : Heap) (V : List Int → List Int → Prop) (v : Value) (h' : Heap) : Prop := ∃ ws n nr r wq nq qn, h'.get? ra = some (listOf (List.toArray ws) n) ∧ IntsAre ws nr ∧ v = .ref r ∧ g.get? r = none ∧ r ≠ ra ∧ h'.get? r = some (listOf (List.toArray wq) nq) ∧ IntsAre wq qn ∧ V nr qn
theorem retR {s : Shared} {L ra : Addr} {m : Str → Option Value} {news : List (Addr × Obj)} {h' : Heap} {tk' : Nat} {ws wq : List Value} {n nq : Nat} {nr qn : List Int} {r : Addr} {V : List Int → List Int → Prop}
    (F : Fr (s.heap.hide ra) L h' m) (N : News (s.heap.hide ra) L h' news) (hm : (ra, listOf (List.toArray ws) n) ∈ news) (hr : (r, listOf (List.toArray wq) nq) ∈ news) (hne : r ≠ ra) (hi : IntsAre ws nr) (hq : IntsAre wq qn) (hV : V nr qn) : PostM s ra (TurnR ra (s.heap.hide ra) V) (.ref r) { s with heap := h', toks := tk' } :=
  ⟨_, _, rfl, F.keep, ws, n, nr, r, wq, nq, qn, (N _ hm).1, hi, rfl, (N _ hr).2.2, hne, (N _ hr).1, hq, hV⟩
theorem useR {M : Model} {A : Around} {E : Value → Shared → Prop} {s : Shared} {t : Sem Value} {ra : Addr} {o : Obj} {V : List Int → List Int → Prop} {h₀ : Heap} {L : Addr} {m : Str → Option Value} {rest : List (Addr × Obj)} {Q : Value → Shared → Prop}
    (hc : wpAny M A t (PostM s ra (TurnR ra (s.heap.hide ra) V)) E s) (F : Fr h₀ L s.heap m) (N : News h₀ L s.heap ((ra, o) :: rest)) (hne : ∀ p ∈ rest, p.1 ≠ ra)
    (h : ∀ r ws n nr wq nq qn h' tk', Fr h₀ L h' m → News h₀ L h' ((r, listOf (List.toArray wq) nq) :: (ra, listOf (List.toArray ws) n) :: rest) → IntsAre ws nr → IntsAre wq qn → V nr qn → Q (.ref r) { s with heap := h', toks := tk' }) :
    wpAny M A t Q E s := by
  refine wpAny_mono hc (fun v s' hv => ?_) fun _ _ x => x
  obtain ⟨h', tk', rfl, hk, ws, n, nr, r, wq, nq, qn, h1, h2, rfl, h4, h5, h6, h7, h8⟩ := hv
  have n0 := N _ (.head _)
  have up : ∀ b o, b ≠ ra → s.heap.get? b = some o → h'.get? b = some o := fun b o hb e => hk b o ((Heap.hide_ne _ hb).trans e)
  have h4' : s.heap.get? r = none := (Heap.hide_ne _ h5).symm.trans h4
  refine h r ws n nr wq nq qn h' tk' ⟨F.ns.at' fun o e => up _ o (Ne.symm n0.2.1) e, fun b o e => up b o (fun q => by have z := n0.2.2; rw [← q, e] at z; cases z) (F.keep b o e), F.above⟩ ?_ h2 h7 h8
  intro p hp
  rcases List.mem_cons.mp hp with rfl | hp
  · refine ⟨h6, fun e => ?_, ?_⟩
    · obtain ⟨oL, _, _, hL, _⟩ := F.ns
      rw [← e] at hL
      exact absurd (hL.symm.trans h4') (by simp)
    · cases q : h₀.get? r with
      | none => rfl
      | some o' => exact absurd ((F.keep _ _ q).symm.trans h4') (by simp)
  rcases List.mem_cons.mp hp with rfl | hp
  · exact ⟨h1, n0.2⟩
  · have np := N p (.tail _ hp)
    exact ⟨up _ _ (hne p hp) np.1, np.2⟩
end Mine
end

/-! PL -/
section
open PySem PyProof.Rows
set_option Elab.async false
namespace Mine

/-! the plain law of the rows of limbs -/
def Lim (B : Int) (ns : List Int) : Prop := ∀ x ∈ ns, 0 ≤ x ∧ x < B
def vl (B : Int) : List Int → Int
  | [] => 0
  | x :: r => x + B * vl B r
def Rp (B : Int) (ns : List Int) (x : Int) : Prop := Lim B ns ∧ ns.getLast? ≠ some 0 ∧ vl B ns = x

theorem two_pow_cast (W : Nat) : ((2 : Int) ^ W) = ((2 ^ W : Nat) : Int) := by simp

theorem and_mask {x : Int} (hx : 0 ≤ x) (W : Nat) : Builtin.bitAnd x (1 * 2 ^ (W : Int).toNat - 1) = x % 2 ^ W := by
  have e : (1 * 2 ^ (W : Int).toNat - 1 : Int) = ((2 ^ W - 1 : Nat) : Int) := by
    have := Nat.one_le_two_pow (n := W)
    rw [Int.toNat_natCast, Int.one_mul, two_pow_cast]
    omega
  rw [e, bitAnd_pp hx (Int.natCast_nonneg _), Int.toNat_natCast, Nat.and_two_pow_sub_one_eq_mod, two_pow_cast]
  obtain ⟨n, rfl⟩ := Int.eq_ofNat_of_zero_le hx
  simp

theorem shr_ {x : Int} (W : Nat) : x.fdiv (2 ^ (W : Int).toNat) = x / 2 ^ W := by
  rw [Int.toNat_natCast, Int.fdiv_eq_ediv_of_nonneg _ (Int.le_of_lt (Int.pow_pos (by decide)))]

section
variable {B : Int} {ns ms xs ys : List Int} {x y : Int}

theorem Lim.nil : Lim B [] := fun _ h => nomatch h
theorem Lim.append (h1 : Lim B xs) (h2 : Lim B ys) : Lim B (xs ++ ys) := fun x hx => (List.mem_append.mp hx).elim (h1 x) (h2 x)
theorem Lim.snoc (h1 : Lim B xs) (h0 : 0 ≤ x) (h2 : x < B) : Lim B (xs ++ [x]) := h1.append fun y hy => by rw [List.mem_singleton.mp hy]; exact ⟨h0, h2⟩
theorem Lim.take (h : Lim B ns) (k : Nat) : Lim B (ns.take k) := fun x hx => h x (List.mem_of_mem_take hx)
theorem Lim.drop (h : Lim B ns) (k : Nat) : Lim B (ns.drop k) := fun x hx => h x (List.mem_of_mem_drop hx)
theorem Lim.getD (h : Lim B ns) (hB : 0 < B) (k : Nat) : 0 ≤ ns.getD k 0 ∧ ns.getD k 0 < B := by
  by_cases hk : k < ns.length
  · rw [List.getD_eq_getElem?_getD, List.getElem?_eq_getElem hk]
    exact h _ (List.getElem_mem hk)
  · rw [List.getD_eq_getElem?_getD, List.getElem?_eq_none (by omega)]
    exact ⟨Int.le_refl 0, hB⟩

theorem vl_append : vl B (xs ++ ys) = vl B xs + B ^ xs.length * vl B ys := by
  induction xs with
  | nil => simp [vl]
  | cons a r ih =>
    simp only [List.cons_append, vl, ih, List.length_cons, Int.pow_succ]
    grind
theorem vl_snoc : vl B (xs ++ [x]) = vl B xs + B ^ xs.length * x := by
  rw [vl_append]; simp [vl]
theorem vl_nonneg (hB : 0 < B) (h : Lim B xs) : 0 ≤ vl B xs := by
  induction xs with
  | nil => simp [vl]
  | cons a r ih =>
    have h1 := h a (.head _)
    have h2 := ih fun y hy => h y (.tail _ hy)
    have := Int.mul_nonneg (Int.le_of_lt hB) h2
    simp only [vl]; omega
theorem vl_lt (hB : 0 < B) (h : Lim B xs) : vl B xs < B ^ xs.length := by
  induction xs with
  | nil => simp [vl]
  | cons a r ih =>
    have h1 := h a (.head _)
    have h2 := ih fun y hy => h y (.tail _ hy)
    simp only [vl, List.length_cons, Int.pow_succ]
    have h3 : B * (vl B r + 1) ≤ B * B ^ r.length := Int.mul_le_mul_of_nonneg_left (by omega) (Int.le_of_lt hB)
    have h4 : B * (vl B r + 1) = B * vl B r + B := by grind
    have h5 : B ^ r.length * B = B * B ^ r.length := Int.mul_comm _ _
    omega

theorem vl_take_succ {k : Nat} (hk : k < ns.length) : vl B (ns.take (k + 1)) = vl B (ns.take k) + B ^ k * ns.getD k 0 := by
  have e : ns.take (k + 1) = ns.take k ++ [ns.getD k 0] := by
    rw [List.take_add_one, List.getElem?_eq_getElem hk, List.getD_eq_getElem?_getD, List.getElem?_eq_getElem hk]; rfl
  rw [e, vl_snoc, List.length_take, Nat.min_eq_left (by omega)]
theorem vl_take_drop (k : Nat) : vl B ns = vl B (ns.take k) + B ^ (min k ns.length) * vl B (ns.drop k) := by
  conv => lhs; rw [← List.take_append_drop k ns]
  rw [vl_append, List.length_take]

theorem vl_zeros (h : ∀ x ∈ ns, x = 0) : vl B ns = 0 := by
  induction ns with
  | nil => rfl
  | cons a r ih => simp only [vl]; rw [h a (.head _), ih fun y hy => h y (.tail _ hy)]; simp

/-- one way to write a number -/
theorem vl_inj (hB : 1 < B) : ∀ {xs ys : List Int}, Lim B xs → Lim B ys → xs.length = ys.length → vl B xs = vl B ys → xs = ys
  | [], [], _, _, _, _ => rfl
  | [], _ :: _, _, _, h, _ => by cases h
  | _ :: _, [], _, _, h, _ => by cases h
  | a :: r, b :: t, h1, h2, hl, hv => by
    have ha := h1 a (.head _)
    have hb := h2 b (.head _)
    simp only [vl] at hv
    have e : a = b := by
      have h3 : (a + B * vl B r) % B = a := by rw [Int.add_mul_emod_self_left, Int.emod_eq_of_lt ha.1 ha.2]
      have h4 : (b + B * vl B t) % B = b := by rw [Int.add_mul_emod_self_left, Int.emod_eq_of_lt hb.1 hb.2]
      rw [← h3, ← h4, hv]
    subst e
    have e2 : vl B r = vl B t := by
      have h5 : B * vl B r = B * vl B t := by omega
      exact Int.eq_of_mul_eq_mul_left (by omega) h5
    rw [vl_inj hB (fun y hy => h1 y (.tail _ hy)) (fun y hy => h2 y (.tail _ hy)) (by simpa using hl) e2]

theorem pow_pos' (hB : 0 < B) (k : Nat) : 0 < B ^ k := Int.pow_pos hB

theorem pow_mono' (hB : 0 < B) {k m : Nat} (h : k ≤ m) : B ^ k ≤ B ^ m := by
  obtain ⟨d, rfl⟩ := Nat.exists_eq_add_of_le h
  rw [Int.pow_add]
  have h1 : B ^ k * 1 ≤ B ^ k * B ^ d := Int.mul_le_mul_of_nonneg_left (pow_pos' hB d) (Int.le_of_lt (pow_pos' hB k))
  omega

theorem vl_ge (hB : 0 < B) (h : Lim B ns) (hl : ns.getLast? ≠ some 0) (h0 : ns ≠ []) : B ^ (ns.length - 1) ≤ vl B ns := by
  obtain ⟨z, hz⟩ : ∃ z, ns.getLast? = some z := by
    cases e : ns.getLast? with
    | none => exact absurd (List.getLast?_eq_none_iff.mp e) h0
    | some z => exact ⟨z, rfl⟩
  obtain ⟨r, rfl⟩ : ∃ r, ns = r ++ [z] := List.getLast?_eq_some_iff.mp hz
  rw [vl_snoc]
  have h1 := vl_nonneg hB (fun y hy => h y (List.mem_append_left _ hy))
  have h2 := h z (by simp)
  have h3 : z ≠ 0 := fun e => hl (by rw [hz, e])
  have h4 : (r ++ [z]).length - 1 = r.length := by simp
  rw [h4]
  have h5 : B ^ r.length * 1 ≤ B ^ r.length * z := Int.mul_le_mul_of_nonneg_left (by omega) (Int.le_of_lt (pow_pos' hB _))
  omega

theorem Rp.inj (hB : 1 < B) (h1 : Rp B xs x) (h2 : Rp B ys x) : xs = ys := by
  have hB0 : 0 < B := by omega
  have key : ∀ {xs ys : List Int}, Rp B xs x → Rp B ys x → xs.length ≤ ys.length := by
    intro xs ys h1 h2
    by_cases hx : xs = []
    · subst hx; simp
    · have a1 := vl_ge hB0 h1.1 h1.2.1 hx
      have a2 := vl_lt hB0 h2.1
      rw [h1.2.2] at a1
      rw [h2.2.2] at a2
      have a3 : B ^ (xs.length - 1) < B ^ ys.length := by omega
      have a4 : xs.length - 1 < ys.length := by
        apply Nat.lt_of_not_le
        intro hle
        have := pow_mono' hB0 hle
        omega
      omega
  exact vl_inj hB h1.1 h2.1 (Nat.le_antisymm (key h1 h2) (key h2 h1)) (h1.2.2.trans h2.2.2.symm)

theorem Rp.nonneg (hB : 0 < B) (h : Rp B xs x) : 0 ≤ x := h.2.2 ▸ vl_nonneg hB h.1
theorem Rp.zero : Rp B [] 0 := ⟨Lim.nil, by simp, rfl⟩
theorem Rp.one (h0 : 0 < x) (h1 : x < B) : Rp B [x] x := ⟨fun y hy => by rw [List.mem_singleton.mp hy]; omega, by simp; omega, by simp [vl]⟩
theorem Rp.nil_iff (hB : 1 < B) (h : Rp B xs x) : xs = [] ↔ x = 0 := by
  constructor
  · rintro rfl; exact h.2.2.symm
  · rintro rfl; exact Rp.inj hB h Rp.zero

end

theorem Rp.of_ge {B x : Int} {xs : List Int} (hB : 0 < B) (h : Lim B xs) (hv : vl B xs = x) (hge : xs ≠ [] → B ^ (xs.length - 1) ≤ x) : Rp B xs x := by
  refine ⟨h, fun e => ?_, hv⟩
  obtain ⟨r, rfl⟩ : ∃ r, xs = r ++ [0] := List.getLast?_eq_some_iff.mp e
  have h1 := hge (by simp)
  rw [vl_snoc] at hv
  have h2 := vl_lt hB (fun y hy => h y (List.mem_append_left _ hy) : Lim B r)
  have h3 : (r ++ [(0 : Int)]).length - 1 = r.length := by simp
  rw [h3] at h1
  simp only [Int.mul_zero, Int.add_zero] at hv
  omega
theorem Rp.ge {B x : Int} {xs : List Int} (hB : 0 < B) (h : Rp B xs x) (h0 : xs ≠ []) : B ^ (xs.length - 1) ≤ x := h.2.2 ▸ vl_ge hB h.1 h.2.1 h0
theorem Rp.lt {B x : Int} {xs : List Int} (hB : 0 < B) (h : Rp B xs x) : x < B ^ xs.length := h.2.2 ▸ vl_lt hB h.1

theorem carry_step {B c a X : Int} {acc : List Int} {i : Nat} (hB : 0 < B) (hi : acc.length = i) (h : vl B acc + B ^ i * c = X) :
    vl B (acc ++ [(c + a) % B]) + B ^ (i + 1) * ((c + a) / B) = X + B ^ i * a := by
  subst hi
  rw [vl_snoc, Int.pow_succ]
  have e := Int.mul_ediv_add_emod (c + a) B
  have e2 : (c + a) % B = (c + a) - B * ((c + a) / B) := by omega
  rw [e2]
  generalize (c + a) / B = q at *
  grind
theorem carry_le {B t k : Int} (hB : 0 < B) (h0 : 0 ≤ t) (h : t < (k + 1) * B) : 0 ≤ t / B ∧ t / B ≤ k := by
  refine ⟨Int.ediv_nonneg h0 (Int.le_of_lt hB), ?_⟩
  have := Int.ediv_lt_of_lt_mul hB h
  omega
theorem mod_lim {B t : Int} (hB : 0 < B) : 0 ≤ t % B ∧ t % B < B := ⟨Int.emod_nonneg _ (by omega), Int.emod_lt_of_pos _ hB⟩

/-- what `normal` gives -/
def Nrm (ns nr : List Int) : Prop := ∃ k, k ≤ ns.length ∧ nr = ns.take k ∧ (∀ x ∈ ns.drop k, x = 0) ∧ (0 < k → ns.getD (k - 1) 0 ≠ 0)
theorem Nrm.rp {B : Int} {ns nr : List Int} (h : Lim B ns) (hn : Nrm ns nr) : Rp B nr (vl B ns) := by
  obtain ⟨k, hk, rfl, hz, hl⟩ := hn
  refine ⟨h.take k, fun e => ?_, ?_⟩
  · cases k with
    | zero => simp at e
    | succ k =>
      refine hl (Nat.succ_pos _) ?_
      rw [List.getLast?_take] at e
      simp at e
      rw [List.getD_eq_getElem?_getD]
      simp
      rw [List.getElem?_eq_getElem (by omega)] at e ⊢
      rcases (by simpa using e : ns[k] = 0 ∨ ns.length ≤ k ∧ ns.getLast? = some 0) with e | e
      · simpa using e
      · omega
  · rw [vl_take_drop (ns := ns) k, vl_zeros hz]; simp

section
variable {B : Int} {ns ms xs ys : List Int} {x y : Int}

theorem getD_ge {k : Nat} (h : ns.length ≤ k) : ns.getD k 0 = 0 := by
  rw [List.getD_eq_getElem?_getD, List.getElem?_eq_none h]; rfl
theorem getD_lt {k : Nat} (h : k < ns.length) : ns.getD k 0 = ns[k] := by
  rw [List.getD_eq_getElem?_getD, List.getElem?_eq_getElem h]; rfl
theorem vl_take_succ' (k : Nat) : vl B (ns.take (k + 1)) = vl B (ns.take k) + B ^ k * ns.getD k 0 := by
  by_cases h : k < ns.length
  · exact vl_take_succ h
  · rw [getD_ge (by omega), List.take_of_length_le (by omega), List.take_of_length_le (by omega)]; simp
theorem vl_drop_succ (k : Nat) : vl B (ns.drop k) = ns.getD k 0 + B * vl B (ns.drop (k + 1)) := by
  by_cases h : k < ns.length
  · rw [List.drop_eq_getElem_cons h, getD_lt h]; rfl
  · rw [getD_ge (by omega), List.drop_of_length_le (by omega), List.drop_of_length_le (by omega)]; simp [vl]
theorem vl_set {k : Nat} {v : Int} (hk : k < ns.length) : vl B (ns.set k v) = vl B ns + B ^ k * (v - ns.getD k 0) := by
  induction ns generalizing k with
  | nil => simp at hk
  | cons a r ih =>
    cases k with
    | zero => simp [vl]; omega
    | succ k =>
      have := ih (k := k) (by simpa using hk)
      simp only [List.set_cons_succ, vl, this, Int.pow_succ, List.getD_cons_succ]
      grind
theorem Lim.set {k : Nat} {v : Int} (h : Lim B ns) (h0 : 0 ≤ v) (h1 : v < B) : Lim B (ns.set k v) := fun x hx => by
  rcases List.mem_or_eq_of_mem_set hx with hx | rfl
  · exact h x hx
  · exact ⟨h0, h1⟩
theorem getD_set_self {k : Nat} {v : Int} (h : k < ns.length) : (ns.set k v).getD k 0 = v := by
  rw [getD_lt (by simpa using h)]; simp
theorem getD_set_ne {k j : Nat} {v : Int} (h : k ≠ j) : (ns.set k v).getD j 0 = ns.getD j 0 := by
  rw [List.getD_eq_getElem?_getD, List.getD_eq_getElem?_getD, List.getElem?_set_ne h]
theorem drop_set_lt {k j : Nat} {v : Int} (h : k < j) : (ns.set k v).drop j = ns.drop j := by
  rw [List.drop_set, if_pos h]
theorem getD_drop {k j : Nat} : (ns.drop k).getD j 0 = ns.getD (k + j) 0 := by
  rw [List.getD_eq_getElem?_getD, List.getD_eq_getElem?_getD, List.getElem?_drop]

/-- the row with the greater limb, above which both agree, is greater -/
theorem cmp_lt (hB : 0 < B) (h1 : Lim B ns) (h2 : Lim B ms) (hl : ns.length = ms.length) {k : Nat} (hk : k < ns.length) (hd : ns.drop (k + 1) = ms.drop (k + 1)) (hlt : ns.getD k 0 < ms.getD k 0) : vl B ns < vl B ms := by
  rw [vl_take_drop (ns := ns) (k + 1), vl_take_drop (ns := ms) (k + 1), hd, hl, vl_take_succ', vl_take_succ']
  have a1 := vl_lt hB (h1.take k)
  have a2 := vl_nonneg hB (h2.take k)
  rw [List.length_take, Nat.min_eq_left (by omega)] at a1
  have a3 : B ^ k * (ns.getD k 0 + 1) ≤ B ^ k * ms.getD k 0 := Int.mul_le_mul_of_nonneg_left (by omega) (Int.le_of_lt (pow_pos' hB k))
  have a4 : B ^ k * (ns.getD k 0 + 1) = B ^ k * ns.getD k 0 + B ^ k := by grind
  omega
theorem len_lt (hB : 0 < B) (h1 : Rp B ns x) (h2 : Rp B ms y) (hl : ns.length < ms.length) : x < y := by
  have a1 := h1.lt hB
  have a2 := h2.ge hB (by rintro rfl; simp at hl)
  have a3 := pow_mono' hB (show ns.length ≤ ms.length - 1 by omega)
  omega
end

theorem nat_and_shift {c a k : Nat} (h : c < 2 ^ k) : c &&& (a * 2 ^ k) = 0 := by
  apply Nat.eq_of_testBit_eq
  intro i
  rw [Nat.testBit_and, Nat.zero_testBit, ← Nat.shiftLeft_eq, Nat.testBit_shiftLeft]
  by_cases hi : k ≤ i
  · rw [Nat.testBit_lt_two_pow (Nat.lt_of_lt_of_le h (Nat.pow_le_pow_right (by decide) hi))]; rfl
  · simp [hi]
theorem or_add {c a : Int} {k : Nat} (h0 : 0 ≤ c) (h1 : c < 2 ^ k) (ha : 0 ≤ a) : Builtin.bitOr c (a * 2 ^ k) = c + a * 2 ^ k := by
  rw [bitOr_and]
  have hp : 0 ≤ a * 2 ^ k := Int.mul_nonneg ha (Int.le_of_lt (Int.pow_pos (by decide)))
  rw [bitAnd_pp h0 hp]
  obtain ⟨c, rfl⟩ := Int.eq_ofNat_of_zero_le h0
  obtain ⟨a, rfl⟩ := Int.eq_ofNat_of_zero_le ha
  have h2 : (((a : Int) * 2 ^ k)).toNat = a * 2 ^ k := by
    rw [two_pow_cast, ← Int.natCast_mul, Int.toNat_natCast]
  rw [h2, Int.toNat_natCast, nat_and_shift (by rw [two_pow_cast] at h1; omega)]
  simp
theorem or_add' {c a : Int} {k : Nat} (h0 : 0 ≤ c) (h1 : c < 2 ^ k) (ha : 0 ≤ a) : Builtin.bitOr (a * 2 ^ k) c = c + a * 2 ^ k := by
  rw [bitOr_and, bitAnd_comm, ← or_add h0 h1 ha, bitOr_and]; omega

theorem set_step {B c a t : Int} {fs : List Int} {j : Nat} (hj : j < fs.length) (ht : t = c + (fs.getD j 0 + a)) :
    vl B (fs.set j (t % B)) + B ^ (j + 1) * (t / B) = vl B fs + B ^ j * c + B ^ j * a := by
  rw [vl_set hj, Int.pow_succ]
  have e := Int.mul_ediv_add_emod t B
  have e2 : t % B = t - B * (t / B) := by omega
  rw [e2]
  generalize t / B = q at *
  subst ht
  grind
theorem mul_bound {B c f l o : Int} (hB : 1 < B) (hc : c ≤ B - 1) (hf : f ≤ B - 1) (hl0 : 0 ≤ l) (hl : l ≤ B - 1) (ho0 : 0 ≤ o) (ho : o ≤ B - 1) : 0 ≤ l * o ∧ c + (f + l * o) < (B - 1 + 1) * B := by
  have h1 : l * o ≤ (B - 1) * (B - 1) := Int.le_trans (Int.mul_le_mul_of_nonneg_right hl ho0) (Int.mul_le_mul_of_nonneg_left ho (by omega))
  have h2 : (B - 1 + 1) * B = (B - 1) * (B - 1) + 2 * (B - 1) + 1 := by grind
  exact ⟨Int.mul_nonneg hl0 ho0, by omega⟩
theorem lim_replicate {B : Int} (hB : 0 < B) (k : Nat) : Lim B (List.replicate k 0) := fun x hx => by rw [List.eq_of_mem_replicate hx]; exact ⟨Int.le_refl 0, hB⟩
theorem vl_replicate {B : Int} (k : Nat) : vl B (List.replicate k 0) = 0 := vl_zeros fun x hx => List.eq_of_mem_replicate hx
theorem getD_zero_of {ns : List Int} {k : Nat} (h : ∀ x ∈ ns.drop k, x = 0) {j : Nat} (hj : k ≤ j) : ns.getD j 0 = 0 := by
  by_cases hl : j < ns.length
  · rw [getD_lt hl]
    refine h _ (List.mem_iff_getElem?.mpr ⟨j - k, ?_⟩)
    rw [List.getElem?_drop, show k + (j - k) = j by omega, List.getElem?_eq_getElem hl]
  · exact getD_ge (by omega)
theorem drop_zero_mono {ns : List Int} {k j : Nat} (h : ∀ x ∈ ns.drop k, x = 0) (hj : k ≤ j) : ∀ x ∈ ns.drop j, x = 0 := fun x hx => h x (by
  rw [show j = k + (j - k) by omega, ← List.drop_drop] at hx
  exact List.mem_of_mem_drop hx)

theorem shrk_ {x k : Int} (_ : 0 ≤ k) : x.fdiv (2 ^ k.toNat) = x / 2 ^ k.toNat := by
  rw [Int.fdiv_eq_ediv_of_nonneg _ (Int.le_of_lt (Int.pow_pos (by decide)))]
end Mine
end

/-! PK -/
section
open PySem PyProof.Rows
set_option Elab.async false
namespace Mine

/-! the plain law of one turn of the long division -/
theorem vl_upper {B : Int} {fs : List Int} (hB : 1 < B) (h : Lim B fs) {k : Nat} (hk : k ≤ fs.length) (hlt : vl B fs < B ^ k) : vl B (fs.drop k) = 0 := by
  have h1 := vl_take_drop (B := B) (ns := fs) k
  rw [Nat.min_eq_left hk] at h1
  have h2 := vl_nonneg (by omega) (h.take k)
  have h3 := vl_nonneg (by omega) (h.drop k)
  have h4 := pow_pos' (B := B) (by omega) k
  by_cases h5 : vl B (fs.drop k) = 0
  · exact h5
  · have h6 : B ^ k * 1 ≤ B ^ k * vl B (fs.drop k) := Int.mul_le_mul_of_nonneg_left (by omega) (by omega)
    omega
theorem vl_lower {B : Int} {fs : List Int} (hB : 0 < B) (h : Lim B fs) {k : Nat} (hk : k ≤ fs.length) (hz : vl B (fs.drop k) = 0) : vl B fs < B ^ k := by
  have h1 := vl_take_drop (B := B) (ns := fs) k
  rw [hz, Int.mul_zero, Int.add_zero] at h1
  have h2 := vl_lt hB (h.take k)
  rw [List.length_take, Nat.min_eq_left hk] at h2
  omega

theorem three_top {B : Int} {fs : List Int} {k : Nat} (hk : k + 3 ≤ fs.length) : vl B fs = vl B (fs.take k) + B ^ k * ((fs.getD (k + 2) 0 * B + fs.getD (k + 1) 0) * B + fs.getD k 0) + B ^ (k + 3) * vl B (fs.drop (k + 3)) := by
  rw [vl_take_drop (ns := fs) k, Nat.min_eq_left (by omega), vl_drop_succ k, vl_drop_succ (k + 1), vl_drop_succ (k + 2)]
  rw [show k + 3 = k + 2 + 1 by omega, Int.pow_succ, Int.pow_succ, Int.pow_succ]
  grind
theorem two_top {B : Int} {ns : List Int} {k : Nat} (hk : k + 2 = ns.length) : vl B ns = vl B (ns.take k) + B ^ k * (ns.getD (k + 1) 0 * B + ns.getD k 0) := by
  rw [vl_take_drop (ns := ns) k, Nat.min_eq_left (by omega), vl_drop_succ k, vl_drop_succ (k + 1), List.drop_of_length_le (by omega : ns.length ≤ k + 1 + 1)]
  simp only [vl]
  grind

theorem knuth_guess {B : Int} {fs nb : List Int} {p z : Nat} {q : Int} (hB : 1 < B) (hf : Lim B fs) (hn : Lim B nb) (hz : z + 2 = nb.length) (hl : p + nb.length < fs.length)
    (hlt : vl B fs < vl B nb * B ^ (p + 1)) (htop : 0 < nb.getD (z + 1) 0) (hq0 : 0 ≤ q) (hq1 : q ≤ B - 1)
    (g1 : q * (nb.getD (z + 1) 0 * B + nb.getD z 0) ≤ (fs.getD (p + z + 2) 0 * B + fs.getD (p + z + 1) 0) * B + fs.getD (p + z) 0)
    (g2 : q = B - 1 ∨ (fs.getD (p + z + 2) 0 * B + fs.getD (p + z + 1) 0) * B + fs.getD (p + z) 0 < (q + 1) * (nb.getD (z + 1) 0 * B + nb.getD z 0)) :
    vl B fs < (q + 1) * vl B nb * B ^ p ∧ (q - 1) * vl B nb * B ^ p ≤ vl B fs ∧ vl B (fs.drop (p + nb.length + 1)) = 0 := by
  have hB0 : 0 < B := by omega
  have hbp := pow_pos' hB0 p
  have hbz := pow_pos' hB0 z
  have hup : vl B (fs.drop (p + nb.length + 1)) = 0 := by
    refine vl_upper hB hf (by omega) (Int.lt_of_lt_of_le hlt ?_)
    have h1 := vl_lt hB0 hn
    have h2 : vl B nb * B ^ (p + 1) ≤ B ^ nb.length * B ^ (p + 1) := Int.mul_le_mul_of_nonneg_right (by omega) (Int.le_of_lt (pow_pos' hB0 _))
    rw [← Int.pow_add] at h2
    rw [show p + nb.length + 1 = nb.length + (p + 1) by omega]
    exact h2
  have e3 := three_top (B := B) (fs := fs) (k := p + z) (by omega)
  rw [show p + z + 3 = p + nb.length + 1 by omega, hup, Int.mul_zero, Int.add_zero] at e3
  have e2 := two_top (B := B) (ns := nb) (k := z) hz
  have lo0 := vl_nonneg hB0 (hf.take (p + z))
  have lo1 := vl_lt hB0 (hf.take (p + z))
  rw [List.length_take, Nat.min_eq_left (by omega)] at lo1
  have lv0 := vl_nonneg hB0 (hn.take z)
  have lv1 := vl_lt hB0 (hn.take z)
  rw [List.length_take, Nat.min_eq_left (by omega)] at lv1
  have hz0 := (hn.getD hB0 z).1
  rw [Int.pow_add] at e3 lo1
  have hV3 : B ≤ nb.getD (z + 1) 0 * B + nb.getD z 0 := by
    have : 1 * B ≤ nb.getD (z + 1) 0 * B := Int.mul_le_mul_of_nonneg_right (by omega) (by omega)
    omega
  rw [Int.pow_succ] at hlt
  generalize (fs.getD (p + z + 2) 0 * B + fs.getD (p + z + 1) 0) * B + fs.getD (p + z) 0 = U at *
  generalize nb.getD (z + 1) 0 * B + nb.getD z 0 = V at *
  generalize vl B (fs.take (p + z)) = lo at *
  generalize vl B (nb.take z) = lv at *
  generalize vl B fs = X at *
  generalize vl B nb = v at *
  generalize B ^ p = P at *
  generalize B ^ z = Z at *
  have hPZ : 0 < P * Z := Int.mul_pos hbp hbz
  refine ⟨?_, ?_, hup⟩
  · rcases g2 with rfl | g2
    · have : (B - 1 + 1) * v * P = v * (P * B) := by grind
      omega
    · have a1 : P * Z * (U + 1) ≤ P * Z * ((q + 1) * V) := Int.mul_le_mul_of_nonneg_left (by omega) (Int.le_of_lt hPZ)
      have a2 : P * Z * (U + 1) = P * Z * U + P * Z := by grind
      have a3 : (q + 1) * v * P = P * Z * ((q + 1) * V) + (q + 1) * lv * P := by rw [e2]; grind
      have a4 : 0 ≤ (q + 1) * lv * P := Int.mul_nonneg (Int.mul_nonneg (by omega) lv0) (Int.le_of_lt hbp)
      omega
  · by_cases h0 : q = 0
    · subst h0
      have b1 : (0 - 1) * v * P = -(v * P) := by grind
      have b2 : 0 ≤ v * P := Int.mul_nonneg (by rw [e2]; have := Int.mul_nonneg (Int.le_of_lt hbz) (show 0 ≤ V by omega); omega) (Int.le_of_lt hbp)
      have b3 : 0 ≤ P * Z * U := Int.mul_nonneg (Int.le_of_lt hPZ) (by rw [Int.zero_mul] at g1; exact g1)
      omega
    · have a1 : (q - 1) * P * lv ≤ (q - 1) * P * Z := Int.mul_le_mul_of_nonneg_left (by omega) (Int.mul_nonneg (by omega) (Int.le_of_lt hbp))
      have a2 : (q - 1) * v * P = (q - 1) * P * lv + P * Z * ((q - 1) * V) := by rw [e2]; grind
      have a3 : P * Z * ((q - 1) * V + (q - 1)) ≤ P * Z * U := Int.mul_le_mul_of_nonneg_left (by
        have : (q - 1) * V = q * V - V := by grind
        omega) (Int.le_of_lt hPZ)
      have a4 : P * Z * ((q - 1) * V + (q - 1)) = P * Z * ((q - 1) * V) + (q - 1) * P * Z := by grind
      omega
end Mine
end

/-! PF -/
section
open PySem PyProof.Rows
set_option Elab.async false
namespace Mine
/-! Fibonacci's row -/
def fb : Nat → Int
  | 0 => 0
  | 1 => 1
  | n + 2 => fb n + fb (n + 1)
theorem fb_two (n : Nat) : fb (n + 2) = fb n + fb (n + 1) := rfl
theorem fb_nonneg : ∀ n, 0 ≤ fb n
  | 0 => by decide
  | 1 => by decide
  | n + 2 => by have := fb_nonneg n; have := fb_nonneg (n + 1); rw [fb_two]; omega
theorem fb_le : ∀ n, fb n ≤ 2 ^ n
  | 0 => by decide
  | 1 => by decide
  | n + 2 => by
    have h1 := fb_le n
    have h2 := fb_le (n + 1)
    rw [fb_two, Int.pow_succ, Int.pow_succ]
    rw [Int.pow_succ] at h2
    have := pow_pos' (B := 2) (by decide) n
    omega
theorem fb_mono (n : Nat) : fb n ≤ fb (n + 1) := by
  match n with
  | 0 => decide
  | n + 1 => rw [fb_two]; have := fb_nonneg n; omega
theorem fb_lt (n : Nat) (h : n < 45) : fb n < 2 ^ 45 := by
  have h1 := fb_le n
  have h2 := pow_mono' (B := 2) (by decide) (show n ≤ 44 by omega)
  have : (2 : Int) ^ 44 < 2 ^ 45 := by decide
  omega
theorem mul_lt {x y : Int} {a b : Nat} (hx0 : 0 ≤ x) (hx : x < 2 ^ a) (hy0 : 0 ≤ y) (hy : y < 2 ^ b) : x * y < 2 ^ (a + b) := by
  rw [Int.pow_add]
  have h1 : x * y ≤ x * 2 ^ b := Int.mul_le_mul_of_nonneg_left (by omega) hx0
  have h2 : x * 2 ^ b < 2 ^ a * 2 ^ b := Int.mul_lt_mul_of_pos_right hx (Int.pow_pos (by decide))
  omega
theorem rp_len {W : Nat} {ns : List Int} {x : Int} (hw : 0 < W) (h : Rp (2 ^ W) ns x) {k : Nat} (hx : x < 2 ^ k) : ns.length ≤ k := by
  by_cases hc : ns.length ≤ k
  · exact hc
  · have hB : (0 : Int) < 2 ^ W := Int.pow_pos (by decide)
    have h1 := h.ge hB (by rintro rfl; simp at hc)
    have h2 := pow_mono' (B := 2) (by decide) (show k ≤ W * (ns.length - 1) by
      have : 1 * (ns.length - 1) ≤ W * (ns.length - 1) := Nat.mul_le_mul_right _ hw
      omega)
    rw [Int.pow_mul] at h2
    omega
theorem rp9 {W : Nat} {ns : List Int} {x : Int} (hw : 0 < W) (h : Rp (2 ^ W) ns x) {k : Nat} (hx : x < 2 ^ k) (hk : k < 300 := by decide) : ns.length < 300 := Nat.lt_of_le_of_lt (rp_len hw h hx) hk
theorem lt4 {n : Nat} (h : n < 300) : n < 400 := by omega
theorem lt10 {n : Nat} (h : n < 300) : n < 1000 := by omega
/-- the sum of two places -/
theorem fb_add (m : Nat) : ∀ n, fb (n + m + 1) = fb (n + 1) * fb (m + 1) + fb n * fb m
  | 0 => by simp [fb]
  | 1 => by
    have : 1 + m + 1 = m + 2 := by omega
    rw [this, fb_two]
    simp [fb]
    omega
  | n + 2 => by
    have h1 := fb_add m n
    have h2 := fb_add m (n + 1)
    have e : n + 2 + m + 1 = (n + m + 1) + 2 := by omega
    have e2 : n + 1 + m + 1 = (n + m + 1) + 1 := by omega
    rw [e, fb_two, ← e2, h1, h2, fb_two (n + 1), fb_two n]
    grind
theorem fb_sum (n m : Nat) : fb n * fb (m + 1) + (fb (n + 1) - fb n) * fb m = fb (n + m) := by
  match m with
  | 0 => simp [fb]
  | m + 1 =>
    have := fb_add m n
    rw [show n + (m + 1) = n + m + 1 by omega, this, fb_two]
    grind
theorem fb_double (n : Nat) : fb n * (fb (n + 1) * 2 - fb n) = fb (2 * n) := by
  have := fb_sum n n
  rw [show 2 * n = n + n by omega, ← this]
  grind
theorem fb_double1 (n : Nat) : fb n * fb n + fb (n + 1) * fb (n + 1) = fb (2 * n + 1) := by
  have := fb_add n n
  rw [show 2 * n + 1 = n + n + 1 by omega, this]
  grind
/-- d'Ocagne -/
theorem fb_apart (k : Nat) : ∀ m, fb (m + k) * fb (m + 1) - fb (m + k + 1) * fb m = (if m % 2 = 1 then - fb k else fb k)
  | 0 => by simp [fb]
  | m + 1 => by
    have h := fb_apart k m
    have e : fb (m + 1 + k) = fb (m + k + 1) := by congr 1; omega
    have e2 : fb (m + 1 + k + 1) = fb (m + k) + fb (m + k + 1) := by rw [← fb_two]; congr 1; omega
    rw [e, e2, fb_two]
    by_cases hm : m % 2 = 1
    · rw [if_pos hm] at h
      rw [if_neg (by omega)]
      grind
    · rw [if_neg hm] at h
      rw [if_pos (by omega)]
      grind
theorem fb_apart_odd (k m : Nat) (h : m % 2 = 1) : fb (m + k + 1) * fb m - fb (m + k) * fb (m + 1) = fb k ∧ fb (m + k) * fb (m + 1) ≤ fb (m + k + 1) * fb m := by
  have := fb_apart k m
  rw [if_pos h] at this
  have := fb_nonneg k
  omega
theorem fb_apart_even (k m : Nat) (h : m % 2 = 0) : fb (m + k) * fb (m + 1) - fb (m + k + 1) * fb m = fb k ∧ fb (m + k + 1) * fb m ≤ fb (m + k) * fb (m + 1) := by
  have := fb_apart k m
  rw [if_neg (by omega)] at this
  have := fb_nonneg k
  omega
theorem fb_cassini (n : Nat) : fb n * (fb n + fb (n + 1)) - fb (n + 1) * fb (n + 1) = (if n % 2 = 1 then 1 else -1) := by
  have h := fb_apart 1 n
  rw [fb_two, show fb 1 = 1 from rfl] at h
  by_cases hm : n % 2 = 1
  · rw [if_pos hm] at h ⊢
    grind
  · rw [if_neg hm] at h ⊢
    grind
theorem fb_strict (n : Nat) (h : 2 ≤ n) : fb n < fb (n + 1) := by
  match n, h with
  | n + 2, _ =>
    have a : 0 < fb (n + 1) := by
      clear h
      induction n with
      | zero => decide
      | succ n ih => rw [fb_two]; have := fb_nonneg n; omega
    show fb (n + 2) < fb (n + 1) + fb (n + 2)
    omega
theorem fb_lt_of {n m : Nat} (h : 2 ≤ n) (hm : n < m) : fb n < fb m := by
  induction m with
  | zero => omega
  | succ m ih =>
    by_cases e : n = m
    · subst e; exact fb_strict n h
    · have := ih (by omega)
      have := fb_strict m (by omega)
      omega
def idx (n : Nat) : Int := (n : Int) - (if n > 1 then 1 else 0)
theorem fb_order {n m : Nat} (h : idx n < idx m) : fb n < fb m := by
  unfold idx at h
  by_cases h2 : 2 ≤ n
  · exact fb_lt_of h2 (by split at h <;> split at h <;> omega)
  · have h3 : n = 0 ∨ n = 1 := by omega
    rcases h3 with rfl | rfl
    · have : 0 < m := by split at h <;> split at h <;> omega
      by_cases hm : m = 1
      · subst hm; decide
      · by_cases hm2 : m = 2
        · subst hm2; decide
        · have := fb_lt_of (n := 2) (m := m) (by omega) (by omega)
          have : fb 2 = 1 := rfl
          have : fb 0 = 0 := rfl
          omega
    · have : 2 < m := by split at h <;> split at h <;> omega
      exact fb_lt_of (n := 2) (by omega) this
theorem fb_same {n m : Nat} (h : idx n = idx m) : fb n = fb m := by
  unfold idx at h
  by_cases e : n = m
  · rw [e]
  · have : n ≤ 2 ∧ m ≤ 2 ∧ 1 ≤ n ∧ 1 ≤ m := by split at h <;> split at h <;> omega
    obtain ⟨a, b, c, d⟩ := this
    have e1 : fb n = 1 := by
      have : n = 1 ∨ n = 2 := by omega
      rcases this with rfl | rfl <;> rfl
    have e2 : fb m = 1 := by
      have : m = 1 ∨ m = 2 := by omega
      rcases this with rfl | rfl <;> rfl
    rw [e1, e2]
def fbs : Nat → Int × Int
  | 0 => (0, 1)
  | n + 1 => ((fbs n).2, (fbs n).1 + (fbs n).2)
theorem fbs_eq : ∀ n, fbs n = (fb n, fb (n + 1))
  | 0 => rfl
  | n + 1 => by rw [fbs, fbs_eq n]; rfl
theorem fbs_div : ∀ m < 41, ∀ n < 41, 3 ≤ m → (decide ((fbs n).1 % (fbs m).1 = 0) = decide (n % m = 0)) := by decide +kernel
theorem fb_div {n m : Nat} (hm : m < 41) (hn : n < 41) (h : 3 ≤ m) : fb n % fb m = 0 ↔ n % m = 0 := by
  have := fbs_div m hm n hn h
  rw [fbs_eq, fbs_eq] at this
  exact decide_eq_decide.mp this
end Mine
end

/-! PR -/
section
open PySem PySem.W PySem.Calls PyProof.Rows
set_option Elab.async false
namespace Mine
/-- a pair of two neighbours that stands in the heap, at good addresses -/
def IsPr (W : Nat) (P : Addr → Prop) (h : Heap) (p : Addr) (n : Nat) : Prop :=
  ∃ a b va vb na nb, IsTup h p #[.ref a, .ref b] ∧ h.IsList a (List.toArray va) ∧ h.IsList b (List.toArray vb) ∧ IntsAre va na ∧ IntsAre vb nb ∧ Rp (2 ^ W) na (fb n) ∧ Rp (2 ^ W) nb (fb (n + 1)) ∧ P p ∧ P a ∧ P b
/-- a place told with its pair -/
def IsMo (W : Nat) (P : Addr → Prop) (h : Heap) (m : Addr) (n : Nat) : Prop :=
  ∃ p t, IsTup h m #[.int n t, .ref p] ∧ IsPr W P h p n ∧ P m
theorem isList_kp {h h' : Heap} {l : Addr} {its : Array Value} (x : h.IsList l its) (k : Kp h h') : h'.IsList l its := let ⟨o, ho, r⟩ := x; ⟨o, k l o ho, r⟩
theorem isTup_kp {h h' : Heap} {l : Addr} {its : Array Value} (x : IsTup h l its) (k : Kp h h') : IsTup h' l its := x.keeps k
theorem isTup_hide {h : Heap} {l ra : Addr} {its : Array Value} (x : IsTup h l its) (hne : l ≠ ra) : IsTup (h.hide ra) l its :=
  let ⟨o, ho, r⟩ := x; ⟨o, by rw [Heap.hide_ne _ hne]; exact ho, r⟩
theorem IsPr.kp {W : Nat} {P : Addr → Prop} {h h' : Heap} {p : Addr} {n : Nat} (x : IsPr W P h p n) (k : Kp h h') : IsPr W P h' p n :=
  let ⟨a, b, va, vb, na, nb, h1, h2, h3, r⟩ := x
  ⟨a, b, va, vb, na, nb, isTup_kp h1 k, isList_kp h2 k, isList_kp h3 k, r⟩
theorem IsMo.kp {W : Nat} {P : Addr → Prop} {h h' : Heap} {p : Addr} {n : Nat} (x : IsMo W P h p n) (k : Kp h h') : IsMo W P h' p n :=
  let ⟨a, t, h1, h2, r⟩ := x
  ⟨a, t, isTup_kp h1 k, h2.kp k, r⟩
theorem IsPr.hide {W : Nat} {P : Addr → Prop} {h : Heap} {p ra : Addr} {n : Nat} (x : IsPr W P h p n) (hP : ∀ a, P a → a ≠ ra) : IsPr W P (h.hide ra) p n :=
  let ⟨a, b, va, vb, na, nb, h1, h2, h3, h4, h5, h6, h7, p1, p2, p3⟩ := x
  ⟨a, b, va, vb, na, nb, isTup_hide h1 (hP _ p1), isList_hide h2 (hP _ p2), isList_hide h3 (hP _ p3), h4, h5, h6, h7, p1, p2, p3⟩
theorem IsMo.hide {W : Nat} {P : Addr → Prop} {h : Heap} {p ra : Addr} {n : Nat} (x : IsMo W P h p n) (hP : ∀ a, P a → a ≠ ra) : IsMo W P (h.hide ra) p n :=
  let ⟨a, t, h1, h2, r⟩ := x
  ⟨a, t, isTup_hide h1 (hP _ r), h2.hide hP, r⟩
theorem AllNe.of {r a : Addr} {o : Obj} : ∀ {l : List (Addr × Obj)}, AllNe r l → (a, o) ∈ l → @Ne Nat a r
  | _ :: _, h, .head _ => h.1
  | _ :: _, h, .tail _ hm => AllNe.of h.2 hm
/-- what comes out is a told place -/
def RetM (W : Nat) (P : Addr → Prop) (n : Nat) (v : Value) (h' : Heap) : Prop := ∃ m, v = .ref m ∧ IsMo W P h' m n
end Mine
namespace Mine
/-- the turned object is the trail: its count is one higher -/
def TurnT (ra st : Addr) (t : Nat) (V : Int → Prop) (v : Value) (h' : Heap) : Prop := ∃ u n k tk, h'.get? ra = some (listOf #[.int ((t : Int) + 1) u, .ref st] n) ∧ v = .int k tk ∧ V k
theorem retT {s : Shared} {L ra st : Addr} {t : Nat} {m : Str → Option Value} {news : List (Addr × Obj)} {h' : Heap} {tk' : Nat} {u : Tok} {n : Nat} {k : Int} {tk : Tok} {V : Int → Prop}
    (F : Fr (s.heap.hide ra) L h' m) (N : News (s.heap.hide ra) L h' news) (hm : (ra, listOf #[.int ((t : Int) + 1) u, .ref st] n) ∈ news) (hV : V k) : PostM s ra (TurnT ra st t V) (.int k tk) { s with heap := h', toks := tk' } :=
  ⟨_, _, rfl, F.keep, u, n, k, tk, (N _ hm).1, rfl, hV⟩
theorem useT {M : Model} {A : Around} {E : Value → Shared → Prop} {s : Shared} {t : Sem Value} {ra st : Addr} {c : Nat} {o : Obj} {V : Int → Prop} {h₀ : Heap} {L : Addr} {m : Str → Option Value} {rest : List (Addr × Obj)} {Q : Value → Shared → Prop}
    (hc : wpAny M A t (PostM s ra (TurnT ra st c V)) E s) (F : Fr h₀ L s.heap m) (N : News h₀ L s.heap ((ra, o) :: rest)) (hne : ∀ p ∈ rest, p.1 ≠ ra)
    (h : ∀ u n k tk h' tk', Fr h₀ L h' m → News h₀ L h' ((ra, listOf #[.int ((c : Int) + 1) u, .ref st] n) :: rest) → Kp (s.heap.hide ra) h' → V k → Q (.int k tk) { s with heap := h', toks := tk' }) :
    wpAny M A t Q E s := by
  refine wpAny_mono hc (fun v s' hv => ?_) fun _ _ x => x
  obtain ⟨h', tk', rfl, hk, u, n, k, tk, h1, rfl, h3⟩ := hv
  have n0 := N _ (.head _)
  have up : ∀ b o, b ≠ ra → s.heap.get? b = some o → h'.get? b = some o := fun b o hb e => hk b o ((Heap.hide_ne _ hb).trans e)
  refine h u n k tk h' tk' ⟨F.ns.at' fun o e => up _ o (Ne.symm n0.2.1) e, fun b o e => up b o (fun q => by have z := n0.2.2; rw [← q, e] at z; cases z) (F.keep b o e), F.above⟩ ?_ hk h3
  intro p hp
  rcases List.mem_cons.mp hp with rfl | hp
  · exact ⟨h1, n0.2⟩
  · have np := N p (.tail _ hp)
    exact ⟨up _ _ (hne p hp) np.1, np.2⟩
end Mine
end

/-! PT -/
section
open PySem PySem.W PySem.Calls PyProof.Rows
set_option Elab.async false
namespace Mine
theorem tup_at {prog : Program} {w : World} {A : Around} {E : Value → Shared → Prop} {s : Shared} {value slice : PySem.Expr} {t : Addr} {its : Array Value} {k : Int} {u : Tok} (j : Nat) {v : Value} {Q : Value → Shared → Prop} (ht : IsTup s.heap t its) (hk : k = j) (hj : j < 1000) (hx : its[j]? = some v) (h : Q v s)
    (hs : ∀ o i : Value, subscripted slice false o i = operate [o, i] (getItem o i) := by intro _ _; rfl) :
    wpAny (model prog w) A (subscriptTail value slice (.ref t) (.int k u)) Q E s := by
  subst hk
  have hlt : j < its.size := by
    apply Nat.lt_of_not_le
    intro hle
    rw [Array.getElem?_eq_none hle] at hx
    cases hx
  refine tail_any ht.typeIs slot_tuple_getitem.lookup (getItem_tuple ht (by omega) (by omega) (j := j) ?_ hx h) (hs _ _)
  unfold seqIndex?
  have h0 : ¬ ((j : Int) < 0) := by omega
  simp [h0, hlt]
/-- the first of a pair that stood when the frame was opened -/
theorem tup_0 {prog : Program} {w : World} {A : Around} {E : Value → Shared → Prop} {s : Shared} {value slice : PySem.Expr} {t : Addr} {u : Tok} {v v' : Value} {Q : Value → Shared → Prop} {h₀ : Heap} {L : Addr} {m : Str → Option Value} (F : Fr h₀ L s.heap m) (ht : IsTup h₀ t #[v, v']) (h : Q v s)
    (hs : ∀ o i : Value, subscripted slice false o i = operate [o, i] (getItem o i) := by intro _ _; rfl) :
    wpAny (model prog w) A (subscriptTail value slice (.ref t) (.int 0 u)) Q E s :=
  tup_at 0 (isTup_kp ht F.keep) rfl (by decide) rfl h hs
/-- its second -/
theorem tup_1 {prog : Program} {w : World} {A : Around} {E : Value → Shared → Prop} {s : Shared} {value slice : PySem.Expr} {t : Addr} {u : Tok} {v v' : Value} {Q : Value → Shared → Prop} {h₀ : Heap} {L : Addr} {m : Str → Option Value} (F : Fr h₀ L s.heap m) (ht : IsTup h₀ t #[v, v']) (h : Q v' s)
    (hs : ∀ o i : Value, subscripted slice false o i = operate [o, i] (getItem o i) := by intro _ _; rfl) :
    wpAny (model prog w) A (subscriptTail value slice (.ref t) (.int 1 u)) Q E s :=
  tup_at 1 (isTup_kp ht F.keep) rfl (by decide) rfl h hs
/-- the first of a pair that stands -/
theorem tupN_0 {prog : Program} {w : World} {A : Around} {E : Value → Shared → Prop} {s : Shared} {value slice : PySem.Expr} {t : Addr} {u : Tok} {v v' : Value} {Q : Value → Shared → Prop} (ht : IsTup s.heap t #[v, v']) (h : Q v s)
    (hs : ∀ o i : Value, subscripted slice false o i = operate [o, i] (getItem o i) := by intro _ _; rfl) :
    wpAny (model prog w) A (subscriptTail value slice (.ref t) (.int 0 u)) Q E s :=
  tup_at 0 ht rfl (by decide) rfl h hs
/-- its second -/
theorem tupN_1 {prog : Program} {w : World} {A : Around} {E : Value → Shared → Prop} {s : Shared} {value slice : PySem.Expr} {t : Addr} {u : Tok} {v v' : Value} {Q : Value → Shared → Prop} (ht : IsTup s.heap t #[v, v']) (h : Q v' s)
    (hs : ∀ o i : Value, subscripted slice false o i = operate [o, i] (getItem o i) := by intro _ _; rfl) :
    wpAny (model prog w) A (subscriptTail value slice (.ref t) (.int 1 u)) Q E s :=
  tup_at 1 ht rfl (by decide) rfl h hs
end Mine
end

/-! PE -/
section
open PySem PySem.W PySem.Calls PyProof.Rows PyProof.V PySem.Spec PySem.SeqAt
set_option Elab.async false
namespace Mine
theorem reads_pair {h : Heap} {a a1 a2 : Addr} {v1 v2 : List Value} {n1 n2 : List Int} (ta : IsTup h a #[.ref a1, .ref a2]) (l1 : h.IsList a1 v1.toArray) (i1 : IntsAre v1 n1) (l2 : h.IsList a2 v2.toArray) (i2 : IntsAre v2 n2) :
    ∃ as, Reads h (.ref a) (.tuple [.list (n1.map PyData.int), .list (n2.map PyData.int)]) as := by
  obtain ⟨o, ho, hc, n, hd⟩ := ta
  exact ⟨_, Reads.tuple ho hc hd (ReadsAll.cons (reads_of_ints l1 i1) (ReadsAll.cons (reads_of_ints l2 i2) .nil))⟩
theorem shaped_pair (n1 n2 : List Int) : shaped (.tuple [.list (n1.map PyData.int), .list (n2.map PyData.int)]) = true := by
  have h1 := PySem.W.depthAll_ints n1
  have h2 := PySem.W.depthAll_ints n2
  have h3 : PyData.depth (.tuple [.list (n1.map PyData.int), .list (n2.map PyData.int)]) ≤ 64 := by simp only [PyData.depth, PyData.depthAll]; omega
  show (PyData.canLay0 (.tuple [.list (n1.map PyData.int), .list (n2.map PyData.int)]) && decide (PyData.depth (.tuple [.list (n1.map PyData.int), .list (n2.map PyData.int)]) ≤ 64)) = true
  rw [Bool.and_eq_true]
  exact ⟨by simp [PyData.canLay0, PyData.canLayAll0, canLayAll0_ints], decide_eq_true h3⟩
theorem ne_pair {prog : Program} {w : World} {A : Around} {E : Value → Shared → Prop} {s : Shared} {Q : Value → Shared → Prop} {a a1 a2 b b1 b2 : Addr} {v1 v2 u1 u2 : List Value} {n1 n2 : List Int}
    (ta : IsTup s.heap a #[.ref a1, .ref a2]) (l1 : s.heap.IsList a1 v1.toArray) (i1 : IntsAre v1 n1) (l2 : s.heap.IsList a2 v2.toArray) (i2 : IntsAre v2 n2)
    (tb : IsTup s.heap b #[.ref b1, .ref b2]) (k1 : s.heap.IsList b1 u1.toArray) (j1 : IntsAre u1 n1) (k2 : s.heap.IsList b2 u2.toArray) (j2 : IntsAre u2 n2)
    (hu : A.units + 64 < cLine) (h : Q (.bool false) s) : wpAny (model prog w) A (compareOp .NotEq (.ref a) (.ref b)) Q E s := by
  obtain ⟨as, r1⟩ := reads_pair ta l1 i1 l2 i2
  obtain ⟨bs, r2⟩ := reads_pair tb k1 j1 k2 j2
  refine ne_dataH_same r1 r2 (shaped_pair _ _) (shaped_pair _ _) hu (by simp [noMix, noMixAll, noMix_ints]) ?_
  have e : PySem.Spec.same (.tuple [.list (n1.map PyData.int), .list (n2.map PyData.int)]) (.tuple [.list (n1.map PyData.int), .list (n2.map PyData.int)]) = true := by
    simp [PySem.Spec.same, PySem.Spec.sameAll, same_ints]
  rw [e]
  exact h
end Mine
namespace Mine
/-- a statement's end, told anew by letters, or a return -/
def NXR {σ : Type} (h₀ : Heap) (L : Addr) (Led : σ → List (Addr × Obj)) (ps : σ → List (Str × Value)) (P : σ → Prop) (s : Shared) (Q : Flow → Shared → Prop) (f : Flow) (s₂ : Shared) : Prop :=
  (f = .next ∧ TE h₀ L Led ps P [] s s₂) ∨ (∃ v, f = .ret v ∧ Q (.ret v) s₂)
theorem NXR.intro {σ : Type} {h₀ : Heap} {L : Addr} {Led : σ → List (Addr × Obj)} {ps : σ → List (Str × Value)} {P : σ → Prop} {s : Shared} {Q : Flow → Shared → Prop} (c' : σ) {h' : Heap} {tk' : Nat} {m' : Str → Option Value} {news' : List (Addr × Obj)}
    (F : Fr h₀ L h' m') (N : News h₀ L h' news') (hl : ∀ p ∈ Led c', p ∈ news') (hk : ∀ p ∈ ps c', m' p.1 = some p.2) (hp : P c') :
    NXR h₀ L Led ps P s Q .next { s with heap := h', toks := tk' } := .inl ⟨rfl, TE.intro c' F N hl (fun _ h => nomatch h) hk hp⟩
theorem NXR.ret {σ : Type} {h₀ : Heap} {L : Addr} {Led : σ → List (Addr × Obj)} {ps : σ → List (Str × Value)} {P : σ → Prop} {s s₂ : Shared} {Q : Flow → Shared → Prop} {v : Value} (h : Q (.ret v) s₂) : NXR h₀ L Led ps P s Q (.ret v) s₂ := .inr ⟨v, rfl, h⟩
theorem seqR_ {σ : Type} {M : Model} {A : Around} {E : Value → Shared → Prop} {s s₁ : Shared} {t : Sem Flow} {Q : Flow → Shared → Prop} {h₀ : Heap} {L : Addr} (Led : σ → List (Addr × Obj)) (ps : σ → List (Str × Value)) (P : σ → Prop)
    (h : wpAny M A t (NXR h₀ L Led ps P s Q) E s₁) (k : ∀ c u h tk, P c → Fr h₀ L h (kstB u (ps c)) → News h₀ L h (Led c) → Q .next { s with heap := h, toks := tk }) : wpAny M A t Q E s₁ := by
  refine wpAny_mono h (fun f s' hv => ?_) fun _ _ x => x
  rcases hv with ⟨rfl, c', h', tk', m', rfl, F, N, hk, hp⟩ | ⟨v, rfl, hv⟩
  · exact k c' m' h' tk' hp (Fr.norm F hk) fun p hp => N p (List.mem_append_left _ hp)
  · exact hv
/-- a told place comes back -/
def RetG (W : Nat) (P : Addr → Prop) (v : Value) (h' : Heap) : Prop := ∃ m k, v = .ref m ∧ k < 41 ∧ IsMo W P h' m k
theorem ret_mo {s : Shared} {W : Nat} {P : Addr → Prop} {L : Addr} {mm : Str → Option Value} {news : List (Addr × Obj)} {h' : Heap} {tk' : Nat} {m p : Addr} {k : Nat} {t : Tok} {z : Int}
    (F : Fr s.heap L h' mm) (N : News s.heap L h' news) (hP : ∀ a, s.heap.get? a = none → P a) (hm : (m, tupO #[.int z t, .ref p]) ∈ news) (hz : z = k) (hpr : IsPr W P h' p k) (hk : k < 41) : Post1 s (RetG W P) (.ref m) { s with heap := h', toks := tk' } := by
  subst hz
  exact ⟨_, _, rfl, F.keep, m, k, rfl, hk, p, t, News.isTup N hm, hpr, hP _ (N _ hm).2.2⟩
theorem pr_new {s : Shared} {W : Nat} {P : Addr → Prop} {L : Addr} {news : List (Addr × Obj)} {h' : Heap} {p a b : Addr} {k n1 n2 : Nat} {va vb : List Value} {na nb : List Int}
    (N : News s.heap L h' news) (hP : ∀ a, s.heap.get? a = none → P a) (hp : (p, tupO #[.ref a, .ref b]) ∈ news) (ha : (a, listOf va.toArray n1) ∈ news) (hb : (b, listOf vb.toArray n2) ∈ news)
    (ia : IntsAre va na) (ib : IntsAre vb nb) (ra : Rp (2 ^ W) na (fb k)) (rb : Rp (2 ^ W) nb (fb (k + 1))) : IsPr W P h' p k :=
  ⟨a, b, va, vb, na, nb, News.isTup N hp, N.isList ha, N.isList hb, ia, ib, ra, rb, hP _ (N _ hp).2.2, hP _ (N _ ha).2.2, hP _ (N _ hb).2.2⟩
theorem pr_mix {s : Shared} {W : Nat} {P : Addr → Prop} {L : Addr} {news : List (Addr × Obj)} {h' : Heap} {p a b : Addr} {k : Nat} {va vb : List Value} {na nb : List Int}
    (N : News s.heap L h' news) (hP : ∀ a, s.heap.get? a = none → P a) (hp : (p, tupO #[.ref a, .ref b]) ∈ news) (ha : h'.IsList a va.toArray) (hb : h'.IsList b vb.toArray) (pa : P a) (pb : P b)
    (ia : IntsAre va na) (ib : IntsAre vb nb) (ra : Rp (2 ^ W) na (fb k)) (rb : Rp (2 ^ W) nb (fb (k + 1))) : IsPr W P h' p k :=
  ⟨a, b, va, vb, na, nb, News.isTup N hp, ha, hb, ia, ib, ra, rb, hP _ (N _ hp).2.2, pa, pb⟩
end Mine
namespace Mine
theorem idx_of (n : Nat) : (n : Int) - (if decide ((1 : Int) < (n : Int)) = true then 1 else 0) = idx n := by
  unfold idx
  by_cases h : 1 < n
  · rw [if_pos h, if_pos (decide_eq_true (by omega))]
  · rw [if_neg h, if_neg (by rw [decide_eq_true_iff]; omega)]
theorem fit_sign {n m : Nat} {k : Int} (h : (fb n < fb m ∧ k = -1) ∨ (fb n = fb m ∧ k = 0) ∨ (fb m < fb n ∧ k = 1)) :
    k = (if decide (idx m < idx n) = true then 1 else 0) - (if decide (idx n < idx m) = true then 1 else 0) := by
  have h1 := @fb_order n m
  have h2 := @fb_order m n
  have h3 := @fb_same n m
  have t : idx n < idx m ∨ idx n = idx m ∨ idx m < idx n := by omega
  rcases t with t | t | t
  · have := h1 t
    rw [if_neg (by rw [decide_eq_true_iff]; omega), if_pos (decide_eq_true t)]
    omega
  · have := h3 t
    rw [if_neg (by rw [decide_eq_true_iff]; omega), if_neg (by rw [decide_eq_true_iff]; omega)]
    omega
  · have := h2 t
    rw [if_pos (decide_eq_true t), if_neg (by rw [decide_eq_true_iff]; omega)]
    omega
theorem fit_end {n m : Nat} {ns : List Int} {B : Int} (hB : 1 < B) (hR : Rp B ns (fb n % fb m)) (hm : m < 41) (hn : n < 41) (h : 3 ≤ m) : decide (ns = []) = ((n : Int).fmod m == 0) := by
  have h1 := fb_div (n := n) (m := m) hm hn h
  have h2 := Rp.nil_iff hB hR
  rw [Int.fmod_eq_emod_of_nonneg _ (by omega)]
  by_cases e : n % m = 0
  · have : (n : Int) % m = 0 := by omega
    rw [decide_eq_true (h2.mpr (h1.mpr e)), this]; rfl
  · have : ¬ (n : Int) % m = 0 := by omega
    rw [decide_eq_false fun q => e (h1.mp (h2.mp q)), beq_eq_false_iff_ne.mpr this]
theorem fb_pos_of {m : Nat} (h : 3 ≤ m) : 0 < fb m := by
  have := fb_lt_of (n := 2) (m := m) (by omega) (by omega)
  have : fb 2 = 1 := rfl
  omega
end Mine
end

/-! PG -/
section
open PySem PySem.W PySem.Calls PyProof.Rows
set_option Elab.async false
set_option maxRecDepth 100000
namespace Mine
theorem IsPr.imp {W : Nat} {P P' : Addr → Prop} {h : Heap} {p : Addr} {n : Nat} (x : IsPr W P h p n) (hP : ∀ a, P a → P' a) : IsPr W P' h p n :=
  let ⟨a, b, va, vb, na, nb, h1, h2, h3, h4, h5, h6, h7, p1, p2, p3⟩ := x
  ⟨a, b, va, vb, na, nb, h1, h2, h3, h4, h5, h6, h7, hP _ p1, hP _ p2, hP _ p3⟩
theorem IsMo.imp {W : Nat} {P P' : Addr → Prop} {h : Heap} {p : Addr} {n : Nat} (x : IsMo W P h p n) (hP : ∀ a, P a → P' a) : IsMo W P' h p n :=
  let ⟨a, t, h1, h2, r⟩ := x
  ⟨a, t, h1, h2.imp hP, hP _ r⟩
/-- the objects say that a place with its pair stands at a -/
def MoK (W : Nat) (objs : List (Addr × Obj)) (a : Addr) (k : Nat) : Prop := ∀ h₀ L h, News h₀ L h objs → IsMo W (fun b => ∃ o, (b, o) ∈ objs) h a k
theorem MoK.mono {W : Nat} {objs objs' : List (Addr × Obj)} {a : Addr} {k : Nat} (x : MoK W objs a k) (hs : ∀ q ∈ objs, q ∈ objs') : MoK W objs' a k :=
  fun h₀ L h N => (x h₀ L h fun p hp => N p (hs p hp)).imp fun _ ⟨o, ho⟩ => ⟨o, hs _ ho⟩
theorem grow {W : Nat} {P : Addr → Prop} {h₀ h : Heap} {L m : Addr} {k : Nat} (x : IsMo W P h m k) (hP : ∀ a, P a → a ≠ L ∧ h₀.get? a = none) :
    ∃ more : List (Addr × Obj), News h₀ L h more ∧ (∀ q ∈ more, P q.1) ∧ MoK W more m k := by
  obtain ⟨p, t, ⟨om, hom, rm⟩, ⟨a, b, va, vb, na, nb, ⟨op, hop, rp⟩, ⟨oa, hoa, ra'⟩, ⟨ob, hob, rb'⟩, ia, ib, ra, rb, Pp, Pa, Pb⟩, Pm⟩ := x
  refine ⟨[(m, om), (p, op), (a, oa), (b, ob)], ?_, ?_, ?_⟩
  · intro q hq
    simp only [List.mem_cons, List.not_mem_nil, or_false] at hq
    rcases hq with rfl | rfl | rfl | rfl
    · exact ⟨hom, (hP _ Pm).1, (hP _ Pm).2⟩
    · exact ⟨hop, (hP _ Pp).1, (hP _ Pp).2⟩
    · exact ⟨hoa, (hP _ Pa).1, (hP _ Pa).2⟩
    · exact ⟨hob, (hP _ Pb).1, (hP _ Pb).2⟩
  · intro q hq
    simp only [List.mem_cons, List.not_mem_nil, or_false] at hq
    rcases hq with rfl | rfl | rfl | rfl <;> assumption
  · intro h₀' L' h' N
    have g1 := (N (m, om) (.head _)).1
    have g2 := (N (p, op) (.tail _ (.head _))).1
    have g3 := (N (a, oa) (.tail _ (.tail _ (.head _)))).1
    have g4 := (N (b, ob) (.tail _ (.tail _ (.tail _ (.head _))))).1
    exact ⟨p, t, ⟨om, g1, rm⟩, ⟨a, b, va, vb, na, nb, ⟨op, g2, rp⟩, ⟨oa, g3, ra'⟩, ⟨ob, g4, rb'⟩, ia, ib, ra, rb, ⟨op, .tail _ (.head _)⟩, ⟨oa, .tail _ (.tail _ (.head _))⟩, ⟨ob, .tail _ (.tail _ (.tail _ (.head _)))⟩⟩, ⟨om, .head _⟩⟩
theorem use_mo {M : Model} {A : Around} {E : Value → Shared → Prop} {s : Shared} {t : Sem Value} {W : Nat} {P : Addr → Prop} {h₀ : Heap} {L : Addr} {mm : Str → Option Value} {news : List (Addr × Obj)} {Q : Value → Shared → Prop}
    (hc : wpAny M A t (Post1 s (RetG W P)) E s) (F : Fr h₀ L s.heap mm) (N : News h₀ L s.heap news) (h : ∀ m k h' tk', k < 41 → Fr h₀ L h' mm → News h₀ L h' news → IsMo W P h' m k → Q (.ref m) { s with heap := h', toks := tk' }) : wpAny M A t Q E s := by
  refine wpAny_mono hc (fun v s' hv => ?_) fun _ _ x => x
  obtain ⟨h', tk', rfl, hk, m, k, rfl, hk41, hR⟩ := hv
  exact h m k h' tk' hk41 (fr_kp F hk) (news_kp N hk) hR

theorem neg_ {prog : Program} {w : World} {A : Around} {E : Value → Shared → Prop} {s : Shared} {value slice : PySem.Expr} {l : Addr} {vs : List Value} {k : Int} {u : Tok} {j : Nat} {v : Value} {Q : Value → Shared → Prop} (hl : s.heap.IsList l vs.toArray) (h0 : k < 0) (hlo : -(2 ^ 63) ≤ k) (hj : k + vs.length = j) (hx : vs[j]? = some v) (h : Q v s)
    (hs : subscripted slice false (.ref l) (.int k u) = operate [.ref l, .int k u] (getItem (.ref l) (.int k u)) := by with_unfolding_all rfl) :
    wpAny (model prog w) A (subscriptTail value slice (.ref l) (.int k u)) Q E s := by
  refine tail_any hl.typeIs slot_list_getitem.lookup (wpAny_getItem_list_neg hl h0 (by rw [List.size_toArray]; omega) hlo ?_ h) hs
  rw [List.size_toArray, List.getElem?_toArray, show (k + (vs.length : Int)).toNat = j by omega]
  exact hx

section
variable {prog : Program} {w : World} {A : Around} {E : Value → Shared → Prop} {s : Shared} {env : Env} {h₀ : Heap} {L : Addr} {x : Str} {body : List Stmt} {Q : Flow → Shared → Prop} {σ : Type}
/-- for x in range(a, b), with a ledger that grows -/
theorem rngG_ {r : Addr} {a₀ b₀ : Int} {t₀ u₀ v₀ : Tok} {m₀ : Str → Option Value} (Led : σ → List (Addr × Obj)) (ps : σ → List (Str × Value)) (P : Nat → σ → Prop) (c₀ : σ)
    (hL : env.locals = L) (hh : A.handled = none) (hr : IsRange s.heap r a₀ b₀ 1 t₀ u₀ v₀)
    (h1 : -(2 ^ 62) ≤ a₀) (h2 : a₀ < 2 ^ 62) (h3 : -(2 ^ 62) ≤ b₀) (h4 : b₀ < 2 ^ 62)
    (F : Fr h₀ L s.heap m₀) (N : News h₀ L s.heap (Led c₀)) (hk : ∀ p ∈ ps c₀, m₀ p.1 = some p.2) (hp : P 0 c₀)
    (turn : ∀ (i : Nat) t c u h tk own, (i : Int) < b₀ - a₀ → P i c → OwnOff own ((Led c).map (·.1)) → Fr h₀ L h (kstB u ((x, .int (a₀ + i) t) :: ps c)) → News h₀ L h (Led c ++ own) →
      wpAny (model prog w) A (execs body env) (TEF h₀ L Led ps (fun c' => P (i + 1) c' ∧ OwnOff own ((Led c').map (·.1))) own { s with heap := h, toks := tk } Q) E { s with heap := h, toks := tk })
    (done : ∀ c u h tk, P (b₀ - a₀).toNat c → Fr h₀ L h (kstB u (ps c)) → News h₀ L h (Led c) → Q .next { s with heap := h, toks := tk }) :
    wpAny (model prog w) A (pyIter (.ref r)) (fun it s₂ => LoopAtV prog w A h₀ env x body Q E it s₂) E s := by
  subst hL
  have hsz : Builtin.Range.rangeSize a₀ b₀ 1 = ((b₀ - a₀).toNat : Int) := by
    unfold Builtin.Range.rangeSize
    simp only [show ((1 : Int) > 0) by decide, if_true, Int.ediv_one]
    split <;> omega
  have hsmall : Builtin.Range.small a₀ b₀ 1 = true := by
    unfold Builtin.Range.small
    rw [hsz]
    simp only [Builtin.Range.rangeFitsLong, Bool.and_eq_true, Bool.or_eq_true, decide_eq_true_eq, beq_iff_eq, show ((1 : Int) > 0) by decide, if_true]
    omega
  refine wpAny_pyIter_range hr hsmall ?_
  have W := (Walks.range (prog := prog) (w := w) (A := A) hh s.heap.objs.size a₀ 1 (b₀ - a₀).toNat)
  refine ⟨_, _, _, _, _, _, m₀, Led c₀, fun i m nx => ∃ c, nx = Led c ∧ (∀ p ∈ ps c, m p.1 = some p.2) ∧ P i c, rfl, W, ?_, ?_, ?_, (by show IsRangeIter _ _ _ _ _; rw [hsz]; simpa using Heap.get?_push_size _ rfl), F.push _, fun p hp => ⟨Heap.get?_push_of_some _ (N p hp).1, (N p hp).2⟩, ⟨c₀, rfl, hk, hp⟩, ?_, ?_⟩
  · intro hm
    exact absurd F.ns.lt ((List.mem_singleton.mp hm) ▸ Nat.lt_irrefl _)
  · intro b hb
    rw [List.mem_singleton.mp hb]
    exact next_is_new F
  · intro p hp hI
    exact absurd (Heap.lt_size (N p hp).1) ((List.mem_singleton.mp hI) ▸ Nat.lt_irrefl _)
  · rintro i v m₁ news₁ s₁ own ⟨h', tk', rfl⟩ hin ⟨t, rfl⟩ ⟨c, rfl, hk', hp'⟩ hoff hown _ hall hst F₁ N₁
    have e1 : a₀ + (i : Int) * 1 = a₀ + (i : Int) := by omega
    rw [e1] at F₁
    have N₂ : News h₀ env.locals h' (Led c ++ own) := fun p hp => N₁ p ((List.mem_append.mp hp).elim (fun h => List.mem_append.mpr (.inr h)) fun h => List.mem_append.mpr (.inl h))
    have hsep : OwnOff own ((Led c).map (·.1)) := by
      intro p hp b hb e
      obtain ⟨q, hq, rfl⟩ := List.mem_map.mp hb
      exact hoff q hq (e ▸ hown p hp)
    have hI : ∃ o, (s.heap.objs.size, o) ∈ own := ⟨_, hall _ (List.mem_singleton.mpr rfl) (next_is_new F) _ hst⟩
    obtain ⟨oI, hoI⟩ := hI
    refine wpAny_mono (turn i t c m₁ h' tk' own (by omega) hp' hsep (Fr.norm1 F₁ hk') N₂) (fun f s₂ q => ?_) fun _ _ e => e
    have fin : TE h₀ env.locals Led ps (fun c' => P (i + 1) c' ∧ OwnOff own ((Led c').map (·.1))) own { s with heap := h', toks := tk' } s₂ → LoopStepU h₀ env.locals [s.heap.objs.size] own (fun m nx => ∃ c, nx = Led c ∧ (∀ p ∈ ps c, m p.1 = some p.2) ∧ P (i + 1) c) { s with heap := h', toks := tk' } .next s₂ := by
      rintro ⟨c', h'', tk'', m', e, F', N', hk'', hp'', hof⟩
      refine ⟨rfl, h'', tk'', m', Led c', e, F', fun p hp => N' p ((List.mem_append.mp hp).elim (fun h => List.mem_append.mpr (.inr h)) fun h => List.mem_append.mpr (.inl h)), ?_, c', rfl, hk'', hp''⟩
      intro p hp hI
      exact hof _ hoI p.1 (List.mem_map.mpr ⟨p, hp, rfl⟩) (List.mem_singleton.mp hI).symm
    cases f with
    | ret v => exact q
    | brk => exact q
    | next => exact fin q
    | cont => exact fin q
  · rintro h' tk' m' news' F' N' _ ⟨c, rfl, hk', hp'⟩
    exact done c m' h' tk' hp' (Fr.norm F' hk') N'

/-- for x in a list of the ledger, of any values; the ledger stands -/
theorem lstG_ {l : Addr} {vs : List Value} {n : Nat} {news : List (Addr × Obj)} {m₀ : Str → Option Value} (ps : List (Str × Value))
    (hL : env.locals = L) (hh : A.handled = none) (hm : (l, listOf vs.toArray n) ∈ news)
    (F : Fr h₀ L s.heap m₀) (N : News h₀ L s.heap news) (hk : ∀ p ∈ ps, m₀ p.1 = some p.2)
    (turn : ∀ (i : Nat) v u h tk own, vs[i]? = some v → Fr h₀ L h (kstB u ((x, v) :: ps)) → News h₀ L h (news ++ own) →
      wpAny (model prog w) A (execs body env) (TEF h₀ L (fun _ : Unit => news) (fun _ => ps) (fun _ => True) own { s with heap := h, toks := tk } Q) E { s with heap := h, toks := tk })
    (done : ∀ u h tk, Fr h₀ L h (kstB u ps) → News h₀ L h news → Q .next { s with heap := h, toks := tk }) :
    wpAny (model prog w) A (pyIter (.ref l)) (fun it s₂ => LoopAtV prog w A h₀ env x body Q E it s₂) E s := by
  subst hL
  have hls : s.heap.IsList l vs.toArray := News.isList N hm
  have hlt : l < s.heap.objs.size := Heap.lt_size (N _ hm).1
  have hne : l ≠ s.heap.objs.size := Nat.ne_of_lt hlt
  refine wpAny_pyIter_list hls ?_
  have W := Walks.list (prog := prog) (w := w) hh s.heap.objs.size l hne vs.toArray
  have hnI : ∀ p ∈ news, p.1 ∉ [s.heap.objs.size] := fun p hp hI => absurd (Heap.lt_size (N p hp).1) ((List.mem_singleton.mp hI) ▸ Nat.lt_irrefl _)
  refine ⟨_, _, _, _, _, _, m₀, news, fun _ m nx => nx = news ∧ (∀ p ∈ ps, m p.1 = some p.2), rfl, W, ?_, ?_, hnI, ⟨⟨_, Heap.get?_push_size _ rfl, rfl, rfl⟩, hls.at fun o e => Heap.get?_push_of_some _ e⟩, F.push _, fun p hp => ⟨Heap.get?_push_of_some _ (N p hp).1, (N p hp).2⟩, ⟨rfl, hk⟩, ?_, ?_⟩
  · intro hI
    rcases List.mem_cons.mp hI with e | hI
    · exact absurd F.ns.lt (e ▸ Nat.lt_irrefl _)
    · exact (N _ hm).2.1 (List.mem_singleton.mp hI).symm
  · intro b hb
    rw [List.mem_singleton.mp hb]
    exact next_is_new F
  · rintro i v m₁ news₁ s₁ own ⟨h', tk', rfl⟩ hin hv ⟨rfl, hk'⟩ hoff hown _ hall hst F₁ N₁
    have N₂ : News h₀ env.locals h' (news₁ ++ own) := fun p hp => N₁ p ((List.mem_append.mp hp).elim (fun h => List.mem_append.mpr (.inr h)) fun h => List.mem_append.mpr (.inl h))
    refine wpAny_mono (turn i v m₁ h' tk' own (by simpa using hv) (Fr.norm1 F₁ hk') N₂) (fun f s₂ q => ?_) fun _ _ e => e
    have fin : TE h₀ env.locals (fun _ : Unit => news₁) (fun _ => ps) (fun _ => True) own { s with heap := h', toks := tk' } s₂ → LoopStepU h₀ env.locals [s.heap.objs.size] own (fun m nx => nx = news₁ ∧ (∀ p ∈ ps, m p.1 = some p.2)) { s with heap := h', toks := tk' } .next s₂ := by
      rintro ⟨c', h'', tk'', m', e, F', N', hk'', -⟩
      exact ⟨rfl, h'', tk'', m', news₁, e, F', fun p hp => N' p ((List.mem_append.mp hp).elim (fun h => List.mem_append.mpr (.inr h)) fun h => List.mem_append.mpr (.inl h)), hnI, rfl, hk''⟩
    cases f with
    | ret v => exact q
    | brk => exact q
    | next => exact fin q
    | cont => exact fin q
  · rintro h' tk' m' news' F' N' _ ⟨rfl, hk'⟩
    exact done m' h' tk' (Fr.norm F' hk') N'
end
end Mine
namespace Mine
theorem use_llN {M : Model} {A : Around} {E : Value → Shared → Prop} {s : Shared} {t : Sem Value} {R : List Int → List Int → Prop} {h₀ : Heap} {L : Addr} {m : Str → Option Value} {news : List (Addr × Obj)} {Q : Value → Shared → Prop}
    (hc : wpAny M A t (Post1 s (RetLL s.heap R)) E s) (F : Fr h₀ L s.heap m) (N : News h₀ L s.heap news)
    (h : ∀ T a b wa wb n n' na nb h' tk', Fr h₀ L h' m → News h₀ L h' ((T, tupO #[.ref a, .ref b]) :: (a, listOf (List.toArray wa) n) :: (b, listOf (List.toArray wb) n') :: news) → IntsAre wa na → IntsAre wb nb → R na nb → AllNe T news → AllNe a news → AllNe b news → Q (.ref T) { s with heap := h', toks := tk' }) :
    wpAny M A t Q E s := by
  refine wpAny_mono hc (fun v s' hv => ?_) fun _ _ x => x
  obtain ⟨h', tk', rfl, hk, T, a, b, wa, wb, n, n', na, nb, rfl, h1, h2, h3, h4, h5, h6, h7, h8, h9⟩ := hv
  refine h T a b wa wb n n' na nb h' tk' (fr_kp F hk) ?_ h7 h8 h9 (news_ne N h1) (news_ne N h3) (news_ne N h5)
  have nT := news_kp1 F N hk h1 h2
  have na' := news_kp1 F N hk h3 h4
  have nb' := news_kp1 F N hk h5 h6
  intro p hp
  rcases List.mem_cons.mp hp with rfl | hp
  · exact nT _ (.head _)
  rcases List.mem_cons.mp hp with rfl | hp
  · exact na' _ (.head _)
  · exact nb' p hp
end Mine
end

section
open PySem PySem.W PySem.Calls PyProof.Rows
set_option Elab.async false
set_option maxRecDepth 100000
set_option maxHeartbeats 8000000
namespace Mine
local macro_rules | `(tactic| walk_at "exec While") => `(tactic| refine halted ?_)
local macro_rules | `(tactic| walk_at "exec While BoolOp") => `(tactic| refine halted ?_)
local macro_rules | `(tactic| walk_at "exec While Compare") => `(tactic| refine halted ?_)
local macro_rules | `(tactic| walk_at "exec For Name Call cons nil") => `(tactic| ((rename Fr _ _ _ _ => lF'); (with_unfolding_all refine' For_invVF lF' ?k1 ?k2 ?_; (case k1 => exact rfl); (case k2 => exact rfl); k_whole)))
local macro_rules | `(tactic| walk_at "exec For Name Name cons nil") => `(tactic| ((rename Fr _ _ _ _ => lF'); (with_unfolding_all refine' For_invVF lF' ?k1 ?k2 ?_; (case k1 => exact rfl); (case k2 => exact rfl); k_whole)))
local macro_rules | `(tactic| walk_at "m.all") => `(tactic| first | exact List.forall_mem_nil _ | (refine' List.forall_mem_cons.mpr ⟨?m1, ?m2⟩; (case m1 => exact rfl); (case m2 => walk_at "m.all")))
local macro_rules | `(tactic| walk_at "m.ins") => `(tactic| first | exact List.forall_mem_nil _ | exact (fun _ hp => hp) | exact (fun _ hp => .tail _ hp) | exact (fun _ hp => .tail _ (.tail _ hp)) | exact (fun _ hp => .tail _ (.tail _ (.tail _ hp))) | exact (fun _ hp => .tail _ (List.mem_append_left _ hp)) | (refine' List.forall_mem_cons.mpr ⟨?m1, ?m2⟩; (case m1 => k_mem); (case m2 => walk_at "m.ins")))
local macro_rules | `(tactic| walk_at "m.own") => `(tactic| first | exact List.forall_mem_nil _ | exact (fun _ hp => hp) | exact (fun _ hp => .tail _ hp) | exact (fun _ hp => .tail _ (List.mem_append_right _ hp)) | exact (fun _ hp => .tail _ (.tail _ hp)) | exact (fun _ hp => .tail _ (.tail _ (.tail _ hp))) | exact (fun _ hp => .tail _ (.tail _ (.tail _ (.tail _ hp)))))
local macro_rules | `(tactic| walk_at "m.enter") => `(tactic| ((case k1 => k_is); (case e1 => (conv => lhs; whnf)); (case e2 => (conv => lhs; whnf)); (case e3 => (conv => lhs; whnf)); (case k2 => k_is); (case k3 => exact rfl); (case k4 => exact locs rfl); (case k5 => exact rfl); (case k6 => exact rfl); (case k7 => exact rfl); (case k8 => decide); skip))
local macro_rules | `(tactic| walk_at "m.retl") => `(tactic| (refine' ret_list (by assumption) (by assumption) ?m (by assumption) ?R; (case m => k_mem)))
local macro_rules | `(tactic| walk_at "m.te") => `(tactic| ((case te1 => assumption); (case te2 => assumption); (case te3 => walk_at "m.ins"); (case te4 => walk_at "m.own"); (case te5 => walk_at "m.all")))
local macro_rules | `(tactic| walk_at "m.fill") => `(tactic| (have dummy : PySem.Challenge.rw_sj0077_01.foot = PySem.Challenge.rw_sj0077_01.foot ∧ @hd.heap_39 = @hd.heap_39 := (by k_fill; exact ⟨rfl, rfl⟩); clear dummy))
local macro_rules | `(tactic| kmk_nums) => `(tactic| first | ((with_reducible refine' kmk_all ?gi); (case gi => l_ints)) | ((with_reducible refine' kmk_from ?gi ?gx); (case gi => l_ints); (case gx => first | kssn_s | kmk_sign)) | ((with_reducible refine' kmk_upto ?gi ?gx); (case gi => l_ints); (case gx => first | kssn_s | kmk_sign)) | ((with_reducible refine' kmk_run ?gi ?gx ?gy); (case gi => l_ints); (case gx => first | kssn_s | kmk_sign); (case gy => first | kssn_s | kmk_sign)))
local macro_rules | `(tactic| walk_at "eval Name") => `(tactic| (k_dflt (refine' nameX_L ?F ?v ?_ ?a ?b; (case F => k_asm); (case a => rfl); (case b => rfl); (case v => rfl); k_whole)))
local macro_rules | `(tactic| walk_at "m.steps") => `(tactic| ((try k_fold); (repeat' (first | walk1 | (dsimp only; walk1) | k_unfold))))
local macro_rules | `(tactic| walk_at "m.nx") => `(tactic| ((case te1 => assumption); (case te2 => assumption); (case te3 => walk_at "m.ins"); (case te5 => walk_at "m.all")))
local macro_rules | `(tactic| walk_at "binaryOp Mult ref int") => `(tactic| ((with_reducible show wpAny _ _ (binaryOp Operator.Mult (Value.ref _) (Value.int _ _)) _ _ _); k_dflt (refine' mulz ?F ?N ?m ?lo ?hi ?_; (case F => k_asm); (case N => k_asm); (case m => k_mem); (case lo => first | assumption | omega); (case hi => first | assumption | omega)); intro D' ws' h' F' N' l1 i1; (try k_lt l1)))
local macro_rules | `(tactic| walk_at "m.cx") => `(tactic| exact Cx.deeper (Cx.less (by assumption) (by decide)) (by assumption))
local macro_rules | `(tactic| walk_at "m.len") => `(tactic| first | assumption | omega | (simp only [List.length_append, List.length_cons, List.length_nil, List.length_replicate, List.length_set] at *; omega))
local macro_rules | `(tactic| walk_at "subscriptTail Name Constant ref int") => `(tactic| first | ((with_reducible show wpAny _ _ (subscriptTail _ _ (Value.ref _) (Value.int 0 _)) _ _ _); k_dflt (refine' tup_0 ?nf ?nt ?_; (case nf => k_asm); (case nt => with_reducible assumption))) | ((with_reducible show wpAny _ _ (subscriptTail _ _ (Value.ref _) (Value.int 1 _)) _ _ _); k_dflt (refine' tup_1 ?nf ?nt ?_; (case nf => k_asm); (case nt => with_reducible assumption))) | ((with_reducible show wpAny _ _ (subscriptTail _ _ (Value.ref _) (Value.int 0 _)) _ _ _); k_dflt (refine' tupN_0 ?nt ?_; (case nt => exact News.isTup (by k_asm) (by k_mem)))) | ((with_reducible show wpAny _ _ (subscriptTail _ _ (Value.ref _) (Value.int 1 _)) _ _ _); k_dflt (refine' tupN_1 ?nt ?_; (case nt => exact News.isTup (by k_asm) (by k_mem)))))
local macro_rules | `(tactic| walk_at "subscriptTail Subscript Name Constant Constant ref int") => `(tactic| first | ((with_reducible show wpAny _ _ (subscriptTail _ _ (Value.ref _) (Value.int 0 _)) _ _ _); k_dflt (refine' tup_0 ?nf ?nt ?_; (case nf => k_asm); (case nt => with_reducible assumption))) | ((with_reducible show wpAny _ _ (subscriptTail _ _ (Value.ref _) (Value.int 1 _)) _ _ _); k_dflt (refine' tup_1 ?nf ?nt ?_; (case nf => k_asm); (case nt => with_reducible assumption))))
local macro_rules | `(tactic| k_all) => `(tactic| (refine List.forall_mem_append.mpr ⟨?_, ?_⟩ <;> k_all))

section
local macro_rules | `(tactic| walk_at "pyIter ref") => `(tactic| refine halted ?_)

/-! Fnormal -/
section
theorem normal_c {w : World} {A : Around} {s : Shared} {E : Value → Shared → Prop} {l : Addr} {vs : List Value} {ns : List Int}
    (C : Cx w A s.heap 1) (hl : s.heap.IsList l vs.toArray) (hi : IntsAre vs ns) (hn : ns.length < 1000) :
    wpAny (model PySem.Challenge.rw_sj0077_01.row.prog w) A (call (.ref 58) [.ref l]) (Post1 s (RetL s.heap (Nrm ns))) E s := by
  obtain ⟨hd0, dp, fr, gd, un⟩ := A
  obtain rfl : hd0 = none := C.calm
  have KX := C.kin
  walk_at "m.fill"
  obtain ⟨mean, mg, mb, T⟩ := C.top
  refine' enter (f := 58) (binds := [(Str.ofString "a", .ref l)]) C ?k1 ?k2 ?k3 ?k4 ?_ ?k5 ?k6 ?k7 ?k8 ?e1 ?e2 ?e3
  walk_at "m.enter"
  intro L h₁ F N
  try dsimp only
  walk_at "m.steps"
  refine Halt.mk ?_
  rename Fr _ _ _ _ => F
  rename News _ _ _ _ => N
  refine' whl_ (σ := Int × Tok) (fun _ => []) (fun c => [(Str.ofString "a", .ref l), (Str.ofString "end", .int c.1 c.2)]) (fun c => 0 ≤ c.1 ∧ c.1 ≤ ns.length ∧ ∀ x ∈ ns.drop c.1.toNat, x = 0) (fun c => c.1.toNat) (ns.length, _) F N ?k1 ?k2 ?turn
  case k1 => walk_at "m.all"
  case k2 => simp
  case turn =>
    intro p19 u h tk p29 F N
    try k_fold
    obtain ⟨k, t⟩ := p19
    obtain ⟨hk0, hk, hz⟩ := p29
    dsimp only [] at F N hk hz hk0
    walk_at "m.steps"
    · have h1 : 0 < k := by assumption
      have h2 : ns.getD (k - 1).toNat 0 = 0 := by assumption
      refine' TEF.next (TE.intro (k - 1, _) ?te1 ?te2 ?te3 ?te4 ?te5 ?te6)
      walk_at "m.te"
      case te6 =>
        refine ⟨⟨by show 0 ≤ k - 1; omega, by show k - 1 ≤ _; omega, ?_⟩, by show (k - 1).toNat < k.toNat; omega⟩
        show ∀ x ∈ ns.drop (k - 1).toNat, x = 0
        intro x hx
        have hlt : (k - 1).toNat < ns.length := by omega
        rw [List.drop_eq_getElem_cons hlt] at hx
        rcases List.mem_cons.mp hx with rfl | hx
        · rw [List.getD_eq_getElem?_getD, List.getElem?_eq_getElem hlt] at h2
          exact h2
        · exact hz x (by rw [show k.toNat = (k - 1).toNat + 1 by omega]; exact hx)
    · have h2 : ns.getD (k - 1).toNat 0 ≠ 0 := by assumption
      rename IntsAre _ (List.take _ _) => hI
      rename Fr _ _ _ _ => F
      rename News _ _ _ _ => N
      exact ret_list F N (by k_mem) hI ⟨k.toNat, by omega, rfl, hz, fun _ => by rw [show k.toNat - 1 = (k - 1).toNat by omega]; exact h2⟩
    · have h1 : ¬ 0 < k := by assumption
      rename IntsAre _ (List.take _ _) => hI
      rename Fr _ _ _ _ => F
      rename News _ _ _ _ => N
      exact ret_list F N (by k_mem) hI ⟨k.toNat, by omega, rfl, hz, fun h0 => absurd h0 (by omega)⟩
end

/-! Fadd -/
section
theorem add_c {w : World} {A : Around} {s : Shared} {E : Value → Shared → Prop} {la lb : Addr} {va vb : List Value} {na nb : List Int} {W : Nat} {tw : Tok}
    (C : Cx w A s.heap 1) (hla : s.heap.IsList la va.toArray) (hia : IntsAre va na) (hlb : s.heap.IsList lb vb.toArray) (hib : IntsAre vb nb) (hw : 0 < W ∧ W < 20) {x y : Int} (hx : Rp (2 ^ W) na x) (hy : Rp (2 ^ W) nb y) (hna : na.length < 1000) (hnb : nb.length < 1000) :
    wpAny (model PySem.Challenge.rw_sj0077_01.row.prog w) A (call (.ref 72) [.ref la, .ref lb, .int W tw]) (Post1 s (RetL s.heap (fun nr => Rp (2 ^ W) nr (x + y)))) E s := by
  obtain ⟨hd0, dp, fr, gd, un⟩ := A
  obtain rfl : hd0 = none := C.calm
  have KX := C.kin
  walk_at "m.fill"
  obtain ⟨mean, mg, mb, T⟩ := C.top
  refine' enter (f := 72) (binds := [(Str.ofString "a", .ref la), (Str.ofString "b", .ref lb), (Str.ofString "w", .int W tw)]) C ?k1 ?k2 ?k3 ?k4 ?_ ?k5 ?k6 ?k7 ?k8 ?e1 ?e2 ?e3
  walk_at "m.enter"
  intro L h₁ F N
  try dsimp only
  refine wpAny_execs_cons ?_
  -- the exchange
  refine seq_ (h₀ := s.heap) (L := L) (s := s) (σ := (Addr × List Value × List Int) × (Addr × List Value × List Int)) (fun _ => []) (fun c => [(Str.ofString "a", .ref c.1.1), (Str.ofString "b", .ref c.2.1), (Str.ofString "w", .int W tw)])
    (fun c => s.heap.IsList c.1.1 c.1.2.1.toArray ∧ IntsAre c.1.2.1 c.1.2.2 ∧ s.heap.IsList c.2.1 c.2.2.1.toArray ∧ IntsAre c.2.2.1 c.2.2.2 ∧ c.2.2.2.length ≤ c.1.2.2.length ∧ c.1.2.2.length < 1000 ∧ ((c.1.2.2 = na ∧ c.2.2.2 = nb) ∨ (c.1.2.2 = nb ∧ c.2.2.2 = na))) ?_ ?_
  · walk_at "m.steps"
    · refine' NX.intro ((lb, vb, nb), (la, va, na)) ?te1 ?te2 ?te3 ?te5 ?te6
      walk_at "m.nx"
      case te6 => exact ⟨hlb, hib, hla, hia, by show na.length ≤ nb.length; omega, hnb, .inr ⟨rfl, rfl⟩⟩
    · refine' NX.intro ((la, va, na), (lb, vb, nb)) ?te1 ?te2 ?te3 ?te5 ?te6
      walk_at "m.nx"
      case te6 => exact ⟨hla, hia, hlb, hib, by show nb.length ≤ na.length; omega, hna, .inl ⟨rfl, rfl⟩⟩
  clear F N h₁
  intro p19 u h tk p29 F N
  try k_fold
  obtain ⟨⟨la', va', na'⟩, lb', vb', nb'⟩ := p19
  obtain ⟨hla', hia', hlb', hib', hle, hlt, hor⟩ := p29
  dsimp only [] at F N hla' hia' hlb' hib' hle hlt hor ⊢
  refine wpAny_execs_cons ?_
  refine seq_ (h₀ := s.heap) (L := L) (s := s) (σ := Addr × Tok × Tok) (fun c => [(c.1, listOf #[] 0)]) (fun c => [(Str.ofString "found", .ref c.1), (Str.ofString "carry", .int 0 c.2.1), (Str.ofString "mask", .int (1 * 2 ^ (W : Int).toNat - 1) c.2.2), (Str.ofString "a", .ref la'), (Str.ofString "b", .ref lb'), (Str.ofString "w", .int W tw)])
    (fun c => True) ?_ ?_
  · walk_at "m.steps"
    refine' NX.intro (_, _, _) ?te1 ?te2 ?te3 ?te5 ?te6
    walk_at "m.nx"
    case te6 => trivial
  clear F N u h tk
  intro p39 u h tk _ F N
  try k_fold
  obtain ⟨lf, tc, tm⟩ := p39
  dsimp only [] at F N ⊢
  walk_at "m.steps"
  refine Halt.mk ?_
  rename IsRange _ _ _ _ _ _ _ _ => R
  rename Fr _ _ _ _ => F
  rename News _ _ _ _ => N
  have hB : (0 : Int) < 2 ^ W := Int.pow_pos (by decide)
  have hB1 : (1 : Int) < 2 ^ W := by have := pow_mono' (B := 2) (by decide) (show 1 ≤ W by omega); omega
  have hLa : Lim (2 ^ W) na' := by rcases hor with ⟨rfl, rfl⟩ | ⟨rfl, rfl⟩ <;> first | exact hx.1 | exact hy.1
  have hLb : Lim (2 ^ W) nb' := by rcases hor with ⟨rfl, rfl⟩ | ⟨rfl, rfl⟩ <;> first | exact hx.1 | exact hy.1
  have hCa : na'.getLast? ≠ some 0 := by rcases hor with ⟨rfl, rfl⟩ | ⟨rfl, rfl⟩ <;> first | exact hx.2.1 | exact hy.2.1
  have hsum : vl (2 ^ W) na' + vl (2 ^ W) nb' = x + y := by
    rcases hor with ⟨rfl, rfl⟩ | ⟨rfl, rfl⟩
    · rw [hx.2.2, hy.2.2]
    · rw [hx.2.2, hy.2.2]; omega
  refine' rng_ (L := L) (σ := Int × Tok × List Value × List Int × Nat) (fun c => [(lf, listOf c.2.2.1.toArray c.2.2.2.2)]) (fun c => [(Str.ofString "found", .ref lf), (Str.ofString "carry", .int c.1 c.2.1), (Str.ofString "mask", .int (1 * 2 ^ (W : Int).toNat - 1) tm), (Str.ofString "a", .ref la'), (Str.ofString "b", .ref lb'), (Str.ofString "w", .int W tw)])
    (fun i c => IntsAre c.2.2.1 c.2.2.2.1 ∧ c.2.2.2.1.length = i ∧ 0 ≤ c.1 ∧ c.1 ≤ 1 ∧ Lim (2 ^ W) c.2.2.2.1 ∧ vl (2 ^ W) c.2.2.2.1 + (2 ^ W) ^ i * c.1 = vl (2 ^ W) (na'.take i) + vl (2 ^ W) (nb'.take i)) (0, tc, [], [], 0) [lf] (fun _ => rfl) rfl rfl R (by omega) (by omega) (by omega) (by omega) F ?N ?k1 ?k2 ?turn ?done
  case k1 => walk_at "m.all"
  case N => exact N
  case k2 => exact ⟨.nil, rfl, Int.le_refl 0, by show (0 : Int) ≤ 1; decide, Lim.nil, by simp [vl]⟩
  case turn =>
    clear F N R
    intro i t p49 u h tk own hi p59 hoff F N
    try k_fold
    obtain ⟨c, tk2, vs, acc, n⟩ := p49
    obtain ⟨hI, hlen, hc0, hc1, hLm, hv⟩ := p59
    dsimp only [] at F N hI hlen hc0 hc1 hLm hv ⊢
    have ha := hLa.getD hB i
    have hb := hLb.getD hB i
    have e0 : ((0 : Int) + (i : Int)).toNat = i := by omega
    have ea := vl_take_succ (B := 2 ^ W) (ns := na') (k := i) (by omega)
    have eb := vl_take_succ (B := 2 ^ W) (ns := nb') (k := i) (by omega)
    walk_at "m.steps"
    rename Fr _ _ _ _ => F
    rename News _ _ _ _ => N
    simp only [List.push_toArray] at N
    simp only [e0, shr_] at F
    simp only [e0] at N
    rw [and_mask (by omega)] at N
    refine' TEF.next (TE.intro (_, _, _, acc ++ [(c + (na'.getD i 0 + nb'.getD i 0)) % 2 ^ W], _) ?te1 ?te2 ?te3 ?te4 ?te5 ?te6)
    walk_at "m.te"
    case te6 =>
      have hm := mod_lim (B := 2 ^ W) (t := c + (na'.getD i 0 + nb'.getD i 0)) hB
      have hq := carry_le (B := 2 ^ W) (t := c + (na'.getD i 0 + nb'.getD i 0)) (k := 1) hB (by omega) (by omega)
      refine ⟨IntsAre.append hI (.cons _ _ .nil), by simp; omega, hq.1, hq.2, hLm.snoc hm.1 hm.2, ?_⟩
      show vl (2 ^ W) (acc ++ [_]) + (2 ^ W) ^ (i + 1) * _ = _
      rw [carry_step hB hlen hv, ea, eb]
      grind
  case done =>
    clear F N R
    intro p69 u h tk p79 F N
    try k_fold
    obtain ⟨c, tk2, vs, acc, n⟩ := p69
    obtain ⟨hI, hlen, hc0, hc1, hLm, hv⟩ := p79
    dsimp only [] at F N hI hlen hc0 hc1 hLm hv ⊢
    have eb0 : nb'.take nb'.length = nb' := List.take_length
    have elb : ((nb'.length : Int) - 0).toNat = nb'.length := by omega
    simp only [elb, eb0] at hlen hv
    walk_at "m.steps"
    refine Halt.mk ?_
    rename IsRange _ _ _ _ _ _ _ _ => R
    rename Fr _ _ _ _ => F
    rename News _ _ _ _ => N
    refine' rng_ (L := L) (σ := Int × Tok × List Value × List Int × Nat) (fun c => [(lf, listOf c.2.2.1.toArray c.2.2.2.2)]) (fun c => [(Str.ofString "found", .ref lf), (Str.ofString "carry", .int c.1 c.2.1), (Str.ofString "mask", .int (1 * 2 ^ (W : Int).toNat - 1) tm), (Str.ofString "a", .ref la'), (Str.ofString "w", .int W tw)])
      (fun i c => IntsAre c.2.2.1 c.2.2.2.1 ∧ c.2.2.2.1.length = nb'.length + i ∧ 0 ≤ c.1 ∧ c.1 ≤ 1 ∧ Lim (2 ^ W) c.2.2.2.1 ∧ vl (2 ^ W) c.2.2.2.1 + (2 ^ W) ^ (nb'.length + i) * c.1 = vl (2 ^ W) (na'.take (nb'.length + i)) + vl (2 ^ W) nb') (c, tk2, vs, acc, n) [lf] (fun _ => rfl) rfl rfl R (by omega) (by omega) (by omega) (by omega) F ?N ?k1 ?k2 ?turn ?done
    case k1 => walk_at "m.all"
    case N => exact N
    case k2 => exact ⟨hI, hlen, hc0, hc1, hLm, hv⟩
    case turn =>
      clear F N R hv hI hLm hlen hc0 hc1
      intro i t p89 u h tk own hi p99 hoff F N
      try k_fold
      obtain ⟨c, tk2, vs, acc, n⟩ := p89
      obtain ⟨hI, hlen, hc0, hc1, hLm, hv⟩ := p99
      dsimp only [] at F N hI hlen hc0 hc1 hLm hv ⊢
      have ha := hLa.getD hB (nb'.length + i)
      have e0 : ((nb'.length : Int) + (i : Int)).toNat = nb'.length + i := by omega
      have ea := vl_take_succ (B := 2 ^ W) (ns := na') (k := nb'.length + i) (by omega)
      walk_at "m.steps"
      rename Fr _ _ _ _ => F
      rename News _ _ _ _ => N
      simp only [List.push_toArray] at N
      simp only [e0, shr_] at F
      simp only [e0] at N
      rw [and_mask (by omega)] at N
      refine' TEF.next (TE.intro (_, _, _, acc ++ [(c + na'.getD (nb'.length + i) 0) % 2 ^ W], _) ?te1 ?te2 ?te3 ?te4 ?te5 ?te6)
      walk_at "m.te"
      case te6 =>
        have hm := mod_lim (B := 2 ^ W) (t := c + na'.getD (nb'.length + i) 0) hB
        have hq := carry_le (B := 2 ^ W) (t := c + na'.getD (nb'.length + i) 0) (k := 1) hB (by omega) (by omega)
        refine ⟨IntsAre.append hI (.cons _ _ .nil), by simp; omega, hq.1, hq.2, hLm.snoc hm.1 hm.2, ?_⟩
        show vl (2 ^ W) (acc ++ [_]) + (2 ^ W) ^ (nb'.length + (i + 1)) * _ = _
        rw [show nb'.length + (i + 1) = (nb'.length + i) + 1 by omega, carry_step hB hlen hv, ea]
        grind
    case done =>
      clear F N R hv hI hLm hlen hc0 hc1
      intro p109 u h tk p119 F N
      try k_fold
      obtain ⟨c, tk2, vs, acc, n⟩ := p109
      obtain ⟨hI, hlen, hc0, hc1, hLm, hv⟩ := p119
      dsimp only [] at F N hI hlen hc0 hc1 hLm hv ⊢
      have ela : nb'.length + ((na'.length : Int) - nb'.length).toNat = na'.length := by omega
      rw [ela, List.take_length, hsum] at hv
      rw [ela] at hlen
      walk_at "m.steps"
      · rename_i hc _ _ _ _ _ _
        rename Fr _ _ _ _ => F
        rename News _ _ _ _ => N
        simp only [List.push_toArray] at N
        refine ret_list F N (nr := acc ++ [c]) (by k_mem) (IntsAre.append hI (.cons _ _ .nil)) ?_
        exact ⟨hLm.snoc hc0 (by omega), by simp; omega, by rw [vl_snoc, hlen]; exact hv⟩
      · rename_i hc _
        refine ret_list F N (by k_mem) hI ?_
        have hc9 : c = 0 := by omega
        subst hc9
        rw [Int.mul_zero, Int.add_zero] at hv
        refine Rp.of_ge hB hLm hv fun hne => ?_
        have hna9 : na' ≠ [] := fun e => hne (List.length_eq_zero_iff.mp (by rw [hlen, e]; rfl))
        have h1 := vl_ge hB hLa hCa hna9
        have h2 := vl_nonneg hB hLb
        rw [hlen]
        omega
end

/-! Fcompare -/
section
theorem compare_c {w : World} {A : Around} {s : Shared} {E : Value → Shared → Prop} {la lb : Addr} {va vb : List Value} {na nb : List Int} {B x y : Int}
    (C : Cx w A s.heap 1) (hla : s.heap.IsList la va.toArray) (hia : IntsAre va na) (hlb : s.heap.IsList lb vb.toArray) (hib : IntsAre vb nb) (hB : 1 < B) (hx : Rp B na x) (hy : Rp B nb y) (hna : na.length < 1000) (hnb : nb.length < 1000) :
    wpAny (model PySem.Challenge.rw_sj0077_01.row.prog w) A (call (.ref 65) [.ref la, .ref lb]) (Post1 s (RetI (fun k => (x < y ∧ k = -1) ∨ (x = y ∧ k = 0) ∨ (y < x ∧ k = 1)))) E s := by
  obtain ⟨hd0, dp, fr, gd, un⟩ := A
  obtain rfl : hd0 = none := C.calm
  have KX := C.kin
  walk_at "m.fill"
  obtain ⟨mean, mg, mb, T⟩ := C.top
  refine' enter (f := 65) (binds := [(Str.ofString "a", .ref la), (Str.ofString "b", .ref lb)]) C ?k1 ?k2 ?k3 ?k4 ?_ ?k5 ?k6 ?k7 ?k8 ?e1 ?e2 ?e3
  walk_at "m.enter"
  intro L h₁ F N
  try dsimp only
  have hB0 : 0 < B := by omega
  walk_at "m.steps"
  · -- of unlike lengths, the first the shorter
    have h1 : (na.length : Int) < nb.length := by assumption
    rename Fr _ _ _ _ => F
    refine ret_int F ?_
    exact .inl ⟨len_lt hB0 hx hy (by omega), rfl⟩
  · have h1 : ¬ (na.length : Int) < nb.length := by assumption
    have h2 : (na.length : Int) ≠ nb.length := by assumption
    rename Fr _ _ _ _ => F
    refine ret_int F ?_
    exact .inr (.inr ⟨len_lt hB0 hy hx (by omega), rfl⟩)
  · have h2 : (na.length : Int) = nb.length := by first | assumption | omega
    have hl2 : na.length = nb.length := by omega
    refine Halt.mk ?_
    rename IsRange _ _ _ _ _ _ _ _ => R
    rename Fr _ _ _ _ => F
    rename News _ _ _ _ => N
    refine' rngD_ (L := L) (σ := Unit) (fun _ => []) (fun _ => [(Str.ofString "a", .ref la), (Str.ofString "b", .ref lb)])
      (fun i _ => na.drop (na.length - i) = nb.drop (na.length - i)) () [] (fun _ => rfl) rfl rfl R (by omega) (by omega) (by omega) (by omega) F ?N ?k1 ?k2 ?turn ?done
    case k1 => walk_at "m.all"
    case N => exact N
    case k2 =>
      show na.drop (na.length - 0) = nb.drop (na.length - 0)
      rw [List.drop_of_length_le (by omega), List.drop_of_length_le (by omega)]
    case turn =>
      clear F N R
      rintro i t - u h tk own hi hP hoff F N
      dsimp only [] at F N hP ⊢
      have e0 : ((na.length : Int) - 1 - (i : Int)).toNat = na.length - (i + 1) := by omega
      have e1 : na.length - (i + 1) + 1 = na.length - i := by omega
      walk_at "m.steps"
      · have h3 : na.getD ((na.length : Int) - 1 - (i : Int)).toNat 0 < nb.getD ((na.length : Int) - 1 - (i : Int)).toNat 0 := by assumption
        rename Fr _ _ _ _ => F
        rw [e0] at h3
        have h4 := cmp_lt hB0 hx.1 hy.1 hl2 (by omega) (by rw [e1]; exact hP) h3
        rw [hx.2.2, hy.2.2] at h4
        exact TEF.ret (ret_int F (.inl ⟨h4, rfl⟩))
      · have h3 : ¬ na.getD ((na.length : Int) - 1 - (i : Int)).toNat 0 < nb.getD ((na.length : Int) - 1 - (i : Int)).toNat 0 := by assumption
        have h5 : na.getD ((na.length : Int) - 1 - (i : Int)).toNat 0 ≠ nb.getD ((na.length : Int) - 1 - (i : Int)).toNat 0 := by assumption
        rename Fr _ _ _ _ => F
        rw [e0] at h3 h5
        have h4 := cmp_lt hB0 hy.1 hx.1 hl2.symm (by omega) (by rw [e1]; exact hP.symm) (show nb.getD (na.length - (i + 1)) 0 < na.getD (na.length - (i + 1)) 0 by omega)
        rw [hx.2.2, hy.2.2] at h4
        exact TEF.ret (ret_int F (.inr (.inr ⟨h4, rfl⟩)))
      · have h5 : na.getD ((na.length : Int) - 1 - (i : Int)).toNat 0 = nb.getD ((na.length : Int) - 1 - (i : Int)).toNat 0 := by first | assumption | omega
        rw [e0] at h5
        refine' TEF.next (TE.intro () ?te1 ?te2 ?te3 ?te4 ?te5 ?te6)
        walk_at "m.te"
        case te6 =>
          show na.drop (na.length - (i + 1)) = nb.drop (na.length - (i + 1))
          rw [List.drop_eq_getElem_cons (show na.length - (i + 1) < na.length by omega), List.drop_eq_getElem_cons (show na.length - (i + 1) < nb.length by omega), ← getD_lt, ← getD_lt, h5, e1, hP]
    case done =>
      clear F N R
      rintro - u h tk hP F N
      dsimp only [] at F N hP ⊢
      walk_at "m.steps"
      rename Fr _ _ _ _ => F
      refine ret_int F ?_
      have e0 : na.length - ((na.length : Int) - 1 - -1).toNat = 0 := by omega
      rw [e0] at hP
      have e : x = y := by rw [← hx.2.2, ← hy.2.2, show na = nb from hP]
      exact .inr (.inl ⟨e, rfl⟩)
end

/-! Fsub -/
section
local macro_rules | `(tactic| walk_at "call ref") => `(tactic| ((with_reducible show wpAny _ _ (call (Value.ref 58) [_]) _ _ _); k_dflt (refine' use_list (normal_c ?C ?l ?i ?n) ?F ?N ?_; (case F => k_asm); (case N => k_asm); (case C => walk_at "m.cx"); (case l => is_list); (case i => l_ints); (case n => walk_at "m.len")); intro r9 ws9 n9 nr9 h9 tk9 F9 N9 i9 R9 ne9; (try dsimp only at R9); (try simp only [AllNe, and_true] at ne9); (try k_sweep)))
local macro_rules | `(tactic| walk_at "call ref") => `(tactic| ((with_reducible show wpAny _ _ (call (Value.ref 65) [_, _]) _ _ _); k_dflt (refine' use_int (compare_c ?C ?l ?i ?l2 ?i2 ?b ?x ?y ?n ?n2) ?F ?N ?_; (case F => k_asm); (case N => k_asm); (case C => walk_at "m.cx"); (case l => is_list); (case i => l_ints); (case l2 => is_list); (case i2 => l_ints); (case x => assumption); (case y => assumption); (case b => first | assumption | omega); (case n => walk_at "m.len"); (case n2 => walk_at "m.len")); intro k9 t9 h9 tk9 F9 N9 R9; (try dsimp only at R9); (try k_sweep)))


theorem sub_c {w : World} {A : Around} {s : Shared} {E : Value → Shared → Prop} {la lb : Addr} {va vb : List Value} {na nb : List Int} {W : Nat} {tw : Tok} {x y : Int}
    (C : Cx w A s.heap 2) (hla : s.heap.IsList la va.toArray) (hia : IntsAre va na) (hlb : s.heap.IsList lb vb.toArray) (hib : IntsAre vb nb) (hw : 0 < W ∧ W < 20) (hx : Rp (2 ^ W) na x) (hy : Rp (2 ^ W) nb y) (hyx : y ≤ x) (hna : na.length < 1000) (hnb : nb.length < 1000) :
    wpAny (model PySem.Challenge.rw_sj0077_01.row.prog w) A (call (.ref 79) [.ref la, .ref lb, .int W tw]) (Post1 s (RetL s.heap (fun nr => Rp (2 ^ W) nr (x - y)))) E s := by
  obtain ⟨hd0, dp, fr, gd, un⟩ := A
  obtain rfl : hd0 = none := C.calm
  have KX := C.kin
  walk_at "m.fill"
  obtain ⟨mean, mg, mb, T⟩ := C.top
  refine' enter (f := 79) (binds := [(Str.ofString "a", .ref la), (Str.ofString "b", .ref lb), (Str.ofString "w", .int W tw)]) C ?k1 ?k2 ?k3 ?k4 ?_ ?k5 ?k6 ?k7 ?k8 ?e1 ?e2 ?e3
  walk_at "m.enter"
  intro L h₁ F N
  try dsimp only
  have hB : (0 : Int) < 2 ^ W := Int.pow_pos (by decide)
  have hB1 : (1 : Int) < 2 ^ W := by have := pow_mono' (B := 2) (by decide) (show 1 ≤ W by omega); omega
  have hBb : (2 : Int) ^ W ≤ 2 ^ 19 := pow_mono' (by decide) (by omega)
  refine wpAny_execs_cons ?_
  refine seq_ (h₀ := s.heap) (L := L) (s := s) (σ := Unit) (fun _ => []) (fun c => [(Str.ofString "a", .ref la), (Str.ofString "b", .ref lb), (Str.ofString "w", .int W tw)]) (fun _ => True) ?_ ?_
  · walk_at "m.steps"
    rename Fr _ _ _ _ => F
    rename News _ _ _ _ => N
    refine' NX.intro () ?te11 ?te21 ?te31 ?te51 ?te61
    case te11 => exact F
    case te21 => exact N
    case te31 => walk_at "m.ins"
    case te51 => walk_at "m.all"
    case te61 =>
      trivial
  clear F N
  rintro - u h tk - F N
  dsimp only [] at F N ⊢
  refine wpAny_execs_cons ?_
  refine seq_ (h₀ := s.heap) (L := L) (s := s) (σ := Addr × Tok × Tok) (fun c => [(c.1, listOf #[] 0)]) (fun c => [(Str.ofString "found", .ref c.1), (Str.ofString "borrow", .int 0 c.2.1), (Str.ofString "base", .int (1 * 2 ^ (W : Int).toNat) c.2.2), (Str.ofString "a", .ref la), (Str.ofString "b", .ref lb)]) (fun _ => True) ?_ ?_
  · walk_at "m.steps"
    rename Fr _ _ _ _ => F
    rename News _ _ _ _ => N
    refine' NX.intro (_, _, _) ?te12 ?te22 ?te32 ?te52 ?te62
    case te12 => exact F
    case te22 => exact N
    case te32 => walk_at "m.ins"
    case te52 => walk_at "m.all"
    case te62 =>
      trivial
  clear F N
  intro p19 u h tk _ F N
  try k_fold
  obtain ⟨lf, tc, tm⟩ := p19
  dsimp only [] at F N ⊢
  have eB : (1 * 2 ^ (W : Int).toNat : Int) = 2 ^ W := by simp
  rw [eB] at F
  walk_at "m.steps"
  refine Halt.mk ?_
  rename IsRange _ _ _ _ _ _ _ _ => R
  rename Fr _ _ _ _ => F
  rename News _ _ _ _ => N
  refine' rng_ (L := L) (σ := Int × Tok × List Value × List Int × Nat) (fun c => [(lf, listOf c.2.2.1.toArray c.2.2.2.2)]) (fun c => [(Str.ofString "found", .ref lf), (Str.ofString "borrow", .int c.1 c.2.1), (Str.ofString "base", .int (2 ^ W) tm), (Str.ofString "a", .ref la), (Str.ofString "b", .ref lb)])
    (fun i c => IntsAre c.2.2.1 c.2.2.2.1 ∧ c.2.2.2.1.length = i ∧ 0 ≤ c.1 ∧ c.1 ≤ 1 ∧ Lim (2 ^ W) c.2.2.2.1 ∧ vl (2 ^ W) c.2.2.2.1 + vl (2 ^ W) (nb.take i) = vl (2 ^ W) (na.take i) + (2 ^ W) ^ i * c.1) (0, tc, [], [], 0) [lf] (fun _ => rfl) rfl rfl R (by omega) (by omega) (by omega) (by omega) F ?N ?k1 ?k2 ?turn ?done
  case k1 => walk_at "m.all"
  case N => exact N
  case k2 => exact ⟨.nil, rfl, Int.le_refl 0, by show (0 : Int) ≤ 1; decide, Lim.nil, by simp [vl]⟩
  case turn =>
    clear F N R
    intro i t p29 u h tk own hi p39 hoff F N
    try k_fold
    obtain ⟨c, tk2, vs, acc, n⟩ := p29
    obtain ⟨hI, hlen, hc0, hc1, hLm, hv⟩ := p39
    dsimp only [] at F N hI hlen hc0 hc1 hLm hv ⊢
    have ha := hx.1.getD hB i
    have hb := hy.1.getD hB i
    have e0 : ((0 : Int) + (i : Int)).toNat = i := by omega
    have ea := vl_take_succ' (B := 2 ^ W) (ns := na) i
    have eb := vl_take_succ' (B := 2 ^ W) (ns := nb) i
    have key : ∀ (b l : Int), nb.getD i 0 = b → ∀ (c' : Int), (0 ≤ c' ∧ c' ≤ 1) → l = na.getD i 0 - c - b + c' * 2 ^ W → vl (2 ^ W) (acc ++ [l]) + vl (2 ^ W) (nb.take (i + 1)) = vl (2 ^ W) (na.take (i + 1)) + (2 ^ W) ^ (i + 1) * c' := by
      intro b l hb c' _ hl
      rw [vl_snoc, ea, eb, hb, hl, hlen, Int.pow_succ]
      grind
    walk_at "m.steps"
    · rename Fr _ _ _ _ => F
      rename News _ _ _ _ => N
      simp only [List.push_toArray, e0] at N
      have hcmp : na.getD ((0 : Int) + (i : Int)).toNat 0 - c - nb.getD ((0 : Int) + (i : Int)).toNat 0 < 0 := by assumption
      rw [e0] at hcmp
      refine' TEF.next (TE.intro (_, _, _, acc ++ [na.getD i 0 - c - nb.getD i 0 + 2 ^ W], _) ?te13 ?te23 ?te33 ?te43 ?te53 ?te63)
      case te13 => exact F
      case te23 => exact N
      case te33 => walk_at "m.ins"
      case te43 => walk_at "m.own"
      case te53 => walk_at "m.all"
      case te63 =>
        exact ⟨IntsAre.append hI (.cons _ _ .nil), by simp; omega, by show (0 : Int) ≤ 1; decide, Int.le_refl 1, hLm.snoc (by omega) (by omega), key (nb.getD i 0) _ rfl 1 (by decide) (by omega)⟩
    · rename Fr _ _ _ _ => F
      rename News _ _ _ _ => N
      simp only [List.push_toArray, e0] at N
      have hcmp : ¬ na.getD ((0 : Int) + (i : Int)).toNat 0 - c - nb.getD ((0 : Int) + (i : Int)).toNat 0 < 0 := by assumption
      rw [e0] at hcmp
      refine' TEF.next (TE.intro (_, _, _, acc ++ [na.getD i 0 - c - nb.getD i 0], _) ?te14 ?te24 ?te34 ?te44 ?te54 ?te64)
      case te14 => exact F
      case te24 => exact N
      case te34 => walk_at "m.ins"
      case te44 => walk_at "m.own"
      case te54 => walk_at "m.all"
      case te64 =>
        exact ⟨IntsAre.append hI (.cons _ _ .nil), by simp; omega, Int.le_refl 0, by show (0 : Int) ≤ 1; decide, hLm.snoc (by omega) (by omega), key (nb.getD i 0) _ rfl 0 (by decide) (by omega)⟩
    · rename Fr _ _ _ _ => F
      rename News _ _ _ _ => N
      simp only [List.push_toArray, e0] at N
      have hcmp : na.getD ((0 : Int) + (i : Int)).toNat 0 - c - 0 < 0 := by assumption
      rw [e0] at hcmp
      have hnb0 : nb.getD i 0 = 0 := getD_ge (by omega)
      refine' TEF.next (TE.intro (_, _, _, acc ++ [na.getD i 0 - c - 0 + 2 ^ W], _) ?te15 ?te25 ?te35 ?te45 ?te55 ?te65)
      case te15 => exact F
      case te25 => exact N
      case te35 => walk_at "m.ins"
      case te45 => walk_at "m.own"
      case te55 => walk_at "m.all"
      case te65 =>
        exact ⟨IntsAre.append hI (.cons _ _ .nil), by simp; omega, by show (0 : Int) ≤ 1; decide, Int.le_refl 1, hLm.snoc (by omega) (by omega), key (0) _ hnb0 1 (by decide) (by omega)⟩
    · rename Fr _ _ _ _ => F
      rename News _ _ _ _ => N
      simp only [List.push_toArray, e0] at N
      have hcmp : ¬ na.getD ((0 : Int) + (i : Int)).toNat 0 - c - 0 < 0 := by assumption
      rw [e0] at hcmp
      have hnb0 : nb.getD i 0 = 0 := getD_ge (by omega)
      refine' TEF.next (TE.intro (_, _, _, acc ++ [na.getD i 0 - c - 0], _) ?te16 ?te26 ?te36 ?te46 ?te56 ?te66)
      case te16 => exact F
      case te26 => exact N
      case te36 => walk_at "m.ins"
      case te46 => walk_at "m.own"
      case te56 => walk_at "m.all"
      case te66 =>
        exact ⟨IntsAre.append hI (.cons _ _ .nil), by simp; omega, Int.le_refl 0, by show (0 : Int) ≤ 1; decide, hLm.snoc (by omega) (by omega), key (0) _ hnb0 0 (by decide) (by omega)⟩
  case done =>
    clear F N R
    intro p49 u h tk p59 F N
    try k_fold
    obtain ⟨c, tk2, vs, acc, n⟩ := p49
    obtain ⟨hI, hlen, hc0, hc1, hLm, hv⟩ := p59
    dsimp only [] at F N hI hlen hc0 hc1 hLm hv ⊢
    have ela : ((na.length : Int) - 0).toNat = na.length := by omega
    rw [ela] at hlen hv
    have hle : nb.length ≤ na.length := by
      apply Nat.le_of_not_lt
      intro hlt
      have := len_lt hB hx hy hlt
      omega
    rw [List.take_length, List.take_of_length_le hle, hx.2.2, hy.2.2] at hv
    have hc : c = 0 := by
      have h1 := vl_lt hB hLm
      rw [hlen] at h1
      rcases (show c = 0 ∨ c = 1 by omega) with e | e
      · exact e
      · subst e; omega
    subst hc
    have hv2 : vl (2 ^ W) acc = x - y := by omega
    walk_at "m.steps"
    rename Fr _ _ _ _ => F
    rename News _ _ _ _ => N
    rename Nrm _ _ => hR
    rename IntsAre _ _ => hI2
    exact ret_list F N (by k_mem) hI2 (hv2 ▸ hR.rp hLm)
end

/-! Fshl -/
section
theorem shift_left_c {w : World} {A : Around} {s : Shared} {E : Value → Shared → Prop} {la : Addr} {va : List Value} {na : List Int} {W : Nat} {tw tn : Tok} {x k : Int}
    (C : Cx w A s.heap 1) (hla : s.heap.IsList la va.toArray) (hia : IntsAre va na) (hw : 0 < W ∧ W < 20) (hk0 : 0 ≤ k) (hk : k < W) (hx : Rp (2 ^ W) na x) (hna : na.length < 1000) :
    wpAny (model PySem.Challenge.rw_sj0077_01.row.prog w) A (call (.ref 93) [.ref la, .int k tn, .int W tw]) (Post1 s (RetL s.heap (fun nr => Rp (2 ^ W) nr (x * 2 ^ k.toNat)))) E s := by
  obtain ⟨hd0, dp, fr, gd, un⟩ := A
  obtain rfl : hd0 = none := C.calm
  have KX := C.kin
  walk_at "m.fill"
  obtain ⟨mean, mg, mb, T⟩ := C.top
  refine' enter (f := 93) (binds := [(Str.ofString "a", .ref la), (Str.ofString "n", .int k tn), (Str.ofString "w", .int W tw)]) C ?k1 ?k2 ?k3 ?k4 ?_ ?k5 ?k6 ?k7 ?k8 ?e1 ?e2 ?e3
  walk_at "m.enter"
  intro L h₁ F N
  try dsimp only
  have hB : (0 : Int) < 2 ^ W := Int.pow_pos (by decide)
  have hB1 : (1 : Int) < 2 ^ W := by have := pow_mono' (B := 2) (by decide) (show 1 ≤ W by omega); omega
  have hK : (0 : Int) < 2 ^ k.toNat := Int.pow_pos (by decide)
  have hBb : (2 : Int) ^ W ≤ 2 ^ 19 := pow_mono' (by decide) (by omega)
  have hfd : k.fdiv W = 0 := by rw [Int.fdiv_eq_ediv_of_nonneg _ (by omega)]; exact Int.ediv_eq_zero_of_lt hk0 hk
  have hfm : k.fmod W = k := by rw [Int.fmod_eq_emod_of_nonneg _ (by omega)]; exact Int.emod_eq_of_lt hk0 hk
  refine wpAny_execs_cons ?_
  refine cut_ (fun f s' => (f = .next ∧ na ≠ [] ∧ ∃ tk', s' = { s with heap := h₁, toks := tk' }) ∨ ∃ v, f = .ret v ∧ Post1 s (RetL s.heap (fun nr => Rp (2 ^ W) nr (x * 2 ^ k.toNat))) v s') ?_ ?_
  · walk_at "m.steps"
    · have h0 : (na.length : Int) = 0 := by assumption
      rename Fr _ _ _ _ => F
      rename News _ _ _ _ => N
      refine .inr ⟨_, rfl, ret_list F N (ws := []) (by k_mem) .nil ?_⟩
      have e : na = [] := List.length_eq_zero_iff.mp (by omega)
      have e2 := (Rp.nil_iff hB1 hx).mp e
      rw [e2, Int.zero_mul]; exact Rp.zero
    · have h0 : ¬ (na.length : Int) = 0 := by first | assumption | omega
      exact .inl ⟨rfl, fun e => h0 (by rw [e]; rfl), _, rfl⟩
  rintro f s' (⟨rfl, hne, tk', rfl⟩ | ⟨v, rfl, hp⟩)
  case inr => exact hp
  dsimp only
  refine wpAny_execs_cons ?_
  refine seq_ (h₀ := s.heap) (L := L) (s := s) (σ := Tok × Tok) (fun c => []) (fun c => [(Str.ofString "spots", .int 0 c.1), (Str.ofString "few", .int k c.2), (Str.ofString "a", .ref la), (Str.ofString "w", .int W tw)]) (fun _ => True) ?_ ?_
  · walk_at "m.steps"
    rename Fr _ _ _ _ => F
    rename News _ _ _ _ => N
    simp only [hfd, hfm] at F
    refine' NX.intro (_, _) ?te1 ?te2 ?te3 ?te5 ?te6
    walk_at "m.nx"
    case te6 => trivial
  clear F N
  intro p19 u h tk _ F N
  try k_fold
  obtain ⟨t1, t2⟩ := p19
  dsimp only [] at F N ⊢
  refine wpAny_execs_cons ?_
  refine seq_ (h₀ := s.heap) (L := L) (s := s) (σ := Addr × Tok × Tok × Nat) (fun c => [(c.1, listOf #[] c.2.2.2)]) (fun c => [(Str.ofString "found", .ref c.1), (Str.ofString "carry", .int 0 c.2.1), (Str.ofString "mask", .int (1 * 2 ^ (W : Int).toNat - 1) c.2.2.1), (Str.ofString "few", .int k t2), (Str.ofString "a", .ref la), (Str.ofString "w", .int W tw)]) (fun _ => True) ?_ ?_
  · walk_at "m.steps"
    rename Fr _ _ _ _ => F
    rename News _ _ _ _ => N
    rename IntsAre _ _ => hI
    cases hI
    refine' NX.intro (_, _, _, _) ?te1 ?te2 ?te3 ?te5 ?te6
    walk_at "m.nx"
    case te6 => trivial
  clear F N
  intro p29 u h tk _ F N
  try k_fold
  obtain ⟨lf, tc, tm, n0⟩ := p29
  dsimp only [] at F N ⊢
  walk_at "m.steps"
  refine Halt.mk ?_
  rename Fr _ _ _ _ => F
  rename News _ _ _ _ => N
  refine' lst_ (L := L) (σ := Int × Tok × List Value × List Int × Nat) (fun c => [(lf, listOf c.2.2.1.toArray c.2.2.2.2)]) (fun c => [(Str.ofString "found", .ref lf), (Str.ofString "carry", .int c.1 c.2.1), (Str.ofString "mask", .int (1 * 2 ^ (W : Int).toNat - 1) tm), (Str.ofString "few", .int k t2), (Str.ofString "a", .ref la), (Str.ofString "w", .int W tw)])
    (fun i c => IntsAre c.2.2.1 c.2.2.2.1 ∧ c.2.2.2.1.length = i ∧ 0 ≤ c.1 ∧ c.1 < 2 ^ k.toNat ∧ Lim (2 ^ W) c.2.2.2.1 ∧ vl (2 ^ W) c.2.2.2.1 + (2 ^ W) ^ i * c.1 = vl (2 ^ W) (na.take i) * 2 ^ k.toNat) (0, tc, [], [], n0) [lf] (fun _ => rfl) rfl rfl hla hia F ?N ?k1 ?k2 ?turn ?done
  case k1 => walk_at "m.all"
  case N => exact N
  case k2 => exact ⟨.nil, rfl, Int.le_refl 0, hK, Lim.nil, by simp [vl]⟩
  case turn =>
    clear F N
    intro i y t p39 u h tk own hi p49 hoff F N
    try k_fold
    obtain ⟨c, tk2, vs, acc, n⟩ := p39
    obtain ⟨hI, hlen, hc0, hc1, hLm, hv⟩ := p49
    dsimp only [] at F N hI hlen hc0 hc1 hLm hv ⊢
    have hil : i < na.length := by
      apply Nat.lt_of_not_le
      intro hle
      rw [List.getElem?_eq_none hle] at hi
      cases hi
    have hy : na.getD i 0 = y := by rw [List.getD_eq_getElem?_getD, hi]; rfl
    have ha := hx.1.getD hB i
    rw [hy] at ha
    have ea := vl_take_succ' (B := 2 ^ W) (ns := na) i
    rw [hy] at ea
    have hor := or_add (a := y) hc0 hc1 ha.1
    have hyb : y < 524288 := by omega
    have hy0 : 0 ≤ y * 2 ^ k.toNat := Int.mul_nonneg ha.1 (Int.le_of_lt hK)
    have hlt : c + y * 2 ^ k.toNat < 2 ^ k.toNat * 2 ^ W := by
      have h1 : (y + 1) * 2 ^ k.toNat ≤ 2 ^ W * 2 ^ k.toNat := Int.mul_le_mul_of_nonneg_right (by omega) (Int.le_of_lt hK)
      have h2 : (y + 1) * 2 ^ k.toNat = y * 2 ^ k.toNat + 2 ^ k.toNat := by grind
      have h3 : (2 : Int) ^ W * 2 ^ k.toNat = 2 ^ k.toNat * 2 ^ W := Int.mul_comm _ _
      omega
    walk_at "m.steps"
    rename Fr _ _ _ _ => F
    rename News _ _ _ _ => N
    simp only [List.push_toArray] at N
    simp only [hor, shr_] at F
    rw [hor, and_mask (by omega)] at N
    refine' TEF.next (TE.intro (_, _, _, acc ++ [(c + y * 2 ^ k.toNat) % 2 ^ W], _) ?te1 ?te2 ?te3 ?te4 ?te5 ?te6)
    walk_at "m.te"
    case te6 =>
      have hm := mod_lim (B := 2 ^ W) (t := c + y * 2 ^ k.toNat) hB
      have hq := carry_le (B := 2 ^ W) (t := c + y * 2 ^ k.toNat) (k := 2 ^ k.toNat - 1) hB (by omega) (by rw [Int.sub_add_cancel]; exact hlt)
      refine ⟨IntsAre.append hI (.cons _ _ .nil), by simp; omega, hq.1, by show _ / _ < _; omega, hLm.snoc hm.1 hm.2, ?_⟩
      show vl (2 ^ W) (acc ++ [_]) + (2 ^ W) ^ (i + 1) * _ = _
      rw [carry_step hB hlen hv, ea]
      grind
  case done =>
    clear F N
    intro p59 u h tk p69 F N
    try k_fold
    obtain ⟨c, tk2, vs, acc, n⟩ := p59
    obtain ⟨hI, hlen, hc0, hc1, hLm, hv⟩ := p69
    dsimp only [] at F N hI hlen hc0 hc1 hLm hv ⊢
    rw [List.take_length, hx.2.2] at hv
    walk_at "m.steps"
    · have hc : 0 < c := by assumption
      rename Fr _ _ _ _ => F
      rename News _ _ _ _ => N
      simp only [List.push_toArray] at N
      refine ret_list F N (nr := acc ++ [c]) (by k_mem) (IntsAre.append hI (.cons _ _ .nil)) ?_
      have h9 := pow_mono' (B := 2) (by decide) (show k.toNat ≤ W by omega)
      exact ⟨hLm.snoc hc0 (by omega), by simp; omega, by rw [vl_snoc, hlen]; exact hv⟩
    · have hc : ¬ 0 < c := by assumption
      refine ret_list F N (by k_mem) hI ?_
      have hc9 : c = 0 := by omega
      subst hc9
      rw [Int.mul_zero, Int.add_zero] at hv
      refine Rp.of_ge hB hLm hv fun _ => ?_
      have h1 := hx.ge hB hne
      have h2 := hx.nonneg hB
      rw [hlen]
      have h3 : x * 1 ≤ x * 2 ^ k.toNat := Int.mul_le_mul_of_nonneg_left (by omega) h2
      omega
end

/-! Fbits -/
section
theorem bits_c {w : World} {A : Around} {s : Shared} {E : Value → Shared → Prop} {la : Addr} {va : List Value} {t : Int} {W : Nat} {tw : Tok}
    (C : Cx w A s.heap 1) (hla : s.heap.IsList la va.toArray) (hia : IntsAre va [t]) (hw : 0 < W ∧ W < 20) (h0 : 0 < t) (h1 : t < 2 ^ W) :
    wpAny (model PySem.Challenge.rw_sj0077_01.row.prog w) A (call (.ref 107) [.ref la, .int W tw]) (Post1 s (RetI (fun k => 0 < k ∧ k ≤ W ∧ t < 2 ^ k.toNat))) E s := by
  obtain ⟨hd0, dp, fr, gd, un⟩ := A
  obtain rfl : hd0 = none := C.calm
  have KX := C.kin
  walk_at "m.fill"
  obtain ⟨mean, mg, mb, T⟩ := C.top
  refine' enter (f := 107) (binds := [(Str.ofString "a", .ref la), (Str.ofString "w", .int W tw)]) C ?k1 ?k2 ?k3 ?k4 ?_ ?k5 ?k6 ?k7 ?k8 ?e1 ?e2 ?e3
  walk_at "m.enter"
  intro L h₁ F N
  try dsimp only
  obtain ⟨tt, va', rfl, hn⟩ := hia.cons_inv
  obtain rfl := hn.nil_inv
  walk_at "m.steps"
  rename Fr _ _ _ _ => F
  refine ret_int F ?_
  have e : (((1 : Nat) : Int) - 1) * (W : Int) + ((Builtin.Int.intBits t : Nat) : Int) = ((Builtin.Int.intBits t : Nat) : Int) := by simp
  rw [e]
  have a1 : Builtin.Int.intBits t ≤ W := intBits_le_iff.mpr (by
    rw [two_pow_cast] at h1
    omega)
  have a2 := intBits_le_iff.mp (Nat.le_refl (Builtin.Int.intBits t))
  have a3 : ¬ Builtin.Int.intBits t ≤ 0 := fun hle => by
    have := intBits_le_iff.mp hle
    simp at this
    omega
  refine ⟨by omega, by omega, ?_⟩
  rw [Int.toNat_natCast, two_pow_cast]
  omega
end

/-! Fmul -/
section
local macro_rules | `(tactic| walk_at "call ref") => `(tactic| ((with_reducible show wpAny _ _ (call (Value.ref 58) [_]) _ _ _); k_dflt (refine' use_list (normal_c ?C ?l ?i ?n) ?F ?N ?_; (case F => k_asm); (case N => k_asm); (case C => walk_at "m.cx"); (case l => is_list); (case i => l_ints); (case n => walk_at "m.len")); intro r9 ws9 n9 nr9 h9 tk9 F9 N9 i9 R9 ne9; (try dsimp only at R9); (try simp only [AllNe, and_true] at ne9); (try k_sweep)))


theorem mul_c {w : World} {A : Around} {s : Shared} {E : Value → Shared → Prop} {la lb : Addr} {va vb : List Value} {na nb : List Int} {W : Nat} {tw : Tok} {x y : Int}
    (C : Cx w A s.heap 2) (hla : s.heap.IsList la va.toArray) (hia : IntsAre va na) (hlb : s.heap.IsList lb vb.toArray) (hib : IntsAre vb nb) (hw : 0 < W ∧ W < 20) (hx : Rp (2 ^ W) na x) (hy : Rp (2 ^ W) nb y) (hna : na.length < 400) (hnb : nb.length < 400) :
    wpAny (model PySem.Challenge.rw_sj0077_01.row.prog w) A (call (.ref 135) [.ref la, .ref lb, .int W tw]) (Post1 s (RetL s.heap (fun nr => Rp (2 ^ W) nr (x * y)))) E s := by
  obtain ⟨hd0, dp, fr, gd, un⟩ := A
  obtain rfl : hd0 = none := C.calm
  have KX := C.kin
  walk_at "m.fill"
  obtain ⟨mean, mg, mb, T⟩ := C.top
  refine' enter (f := 135) (binds := [(Str.ofString "a", .ref la), (Str.ofString "b", .ref lb), (Str.ofString "w", .int W tw)]) C ?k1 ?k2 ?k3 ?k4 ?_ ?k5 ?k6 ?k7 ?k8 ?e1 ?e2 ?e3
  walk_at "m.enter"
  intro L h₁ F N
  try dsimp only
  have hB : (0 : Int) < 2 ^ W := Int.pow_pos (by decide)
  have hB1 : (1 : Int) < 2 ^ W := by have := pow_mono' (B := 2) (by decide) (show 1 ≤ W by omega); omega
  have hBb : (2 : Int) ^ W ≤ 2 ^ 19 := pow_mono' (by decide) (by omega)
  refine wpAny_execs_cons ?_
  refine seq_ (h₀ := s.heap) (L := L) (s := s) (σ := Addr × Tok × List Value) (fun c => [(c.1, listOf c.2.2.toArray 0)]) (fun c => [(Str.ofString "found", .ref c.1), (Str.ofString "mask", .int (1 * 2 ^ (W : Int).toNat - 1) c.2.1), (Str.ofString "a", .ref la), (Str.ofString "b", .ref lb), (Str.ofString "w", .int W tw)]) (fun c => IntsAre c.2.2 (List.replicate ((na.length : Int) + nb.length).toNat 0)) ?_ ?_
  · walk_at "m.steps"
    rename Fr _ _ _ _ => F
    rename News _ _ _ _ => N
    refine' NX.intro (_, _, _) ?te11 ?te21 ?te31 ?te51 ?te61
    case te11 => exact F
    case te21 => exact N
    case te31 => walk_at "m.ins"
    case te51 => walk_at "m.all"
    case te61 =>
      assumption
  clear F N
  intro p19 u h tk hI0 F N
  try k_fold
  obtain ⟨lf, tm, vs0⟩ := p19
  dsimp only [] at F N ⊢
  dsimp only [] at hI0
  have e0 : ((na.length : Int) + nb.length).toNat = na.length + nb.length := by omega
  rw [e0] at hI0
  walk_at "m.steps"
  refine Halt.mk ?_
  rename PairSrcL _ _ _ _ _ _ _ _ _ _ _ _ => S
  refine' enum_ (L := L) (σ := List Value × List Int × Nat) (fun c => [(lf, listOf c.1.toArray c.2.2)]) (fun c => [(Str.ofString "found", .ref lf), (Str.ofString "mask", .int (1 * 2 ^ (W : Int).toNat - 1) tm), (Str.ofString "b", .ref lb), (Str.ofString "w", .int W tw)])
    (fun i c => IntsAre c.1 c.2.1 ∧ c.2.1.length = na.length + nb.length ∧ Lim (2 ^ W) c.2.1 ∧ vl (2 ^ W) c.2.1 = vl (2 ^ W) (na.take i) * y ∧ ∀ z ∈ c.2.1.drop (i + nb.length), z = 0) (vs0, List.replicate (na.length + nb.length) 0, 0) [lf] (fun _ => rfl) rfl S rfl ?k1 ?k2 ?turn ?done
  case k1 => walk_at "m.all"
  case k2 => exact ⟨hI0, List.length_replicate, lim_replicate hB _, by simp [vl, vl_replicate], fun z hz => List.eq_of_mem_replicate (List.mem_of_mem_drop hz)⟩
  case turn =>
    rename Fr _ _ _ _ => F
    rename News _ _ _ _ => N
    clear F N S hI0
    intro i l ti t p29 u h tk own hi p39 hoff F N
    try k_fold
    obtain ⟨vs, fs, n⟩ := p29
    obtain ⟨hI, hlen, hLm, hv, hz⟩ := p39
    dsimp only [] at F N hI hlen hLm hv hz ⊢
    have hil : i < na.length := by
      apply Nat.lt_of_not_le
      intro hle
      rw [List.getElem?_eq_none hle] at hi
      cases hi
    have hy1 : na.getD i 0 = l := by rw [List.getD_eq_getElem?_getD, hi]; rfl
    have hl := hx.1.getD hB i
    rw [hy1] at hl
    have ea := vl_take_succ' (B := 2 ^ W) (ns := na) i
    rw [hy1] at ea
    have hlb9 : l < 524288 := by omega
    refine wpAny_execs_cons ?_
    refine seq_ (h₀ := s.heap) (L := L) (s := s) (σ := Tok) (fun c => (lf, listOf vs.toArray n) :: own) (fun c => [(Str.ofString "carry", .int 0 c), (Str.ofString "at", .int i ti), (Str.ofString "limb", .int l t), (Str.ofString "found", .ref lf), (Str.ofString "mask", .int (1 * 2 ^ (W : Int).toNat - 1) tm), (Str.ofString "b", .ref lb), (Str.ofString "w", .int W tw)]) (fun _ => True) ?_ ?_
    · walk_at "m.steps"
      rename Fr _ _ _ _ => F
      rename News _ _ _ _ => N
      refine' NX.intro _ ?tf1 ?tf2 ?tf3 ?tf5 ?tf6
      case tf1 => exact F
      case tf2 => exact N
      case tf3 => exact fun _ hp => hp
      case tf5 => walk_at "m.all"
      case tf6 => trivial
    clear F N
    rintro tc u h tk - F N
    dsimp only [] at F N ⊢
    walk_at "m.steps"
    refine Halt.mk ?_
    rename PairSrcL _ _ _ _ _ _ _ _ _ _ _ _ => S
    refine' enum_ (L := L) (σ := Int × Tok × List Value × List Int) (fun c => (lf, listOf c.2.2.1.toArray n) :: own) (fun c => [(Str.ofString "carry", .int c.1 c.2.1), (Str.ofString "at", .int i ti), (Str.ofString "limb", .int l t), (Str.ofString "found", .ref lf), (Str.ofString "mask", .int (1 * 2 ^ (W : Int).toNat - 1) tm), (Str.ofString "b", .ref lb), (Str.ofString "w", .int W tw)])
      (fun j c => IntsAre c.2.2.1 c.2.2.2 ∧ c.2.2.2.length = na.length + nb.length ∧ 0 ≤ c.1 ∧ c.1 ≤ 2 ^ W - 1 ∧ Lim (2 ^ W) c.2.2.2 ∧ vl (2 ^ W) c.2.2.2 + (2 ^ W) ^ (i + j) * c.1 = vl (2 ^ W) fs + l * (2 ^ W) ^ i * vl (2 ^ W) (nb.take j) ∧ c.2.2.2.drop (i + j) = fs.drop (i + j)) (0, tc, vs, fs) (lf :: own.map (·.1)) (fun _ => rfl) rfl S rfl ?k12 ?k22 ?turn2 ?done2
    case k12 => walk_at "m.all"
    case k22 => exact ⟨hI, hlen, Int.le_refl 0, by show (0 : Int) ≤ _; omega, hLm, by simp [vl], rfl⟩
    case turn2 =>
      rename Fr _ _ _ _ => F
      rename News _ _ _ _ => N
      clear F N S
      intro j o tj t2 p49 u h tk own2 hj p59 hoff2 F N
      try k_fold
      obtain ⟨c, tk2, vs2, fs2⟩ := p49
      obtain ⟨hI2, hlen2, hc0, hc1, hLm2, hv2, hd2⟩ := p59
      dsimp only [] at F N hI2 hlen2 hc0 hc1 hLm2 hv2 hd2 ⊢
      have hjl : j < nb.length := by
        apply Nat.lt_of_not_le
        intro hle
        rw [List.getElem?_eq_none hle] at hj
        cases hj
      have hy2 : nb.getD j 0 = o := by rw [List.getD_eq_getElem?_getD, hj]; rfl
      have ho := hy.1.getD hB j
      rw [hy2] at ho
      have eb := vl_take_succ' (B := 2 ^ W) (ns := nb) j
      rw [hy2] at eb
      have hob : o < 524288 := by omega
      have hf := hLm2.getD hB (i + j)
      have e1 : ((i : Int) + (j : Int)).toNat = i + j := by omega
      obtain ⟨hlo, hbd⟩ := mul_bound (c := c) (f := fs2.getD (i + j) 0) hB1 hc1 (by omega) hl.1 (by omega) ho.1 (by omega)
      walk_at "m.steps"
      rename Fr _ _ _ _ => F
      rename News _ _ _ _ => N
      rename IntsAre (List.set _ _ _) _ => hI3
      rw [e1, and_mask (by omega)] at hI3
      simp only [e1, shr_] at F
      rw [e1, and_mask (by omega)] at N
      refine' TEF.next (TE.intro (_, _, _, fs2.set (i + j) ((c + (fs2.getD (i + j) 0 + l * o)) % 2 ^ W)) ?te12 ?te22 ?te32 ?te42 ?te52 ?te62)
      case te12 => exact F
      case te22 => exact N
      case te32 => walk_at "m.ins"
      case te42 => walk_at "m.own"
      case te52 => walk_at "m.all"
      case te62 =>
        have hm := mod_lim (B := 2 ^ W) (t := c + (fs2.getD (i + j) 0 + l * o)) hB
        have hq := carry_le (B := 2 ^ W) (t := c + (fs2.getD (i + j) 0 + l * o)) (k := 2 ^ W - 1) hB (by omega) hbd
        refine ⟨hI3, by simpa using hlen2, hq.1, hq.2, hLm2.set hm.1 hm.2, ?_, ?_⟩
        · show vl (2 ^ W) (fs2.set (i + j) _) + (2 ^ W) ^ (i + (j + 1)) * _ = _
          rw [show i + (j + 1) = (i + j) + 1 by omega, set_step (a := l * o) (by omega) rfl, hv2, eb, Int.pow_add]
          grind
        · show (fs2.set (i + j) _).drop (i + (j + 1)) = fs.drop (i + (j + 1))
          rw [drop_set_lt (by omega), show i + (j + 1) = (i + j) + 1 by omega, ← List.drop_drop, hd2, List.drop_drop]
    case done2 =>
      rename Fr _ _ _ _ => F
      rename News _ _ _ _ => N
      clear F N S
      intro p69 u h tk p79 F N
      try k_fold
      obtain ⟨c, tk2, vs2, fs2⟩ := p69
      obtain ⟨hI2, hlen2, hc0, hc1, hLm2, hv2, hd2⟩ := p79
      dsimp only [] at F N hI2 hlen2 hc0 hc1 hLm2 hv2 hd2 ⊢
      have e1 : ((i : Int) + (nb.length : Int)).toNat = i + nb.length := by omega
      rw [List.take_length, hy.2.2] at hv2
      walk_at "m.steps"
      rename Fr _ _ _ _ => F
      rename News _ _ _ _ => N
      rename IntsAre (List.set _ _ _) _ => hI3
      rw [e1] at hI3 N
      refine' TEF.next (TE.intro (_, fs2.set (i + nb.length) c, _) ?te13 ?te23 ?te33 ?te43 ?te53 ?te63)
      case te13 => exact F
      case te23 => exact N
      case te33 => walk_at "m.ins"
      case te43 => walk_at "m.own"
      case te53 => walk_at "m.all"
      case te63 =>
        have hz2 : fs2.getD (i + nb.length) 0 = 0 := by
          have h1 : (fs2.drop (i + nb.length)).getD 0 0 = (fs.drop (i + nb.length)).getD 0 0 := by rw [hd2]
          rw [getD_drop, getD_drop, Nat.add_zero] at h1
          rw [h1]
          exact getD_zero_of hz (Nat.le_refl _)
        refine ⟨hI3, by simpa using hlen2, hLm2.set hc0 (by omega), ?_, ?_⟩
        · show vl (2 ^ W) (fs2.set (i + nb.length) c) = _
          rw [vl_set (by omega), hz2, ea, Int.sub_zero, hv2, hv]
          grind
        · show ∀ z ∈ (fs2.set (i + nb.length) c).drop (i + 1 + nb.length), z = 0
          rw [drop_set_lt (by omega), show i + 1 + nb.length = (i + nb.length) + 1 by omega, ← List.drop_drop, hd2, List.drop_drop]
          exact drop_zero_mono hz (by omega)
  case done =>
    rename Fr _ _ _ _ => F
    rename News _ _ _ _ => N
    clear F N S hI0
    intro p89 u h tk p99 F N
    try k_fold
    obtain ⟨vs, fs, n⟩ := p89
    obtain ⟨hI, hlen, hLm, hv, hz⟩ := p99
    dsimp only [] at F N hI hlen hLm hv hz ⊢
    rw [List.take_length, hx.2.2] at hv
    walk_at "m.steps"
    rename Fr _ _ _ _ => F
    rename News _ _ _ _ => N
    rename Nrm _ _ => hR
    rename IntsAre _ _ => hI2
    exact ret_list F N (by k_mem) hI2 (hv ▸ hR.rp hLm)
end

/-! Fshr -/
section
local macro_rules | `(tactic| walk_at "call ref") => `(tactic| ((with_reducible show wpAny _ _ (call (Value.ref 58) [_]) _ _ _); k_dflt (refine' use_list (normal_c ?C ?l ?i ?n) ?F ?N ?_; (case F => k_asm); (case N => k_asm); (case C => walk_at "m.cx"); (case l => is_list); (case i => l_ints); (case n => walk_at "m.len")); intro r9 ws9 n9 nr9 h9 tk9 F9 N9 i9 R9 ne9; (try dsimp only at R9); (try simp only [AllNe, and_true] at ne9); (try k_sweep)))


theorem shr_step {W k : Nat} (hk : k ≤ W) {a b X V : Int} {i : Nat} {acc : List Int} (ha : 0 ≤ a) (_hb : 0 ≤ b) (hlen : acc.length = i) (h : vl (2 ^ W) acc * 2 ^ k + X = V + (2 ^ W) ^ i * (a % 2 ^ k)) (ha2 : a < 2 ^ W) :
    vl (2 ^ W) (acc ++ [(a / 2 ^ k + b * 2 ^ (W - k)) % 2 ^ W]) * 2 ^ k + X = (V + (2 ^ W) ^ i * a) + (2 ^ W) ^ (i + 1) * (b % 2 ^ k) := by
  have hK : (0 : Int) < 2 ^ k := Int.pow_pos (by decide)
  have hD : (0 : Int) < 2 ^ (W - k) := Int.pow_pos (by decide)
  have e : (2 : Int) ^ W = 2 ^ (W - k) * 2 ^ k := by rw [← Int.pow_add, Nat.sub_add_cancel hk]
  have hq : a / 2 ^ k < 2 ^ (W - k) := Int.ediv_lt_of_lt_mul hK (by rw [← e]; exact ha2)
  have hq0 : 0 ≤ a / 2 ^ k := Int.ediv_nonneg ha (Int.le_of_lt hK)
  have e2 : (a / 2 ^ k + b * 2 ^ (W - k)) % 2 ^ W = a / 2 ^ k + (b % 2 ^ k) * 2 ^ (W - k) := by
    have e3 : b = 2 ^ k * (b / 2 ^ k) + b % 2 ^ k := (Int.mul_ediv_add_emod b (2 ^ k)).symm
    have r0 := Int.emod_nonneg b (show (2 : Int) ^ k ≠ 0 by omega)
    have r1 := Int.emod_lt_of_pos b hK
    have e4 : a / 2 ^ k + b * 2 ^ (W - k) = (a / 2 ^ k + (b % 2 ^ k) * 2 ^ (W - k)) + 2 ^ W * (b / 2 ^ k) := by
      rw [e]
      generalize b / 2 ^ k = q at *
      generalize b % 2 ^ k = r at *
      subst e3
      grind
    rw [e4, Int.add_mul_emod_self_left]
    have h5 : (b % 2 ^ k + 1) * 2 ^ (W - k) ≤ 2 ^ k * 2 ^ (W - k) := Int.mul_le_mul_of_nonneg_right (by omega) (Int.le_of_lt hD)
    have h6 : (b % 2 ^ k + 1) * 2 ^ (W - k) = (b % 2 ^ k) * 2 ^ (W - k) + 2 ^ (W - k) := by grind
    have h7 : (2 : Int) ^ k * 2 ^ (W - k) = 2 ^ W := by rw [e]; exact Int.mul_comm _ _
    have h8 : 0 ≤ (b % 2 ^ k) * 2 ^ (W - k) := Int.mul_nonneg r0 (Int.le_of_lt hD)
    exact Int.emod_eq_of_lt (by omega) (by omega)
  rw [vl_snoc, e2, hlen, Int.pow_succ]
  have e9 := Int.mul_ediv_add_emod a (2 ^ k)
  generalize a / 2 ^ k = q at *
  generalize a % 2 ^ k = r at *
  generalize b % 2 ^ k = r2 at *
  subst e9
  rw [e]
  rw [e] at h
  generalize vl (2 ^ (W - k) * 2 ^ k) acc = v at *
  generalize ((2 : Int) ^ (W - k) * 2 ^ k) ^ i = Bi at *
  grind

theorem shift_right_c {w : World} {A : Around} {s : Shared} {E : Value → Shared → Prop} {la : Addr} {va : List Value} {na : List Int} {W : Nat} {tw tn : Tok} {x k : Int}
    (C : Cx w A s.heap 2) (hla : s.heap.IsList la va.toArray) (hia : IntsAre va na) (hw : 0 < W ∧ W < 20) (hk0 : 0 ≤ k) (hk : k < W) (hx : Rp (2 ^ W) na x) (hna : na.length < 1000) :
    wpAny (model PySem.Challenge.rw_sj0077_01.row.prog w) A (call (.ref 100) [.ref la, .int k tn, .int W tw]) (Post1 s (RetL s.heap (fun nr => Rp (2 ^ W) nr (x / 2 ^ k.toNat)))) E s := by
  obtain ⟨hd0, dp, fr, gd, un⟩ := A
  obtain rfl : hd0 = none := C.calm
  have KX := C.kin
  walk_at "m.fill"
  obtain ⟨mean, mg, mb, T⟩ := C.top
  refine' enter (f := 100) (binds := [(Str.ofString "a", .ref la), (Str.ofString "n", .int k tn), (Str.ofString "w", .int W tw)]) C ?k1 ?k2 ?k3 ?k4 ?_ ?k5 ?k6 ?k7 ?k8 ?e1 ?e2 ?e3
  walk_at "m.enter"
  intro L h₁ F N
  try dsimp only
  have hB : (0 : Int) < 2 ^ W := Int.pow_pos (by decide)
  have hB1 : (1 : Int) < 2 ^ W := by have := pow_mono' (B := 2) (by decide) (show 1 ≤ W by omega); omega
  have hBb : (2 : Int) ^ W ≤ 2 ^ 19 := pow_mono' (by decide) (by omega)
  have hK : (0 : Int) < 2 ^ k.toNat := Int.pow_pos (by decide)
  have hfd : k.fdiv W = 0 := by rw [Int.fdiv_eq_ediv_of_nonneg _ (by omega)]; exact Int.ediv_eq_zero_of_lt hk0 hk
  have hfm : k.fmod W = k := by rw [Int.fmod_eq_emod_of_nonneg _ (by omega)]; exact Int.emod_eq_of_lt hk0 hk
  refine wpAny_execs_cons ?_
  refine seq_ (h₀ := s.heap) (L := L) (s := s) (σ := Tok × Tok) (fun c => []) (fun c => [(Str.ofString "spots", .int 0 c.1), (Str.ofString "few", .int k c.2), (Str.ofString "a", .ref la), (Str.ofString "w", .int W tw)]) (fun _ => True) ?_ ?_
  · walk_at "m.steps"
    rename Fr _ _ _ _ => F
    rename News _ _ _ _ => N
    simp only [hfd, hfm] at F
    refine' NX.intro (_, _) ?te11 ?te21 ?te31 ?te51 ?te61
    case te11 => exact F
    case te21 => exact N
    case te31 => walk_at "m.ins"
    case te51 => walk_at "m.all"
    case te61 =>
      trivial
  clear F N
  intro p19 u h tk _ F N
  try k_fold
  obtain ⟨t1, t2⟩ := p19
  dsimp only [] at F N ⊢
  refine wpAny_execs_cons ?_
  refine seq_ (h₀ := s.heap) (L := L) (s := s) (σ := Addr × Tok) (fun c => [(c.1, listOf #[] 0)]) (fun c => [(Str.ofString "found", .ref c.1), (Str.ofString "mask", .int (1 * 2 ^ (W : Int).toNat - 1) c.2), (Str.ofString "spots", .int 0 t1), (Str.ofString "few", .int k t2), (Str.ofString "a", .ref la), (Str.ofString "w", .int W tw)]) (fun _ => True) ?_ ?_
  · walk_at "m.steps"
    rename Fr _ _ _ _ => F
    rename News _ _ _ _ => N
    refine' NX.intro (_, _) ?te12 ?te22 ?te32 ?te52 ?te62
    case te12 => exact F
    case te22 => exact N
    case te32 => walk_at "m.ins"
    case te52 => walk_at "m.all"
    case te62 =>
      trivial
  clear F N
  intro p29 u h tk _ F N
  try k_fold
  obtain ⟨lf, tm⟩ := p29
  dsimp only [] at F N ⊢
  walk_at "m.steps"
  refine Halt.mk ?_
  rename IsRange _ _ _ _ _ _ _ _ => R
  rename Fr _ _ _ _ => F
  rename News _ _ _ _ => N
  refine' rng_ (L := L) (σ := List Value × List Int × Nat) (fun c => [(lf, listOf c.1.toArray c.2.2)]) (fun c => [(Str.ofString "found", .ref lf), (Str.ofString "mask", .int (1 * 2 ^ (W : Int).toNat - 1) tm), (Str.ofString "few", .int k t2), (Str.ofString "a", .ref la), (Str.ofString "w", .int W tw)])
    (fun i c => IntsAre c.1 c.2.1 ∧ c.2.1.length = i ∧ Lim (2 ^ W) c.2.1 ∧ vl (2 ^ W) c.2.1 * 2 ^ k.toNat + na.getD 0 0 % 2 ^ k.toNat = vl (2 ^ W) (na.take i) + (2 ^ W) ^ i * (na.getD i 0 % 2 ^ k.toNat)) ([], [], 0) [lf] (fun _ => rfl) rfl rfl R (by omega) (by omega) (by omega) (by omega) F ?N ?k1 ?k2 ?turn ?done
  case k1 => walk_at "m.all"
  case N => exact N
  case k2 => exact ⟨.nil, rfl, Lim.nil, by simp [vl]⟩
  case turn =>
    clear F N R
    intro i t p39 u h tk own hi p49 hoff F N
    try k_fold
    obtain ⟨vs, acc, n⟩ := p39
    obtain ⟨hI, hlen, hLm, hv⟩ := p49
    dsimp only [] at F N hI hlen hLm hv ⊢
    have ha := hx.1.getD hB i
    have hn := hx.1.getD hB (i + 1)
    have e0 : ((0 : Int) + (i : Int)).toNat = i := by omega
    have e1 : ((0 : Int) + (i : Int) + 1).toNat = i + 1 := by omega
    have hkW : ((W : Int) - k).toNat = W - k.toNat := by omega
    have ea := vl_take_succ' (B := 2 ^ W) (ns := na) i
    have hst := shr_step (W := W) (k := k.toNat) (by omega) ha.1 hn.1 hlen hv ha.2
    rw [← hkW, ← ea] at hst
    have hq0 : 0 ≤ na.getD i 0 / 2 ^ k.toNat := Int.ediv_nonneg ha.1 (Int.le_of_lt hK)
    have hq1 : na.getD i 0 / 2 ^ k.toNat < 2 ^ ((W : Int) - k).toNat := by
      rw [hkW]
      refine Int.ediv_lt_of_lt_mul hK ?_
      rw [← Int.pow_add, Nat.sub_add_cancel (by omega)]
      exact ha.2
    have hD : (0 : Int) < 2 ^ ((W : Int) - k).toNat := Int.pow_pos (by decide)
    have hrm : 0 ≤ na.getD (i + 1) 0 * 2 ^ ((W : Int) - k).toNat := Int.mul_nonneg hn.1 (Int.le_of_lt hD)
    have hmx := mod_lim (B := 2 ^ W) (t := na.getD i 0 / 2 ^ k.toNat + na.getD (i + 1) 0 * 2 ^ ((W : Int) - k).toNat) hB
    have hnb9 : na.getD ((0 : Int) + (i : Int) + 1).toNat 0 < 524288 := by rw [e1]; omega
    have hnb8 : 0 ≤ na.getD ((0 : Int) + (i : Int) + 1).toNat 0 := by rw [e1]; omega
    walk_at "m.steps"
    · rename Fr _ _ _ _ => F
      rename News _ _ _ _ => N
      simp only [List.push_toArray, e0, e1, shrk_ hk0] at N
      rw [or_add hq0 hq1 hn.1, and_mask (by omega)] at N
      refine' TEF.next (TE.intro (_, acc ++ [(na.getD i 0 / 2 ^ k.toNat + na.getD (i + 1) 0 * 2 ^ ((W : Int) - k).toNat) % 2 ^ W], _) ?te13 ?te23 ?te33 ?te43 ?te53 ?te63)
      case te13 => exact F
      case te23 => exact N
      case te33 => walk_at "m.ins"
      case te43 => walk_at "m.own"
      case te53 => walk_at "m.all"
      case te63 =>
        exact ⟨IntsAre.append hI (.cons _ _ .nil), by simp; omega, hLm.snoc hmx.1 hmx.2, hst⟩
    · rename Fr _ _ _ _ => F
      rename News _ _ _ _ => N
      simp only [List.push_toArray, e0, e1, shrk_ hk0] at N
      have hnb0 : na.getD (i + 1) 0 = 0 := getD_ge (by omega)
      rw [hnb0] at hmx hrm hst hn
      rw [or_add hq0 hq1 (by decide), and_mask (by omega)] at N
      refine' TEF.next (TE.intro (_, acc ++ [(na.getD i 0 / 2 ^ k.toNat + 0 * 2 ^ ((W : Int) - k).toNat) % 2 ^ W], _) ?te14 ?te24 ?te34 ?te44 ?te54 ?te64)
      case te14 => exact F
      case te24 => exact N
      case te34 => walk_at "m.ins"
      case te44 => walk_at "m.own"
      case te54 => walk_at "m.all"
      case te64 =>
        exact ⟨IntsAre.append hI (.cons _ _ .nil), by simp; omega, hLm.snoc hmx.1 hmx.2, by show _ = _ + _ * (na.getD (i + 1) 0 % _); rw [hnb0]; exact hst⟩
  case done =>
    clear F N R
    intro p59 u h tk p69 F N
    try k_fold
    obtain ⟨vs, acc, n⟩ := p59
    obtain ⟨hI, hlen, hLm, hv⟩ := p69
    dsimp only [] at F N hI hlen hLm hv ⊢
    have ela : ((na.length : Int) - 0).toNat = na.length := by omega
    rw [ela, List.take_length, hx.2.2, getD_ge (Nat.le_refl _), Int.zero_emod, Int.mul_zero, Int.add_zero] at hv
    have hv2 : vl (2 ^ W) acc = x / 2 ^ k.toNat := by
      have r0 := Int.emod_nonneg (na.getD 0 0) (show (2 : Int) ^ k.toNat ≠ 0 by omega)
      have r1 := Int.emod_lt_of_pos (na.getD 0 0) hK
      rw [← hv, Int.add_comm, Int.add_mul_ediv_right _ _ (by omega), Int.ediv_eq_zero_of_lt r0 r1, Int.zero_add]
    walk_at "m.steps"
    rename Fr _ _ _ _ => F
    rename News _ _ _ _ => N
    rename Nrm _ _ => hR
    rename IntsAre _ _ => hI2
    exact ret_list F N (by k_mem) hI2 (hv2 ▸ hR.rp hLm)
end

/-! Fdivlimb -/
section
local macro_rules | `(tactic| walk_at "call ref") => `(tactic| ((with_reducible show wpAny _ _ (call (Value.ref 58) [_]) _ _ _); k_dflt (refine' use_list (normal_c ?C ?l ?i ?n) ?F ?N ?_; (case F => k_asm); (case N => k_asm); (case C => walk_at "m.cx"); (case l => is_list); (case i => l_ints); (case n => walk_at "m.len")); intro r9 ws9 n9 nr9 h9 tk9 F9 N9 i9 R9 ne9; (try dsimp only at R9); (try simp only [AllNe, and_true] at ne9); (try k_sweep)))


theorem divrem_limb_c {w : World} {A : Around} {s : Shared} {E : Value → Shared → Prop} {la : Addr} {va : List Value} {na : List Int} {W : Nat} {tw tl : Tok} {x l : Int}
    (C : Cx w A s.heap 2) (hla : s.heap.IsList la va.toArray) (hia : IntsAre va na) (hw : 0 < W ∧ W < 20) (hl0 : 0 < l) (hl : l < 2 ^ W) (hx : Rp (2 ^ W) na x) (hna : na.length < 1000) :
    wpAny (model PySem.Challenge.rw_sj0077_01.row.prog w) A (call (.ref 86) [.ref la, .int l tl, .int W tw]) (Post1 s (RetLI s.heap (fun nr k => Rp (2 ^ W) nr (x / l) ∧ k = x % l))) E s := by
  obtain ⟨hd0, dp, fr, gd, un⟩ := A
  obtain rfl : hd0 = none := C.calm
  have KX := C.kin
  walk_at "m.fill"
  obtain ⟨mean, mg, mb, T⟩ := C.top
  refine' enter (f := 86) (binds := [(Str.ofString "a", .ref la), (Str.ofString "limb", .int l tl), (Str.ofString "w", .int W tw)]) C ?k1 ?k2 ?k3 ?k4 ?_ ?k5 ?k6 ?k7 ?k8 ?e1 ?e2 ?e3
  walk_at "m.enter"
  intro L h₁ F N
  try dsimp only
  have hB : (0 : Int) < 2 ^ W := Int.pow_pos (by decide)
  have hB1 : (1 : Int) < 2 ^ W := by have := pow_mono' (B := 2) (by decide) (show 1 ≤ W by omega); omega
  have hBb : (2 : Int) ^ W ≤ 2 ^ 19 := pow_mono' (by decide) (by omega)
  refine wpAny_execs_cons ?_
  refine seq_ (h₀ := s.heap) (L := L) (s := s) (σ := Unit) (fun _ => []) (fun c => [(Str.ofString "a", .ref la), (Str.ofString "limb", .int l tl), (Str.ofString "w", .int W tw)]) (fun _ => True) ?_ ?_
  · walk_at "m.steps"
    rename Fr _ _ _ _ => F
    rename News _ _ _ _ => N
    refine' NX.intro () ?te11 ?te21 ?te31 ?te51 ?te61
    case te11 => exact F
    case te21 => exact N
    case te31 => walk_at "m.ins"
    case te51 => walk_at "m.all"
    case te61 =>
      trivial
  clear F N
  rintro - u h tk - F N
  dsimp only [] at F N ⊢
  refine wpAny_execs_cons ?_
  refine seq_ (h₀ := s.heap) (L := L) (s := s) (σ := Addr × Tok × List Value) (fun c => [(c.1, listOf c.2.2.toArray 0)]) (fun c => [(Str.ofString "found", .ref c.1), (Str.ofString "rest", .int 0 c.2.1), (Str.ofString "a", .ref la), (Str.ofString "limb", .int l tl), (Str.ofString "w", .int W tw)]) (fun c => IntsAre c.2.2 (List.replicate ((na.length : Int)).toNat 0)) ?_ ?_
  · walk_at "m.steps"
    rename Fr _ _ _ _ => F
    rename News _ _ _ _ => N
    refine' NX.intro (_, _, _) ?te12 ?te22 ?te32 ?te52 ?te62
    case te12 => exact F
    case te22 => exact N
    case te32 => walk_at "m.ins"
    case te52 => walk_at "m.all"
    case te62 =>
      assumption
  clear F N
  intro p19 u h tk hI0 F N
  try k_fold
  obtain ⟨lf, tr, vs0⟩ := p19
  dsimp only [] at F N ⊢
  dsimp only [] at hI0
  rw [Int.toNat_natCast] at hI0
  walk_at "m.steps"
  refine Halt.mk ?_
  rename IsRange _ _ _ _ _ _ _ _ => R
  rename Fr _ _ _ _ => F
  rename News _ _ _ _ => N
  refine' rngD_ (L := L) (σ := Int × Tok × List Value × List Int) (fun c => [(lf, listOf c.2.2.1.toArray 0)]) (fun c => [(Str.ofString "found", .ref lf), (Str.ofString "rest", .int c.1 c.2.1), (Str.ofString "a", .ref la), (Str.ofString "limb", .int l tl), (Str.ofString "w", .int W tw)])
    (fun i c => IntsAre c.2.2.1 c.2.2.2 ∧ c.2.2.2.length = na.length ∧ 0 ≤ c.1 ∧ c.1 < l ∧ Lim (2 ^ W) c.2.2.2 ∧ vl (2 ^ W) (c.2.2.2.drop (na.length - i)) * l + c.1 = vl (2 ^ W) (na.drop (na.length - i)) ) (0, tr, vs0, List.replicate na.length 0) [lf] (fun _ => rfl) rfl rfl R (by omega) (by omega) (by omega) (by omega) F ?N ?k1 ?k2 ?turn ?done
  case k1 => walk_at "m.all"
  case N => exact N
  case k2 => exact ⟨hI0, List.length_replicate, Int.le_refl 0, hl0, lim_replicate hB _, by
      show vl (2 ^ W) ((List.replicate na.length 0).drop (na.length - 0)) * l + 0 = vl (2 ^ W) (na.drop (na.length - 0))
      rw [List.drop_of_length_le (by simp), List.drop_of_length_le (by simp)]; simp [vl]⟩
  case turn =>
    clear F N R
    intro i t p29 u h tk own hi p39 hoff F N
    try k_fold
    obtain ⟨r, tk2, vs, fs⟩ := p29
    obtain ⟨hI, hlen, hr0, hr1, hLm, hv⟩ := p39
    dsimp only [] at F N hI hlen hr0 hr1 hLm hv ⊢
    have e0 : ((na.length : Int) - 1 - (i : Int)).toNat = na.length - (i + 1) := by omega
    have e1 : na.length - (i + 1) + 1 = na.length - i := by omega
    have ha := hx.1.getD hB (na.length - (i + 1))
    have hor := or_add' (c := na.getD (na.length - (i + 1)) 0) (a := r) (k := W) ha.1 ha.2 hr0
    have hrb : r < 524288 := by omega
    have hor2 : Builtin.bitOr (r * 2 ^ (W : Int).toNat) (na.getD ((na.length : Int) - 1 - (i : Int)).toNat 0) = na.getD (na.length - (i + 1)) 0 + r * 2 ^ W := by rw [e0, Int.toNat_natCast]; exact hor
    have hR0 : 0 ≤ r * 2 ^ W := Int.mul_nonneg hr0 (Int.le_of_lt hB)
    walk_at "m.steps"
    rename Fr _ _ _ _ => F
    rename News _ _ _ _ => N
    rename IntsAre (List.set _ _ _) _ => hI3
    simp only [hor2, Int.fdiv_eq_ediv_of_nonneg _ (Int.le_of_lt hl0), Int.fmod_eq_emod_of_nonneg _ (Int.le_of_lt hl0)] at F N hI3
    rw [e0] at N hI3
    refine' TEF.next (TE.intro (_, _, _, fs.set (na.length - (i + 1)) ((na.getD (na.length - (i + 1)) 0 + r * 2 ^ W) / l)) ?te13 ?te23 ?te33 ?te43 ?te53 ?te63)
    case te13 => exact F
    case te23 => exact N
    case te33 => walk_at "m.ins"
    case te43 => walk_at "m.own"
    case te53 => walk_at "m.all"
    case te63 =>
      have hm := Int.mul_ediv_add_emod (na.getD (na.length - (i + 1)) 0 + r * 2 ^ W) l
      have hq0 : 0 ≤ (na.getD (na.length - (i + 1)) 0 + r * 2 ^ W) / l := Int.ediv_nonneg (by omega) (by omega)
      have hq1 : (na.getD (na.length - (i + 1)) 0 + r * 2 ^ W) / l < 2 ^ W := by
        refine Int.ediv_lt_of_lt_mul hl0 ?_
        have h1 : (r + 1) * 2 ^ W ≤ l * 2 ^ W := Int.mul_le_mul_of_nonneg_right (by omega) (Int.le_of_lt hB)
        have h2 : (r + 1) * 2 ^ W = r * 2 ^ W + 2 ^ W := by grind
        have h3 : 2 ^ W * l = l * 2 ^ W := Int.mul_comm _ _
        omega
      have hm0 := Int.emod_nonneg (na.getD (na.length - (i + 1)) 0 + r * 2 ^ W) (show l ≠ 0 by omega)
      have hm1 := Int.emod_lt_of_pos (na.getD (na.length - (i + 1)) 0 + r * 2 ^ W) hl0
      refine ⟨hI3, by simpa using hlen, hm0, hm1, hLm.set hq0 hq1, ?_⟩
      show vl (2 ^ W) ((fs.set (na.length - (i + 1)) _).drop (na.length - (i + 1))) * l + _ = vl (2 ^ W) (na.drop (na.length - (i + 1)))
      rw [vl_drop_succ (ns := na) (na.length - (i + 1)), vl_drop_succ (na.length - (i + 1)), getD_set_self (by omega), drop_set_lt (by omega), e1, ← hv]
      generalize (na.getD (na.length - (i + 1)) 0 + r * 2 ^ W) / l = q at *
      generalize (na.getD (na.length - (i + 1)) 0 + r * 2 ^ W) % l = r2 at *
      grind
  case done =>
    clear F N R
    intro p49 u h tk p59 F N
    try k_fold
    obtain ⟨r, tk2, vs, fs⟩ := p49
    obtain ⟨hI, hlen, hr0, hr1, hLm, hv⟩ := p59
    dsimp only [] at F N hI hlen hr0 hr1 hLm hv ⊢
    have ela : na.length - ((na.length : Int) - 1 - -1).toNat = 0 := by omega
    rw [ela, List.drop_zero, List.drop_zero, hx.2.2] at hv
    have hq : vl (2 ^ W) fs = x / l := by
      rw [← hv, Int.add_comm, Int.add_mul_ediv_right _ _ (by omega), Int.ediv_eq_zero_of_lt hr0 hr1, Int.zero_add]
    have hr : r = x % l := by
      rw [← hv, Int.add_comm, Int.add_mul_emod_self_right, Int.emod_eq_of_lt hr0 hr1]
    walk_at "m.steps"
    rename Fr _ _ _ _ => F
    rename News _ _ _ _ => N
    rename Nrm _ _ => hR
    rename IntsAre _ _ => hI2
    exact ret_li F N (by k_mem) (by k_mem) hI2 ⟨hq ▸ hR.rp hLm, hr⟩
end

/-! Fneed -/
section
theorem need_count_c {w : World} {A : Around} {s : Shared} {E : Value → Shared → Prop} {k : Int} {tk0 : Tok}
    (C : Cx w A s.heap 1) (hk : 0 ≤ k) :
    wpAny (model PySem.Challenge.rw_sj0077_01.row.prog w) A (call (.ref 114) [.int k tk0]) (Post1 s RetN) E s := by
  obtain ⟨hd0, dp, fr, gd, un⟩ := A
  obtain rfl : hd0 = none := C.calm
  have KX := C.kin
  walk_at "m.fill"
  obtain ⟨mean, mg, mb, T⟩ := C.top
  refine' enter (f := 114) (binds := [(Str.ofString "n", .int k tk0)]) C ?k1 ?k2 ?k3 ?k4 ?_ ?k5 ?k6 ?k7 ?k8 ?e1 ?e2 ?e3
  walk_at "m.enter"
  intro L h₁ F N
  try dsimp only
  walk_at "m.steps"
  rename Fr _ _ _ _ => F
  exact ret_none F
end

/-! Fguess -/
section
theorem guess_start {B H f U q : Int} (hB : 1 < B) (hf : 0 < f) (hH : 0 ≤ H) {t0 sc : Int} (h1 : t0 < B) (hs : 0 ≤ sc) (hU : U = H * B + t0) (hq : q = min (H / f) (B - 1)) :
    0 ≤ q ∧ q ≤ B - 1 ∧ q * f ≤ H ∧ (q = B - 1 ∨ U < (q + 1) * (f * B + sc)) := by
  have d0 : 0 ≤ H / f := Int.ediv_nonneg hH (Int.le_of_lt hf)
  have e := Int.mul_ediv_add_emod H f
  have m0 := Int.emod_nonneg H (show f ≠ 0 by omega)
  have m1 := Int.emod_lt_of_pos H hf
  refine ⟨by omega, by omega, ?_, ?_⟩
  · have h2 : q * f ≤ H / f * f := Int.mul_le_mul_of_nonneg_right (by omega) (Int.le_of_lt hf)
    have h3 : H / f * f = f * (H / f) := Int.mul_comm _ _
    omega
  · by_cases hc : H / f ≤ B - 1
    · right
      have hq2 : q = H / f := by omega
      subst hq2
      have h4 : H + 1 ≤ (H / f + 1) * f := by
        have : (H / f + 1) * f = f * (H / f) + f := by grind
        omega
      have h5 : (H + 1) * B ≤ (H / f + 1) * f * B := Int.mul_le_mul_of_nonneg_right h4 (by omega)
      have h6 : (H + 1) * B = H * B + B := by grind
      have h7 : (H / f + 1) * (f * B + sc) = (H / f + 1) * f * B + (H / f + 1) * sc := by grind
      have h8 : 0 ≤ (H / f + 1) * sc := Int.mul_nonneg (by omega) hs
      omega
    · left; omega

theorem guessed_limb_c {w : World} {A : Around} {s : Shared} {E : Value → Shared → Prop} {lt : Addr} {vt : List Value} {t0 t1 t2 f sc : Int} {W : Nat} {tw tf tsc : Tok}
    (C : Cx w A s.heap 1) (hlt : s.heap.IsList lt vt.toArray) (hit : IntsAre vt [t0, t1, t2]) (hw : 0 < W ∧ W < 20) (hLt : Lim (2 ^ W) [t0, t1, t2]) (hf0 : 0 < f) (hf : f < 2 ^ W) (hs0 : 0 ≤ sc) (hs : sc < 2 ^ W) :
    wpAny (model PySem.Challenge.rw_sj0077_01.row.prog w) A (call (.ref 149) [.ref lt, .int f tf, .int sc tsc, .int W tw]) (Post1 s (RetI (fun q => 0 ≤ q ∧ q ≤ 2 ^ W - 1 ∧ q * (f * 2 ^ W + sc) ≤ (t2 * 2 ^ W + t1) * 2 ^ W + t0 ∧ (q = 2 ^ W - 1 ∨ (t2 * 2 ^ W + t1) * 2 ^ W + t0 < (q + 1) * (f * 2 ^ W + sc))))) E s := by
  obtain ⟨hd0, dp, fr, gd, un⟩ := A
  obtain rfl : hd0 = none := C.calm
  have KX := C.kin
  walk_at "m.fill"
  obtain ⟨mean, mg, mb, T⟩ := C.top
  refine' enter (f := 149) (binds := [(Str.ofString "top", .ref lt), (Str.ofString "first", .int f tf), (Str.ofString "second", .int sc tsc), (Str.ofString "w", .int W tw)]) C ?k1 ?k2 ?k3 ?k4 ?_ ?k5 ?k6 ?k7 ?k8 ?e1 ?e2 ?e3
  walk_at "m.enter"
  intro L h₁ F N
  try dsimp only
  have hB : (0 : Int) < 2 ^ W := Int.pow_pos (by decide)
  have hB1 : (1 : Int) < 2 ^ W := by have := pow_mono' (B := 2) (by decide) (show 1 ≤ W by omega); omega
  have hBb : (2 : Int) ^ W ≤ 2 ^ 19 := pow_mono' (by decide) (by omega)
  have g0 : [t0, t1, t2].getD (Int.toNat 0) 0 = t0 := rfl
  have g1 : [t0, t1, t2].getD (Int.toNat 1) 0 = t1 := rfl
  have g2 : [t0, t1, t2].getD (Int.toNat 2) 0 = t2 := rfl
  have hL0 := hLt t0 (by simp)
  have hL1 := hLt t1 (by simp)
  have hL2 := hLt t2 (by simp)
  have hor := or_add' (c := t1) (a := t2) (k := W) hL1.1 hL1.2 hL2.1
  have hH0 : 0 ≤ t2 * 2 ^ W := Int.mul_nonneg hL2.1 (Int.le_of_lt hB)
  have hHb : t2 * 2 ^ W ≤ 524287 * 524288 := Int.le_trans (Int.mul_le_mul_of_nonneg_right (show t2 ≤ 524287 by omega) (Int.le_of_lt hB)) (Int.mul_le_mul_of_nonneg_left (by omega) (by decide))
  refine wpAny_execs_cons ?_
  refine seq_ (h₀ := s.heap) (L := L) (s := s) (σ := Tok × Tok) (fun c => []) (fun c => [(Str.ofString "high", .int (t1 + t2 * 2 ^ W) c.1), (Str.ofString "base", .int (2 ^ W) c.2), (Str.ofString "top", .ref lt), (Str.ofString "first", .int f tf), (Str.ofString "second", .int sc tsc), (Str.ofString "w", .int W tw)]) (fun _ => True) ?_ ?_
  · walk_at "m.steps"
    rename Fr _ _ _ _ => F
    rename News _ _ _ _ => N
    simp only [Int.toNat_natCast, Int.one_mul, g2, g1, hor] at F
    refine' NX.intro (_, _) ?te11 ?te21 ?te31 ?te51 ?te61
    case te11 => exact F
    case te21 => exact N
    case te31 => walk_at "m.ins"
    case te51 => walk_at "m.all"
    case te61 =>
      trivial
  clear F N
  intro p19 u h tk _ F N
  try k_fold
  obtain ⟨th, tb⟩ := p19
  dsimp only [] at F N ⊢
  refine wpAny_execs_cons ?_
  refine seq_ (h₀ := s.heap) (L := L) (s := s) (σ := Int × Tok) (fun c => []) (fun c => [(Str.ofString "limb", .int c.1 c.2), (Str.ofString "high", .int (t1 + t2 * 2 ^ W) th), (Str.ofString "base", .int (2 ^ W) tb), (Str.ofString "top", .ref lt), (Str.ofString "first", .int f tf), (Str.ofString "second", .int sc tsc), (Str.ofString "w", .int W tw)]) (fun c => 0 ≤ c.1 ∧ c.1 ≤ 2 ^ W - 1 ∧ c.1 * f ≤ t1 + t2 * 2 ^ W ∧ (c.1 = 2 ^ W - 1 ∨ (t2 * 2 ^ W + t1) * 2 ^ W + t0 < (c.1 + 1) * (f * 2 ^ W + sc))) ?_ ?_
  · walk_at "m.steps"
    rename Fr _ _ _ _ => F
    rename News _ _ _ _ => N
    refine' NX.intro (if 2 ^ W - 1 < (t1 + t2 * 2 ^ W).fdiv f then 2 ^ W - 1 else (t1 + t2 * 2 ^ W).fdiv f, _) ?te12 ?te22 ?te32 ?te52 ?te62
    case te12 => exact F
    case te22 => exact N
    case te32 => walk_at "m.ins"
    case te52 => walk_at "m.all"
    case te62 =>
      refine guess_start hB1 hf0 (by omega) hL0.2 hs0 (by grind) ?_
      show (if 2 ^ W - 1 < (t1 + t2 * 2 ^ W).fdiv f then 2 ^ W - 1 else (t1 + t2 * 2 ^ W).fdiv f) = _
      rw [Int.fdiv_eq_ediv_of_nonneg _ (Int.le_of_lt hf0)]
      split <;> omega
  clear F N
  intro p29 u h tk p39 F N
  try k_fold
  obtain ⟨q, tq⟩ := p29
  obtain ⟨hq0, hq1, hq2, hq3⟩ := p39
  dsimp only [] at F N ⊢
  dsimp only [] at hq0 hq1 hq2 hq3
  have hqb : q < 524288 := by omega
  have hqf : 0 ≤ q * f := Int.mul_nonneg hq0 (Int.le_of_lt hf0)
  refine wpAny_execs_cons ?_
  refine seq_ (h₀ := s.heap) (L := L) (s := s) (σ := Int × Tok) (fun c => []) (fun c => [(Str.ofString "rest", .int c.1 c.2), (Str.ofString "limb", .int q tq), (Str.ofString "high", .int (t1 + t2 * 2 ^ W) th), (Str.ofString "base", .int (2 ^ W) tb), (Str.ofString "top", .ref lt), (Str.ofString "first", .int f tf), (Str.ofString "second", .int sc tsc), (Str.ofString "w", .int W tw)]) (fun c => c.1 = t1 + t2 * 2 ^ W - q * f) ?_ ?_
  · walk_at "m.steps"
    rename Fr _ _ _ _ => F
    rename News _ _ _ _ => N
    refine' NX.intro (_, _) ?te13 ?te23 ?te33 ?te53 ?te63
    case te13 => exact F
    case te23 => exact N
    case te33 => walk_at "m.ins"
    case te53 => walk_at "m.all"
    case te63 =>
      rfl
  clear F N
  intro p49 u h tk hr F N
  try k_fold
  obtain ⟨r, tr⟩ := p49
  dsimp only [] at F N ⊢
  dsimp only [] at hr
  walk_at "m.steps"
  refine Halt.mk ?_
  refine' whl_ (σ := (Int × Tok) × (Int × Tok)) (fun _ => []) (fun c => [(Str.ofString "limb", .int c.1.1 c.1.2), (Str.ofString "rest", .int c.2.1 c.2.2), (Str.ofString "high", .int (t1 + t2 * 2 ^ W) th), (Str.ofString "base", .int (2 ^ W) tb), (Str.ofString "top", .ref lt), (Str.ofString "first", .int f tf), (Str.ofString "second", .int sc tsc), (Str.ofString "w", .int W tw)])
    (fun c => 0 ≤ c.1.1 ∧ c.1.1 ≤ 2 ^ W - 1 ∧ 0 ≤ c.2.1 ∧ c.2.1 = t1 + t2 * 2 ^ W - c.1.1 * f ∧ (c.1.1 = 2 ^ W - 1 ∨ (t2 * 2 ^ W + t1) * 2 ^ W + t0 < (c.1.1 + 1) * (f * 2 ^ W + sc))) (fun c => c.1.1.toNat) ((q, tq), (r, tr)) F N ?k1 ?k2 ?turn
  case k1 => walk_at "m.all"
  case k2 => exact ⟨hq0, hq1, by show 0 ≤ r; omega, hr, hq3⟩
  case turn =>
    clear F N hq0 hq1 hq2 hq3 hr hqb hqf
    intro p59 u h tk p69 F N
    try k_fold
    obtain ⟨⟨q, tq⟩, r, tr⟩ := p59
    obtain ⟨hq0, hq1, hr0, hr, hq3⟩ := p69
    dsimp only [] at F N hq0 hq1 hr0 hr hq3 ⊢
    have hqb : q < 524288 := by omega
    have hsb : sc < 524288 := by omega
    have hqs0 : 0 ≤ q * sc := Int.mul_nonneg hq0 hs0
    have hqs : q * sc ≤ (2 ^ W - 1) * (2 ^ W - 1) := Int.le_trans (Int.mul_le_mul_of_nonneg_right hq1 hs0) (Int.mul_le_mul_of_nonneg_left (by omega) (by omega))
    have ho9 := or_add' (c := t0) (a := r) (k := W) hL0.1 hL0.2 hr0
    have hrB : 0 ≤ r * 2 ^ W := Int.mul_nonneg hr0 (Int.le_of_lt hB)
    have e1 : q * (f * 2 ^ W + sc) = q * f * 2 ^ W + q * sc := by grind
    have e2 : r * 2 ^ W = (t2 * 2 ^ W + t1) * 2 ^ W - q * f * 2 ^ W := by rw [hr]; grind
    walk_at "m.steps"
    · have h1 : Builtin.bitOr (r * 2 ^ (W : Int).toNat) ([t0, t1, t2].getD (Int.toNat 0) 0) < q * sc := by assumption
      rw [Int.toNat_natCast, g0, ho9] at h1
      rename Fr _ _ _ _ => F
      rename News _ _ _ _ => N
      refine' TEF.next (TE.intro ((q - 1, _), (r + f, _)) ?te14 ?te24 ?te34 ?te44 ?te54 ?te64)
      case te14 => exact F
      case te24 => exact N
      case te34 => walk_at "m.ins"
      case te44 => walk_at "m.own"
      case te54 => walk_at "m.all"
      case te64 =>
        have hq9 : q ≠ 0 := by
          rintro rfl
          rw [Int.zero_mul] at h1
          omega
        refine ⟨⟨by show 0 ≤ q - 1; omega, by show q - 1 ≤ _; omega, by show 0 ≤ r + f; omega, ?_, .inr ?_⟩, by show (q - 1).toNat < q.toNat; omega⟩
        · show r + f = t1 + t2 * 2 ^ W - (q - 1) * f
          rw [hr]; grind
        · show _ < (q - 1 + 1) * (f * 2 ^ W + sc)
          rw [Int.sub_add_cancel, e1]
          omega
    · have h1 : ¬ Builtin.bitOr (r * 2 ^ (W : Int).toNat) ([t0, t1, t2].getD (Int.toNat 0) 0) < q * sc := by assumption
      rw [Int.toNat_natCast, g0, ho9] at h1
      refine ret_int F ⟨hq0, hq1, ?_, hq3⟩
      rw [e1]; omega
    · have h1 : ¬ r < 2 ^ W := by assumption
      refine ret_int F ⟨hq0, hq1, ?_, hq3⟩
      rw [e1]
      have h2 : 2 ^ W * 2 ^ W ≤ r * 2 ^ W := Int.mul_le_mul_of_nonneg_right (by omega) (Int.le_of_lt hB)
      have h3 : ((2 : Int) ^ W - 1) * (2 ^ W - 1) ≤ 2 ^ W * 2 ^ W := Int.le_trans (Int.mul_le_mul_of_nonneg_right (show (2 : Int) ^ W - 1 ≤ 2 ^ W by omega) (by omega)) (Int.mul_le_mul_of_nonneg_left (by omega) (by omega))
      omega
end

/-! Ftake -/
section
theorem take_away_c {w : World} {A : Around} {s : Shared} {E : Value → Shared → Prop} {ra lb : Addr} {vr vb : List Value} {fr0 nb : List Int} {n0 : Nat} {W p : Nat} {tw tp tq : Tok} {q : Int}
    (C : Cx w A (s.heap.hide ra) 1) (hr : s.heap.get? ra = some (listOf vr.toArray n0)) (hir : IntsAre vr fr0) (hlb : (s.heap.hide ra).IsList lb vb.toArray) (hib : IntsAre vb nb) (hw : 0 < W ∧ W < 20) (hLr : Lim (2 ^ W) fr0) (hLb : Lim (2 ^ W) nb) (hq0 : 0 ≤ q) (hq1 : q ≤ 2 ^ W - 1) (hp : p + nb.length < fr0.length) (hfr : fr0.length < 2000) :
    wpAny (model PySem.Challenge.rw_sj0077_01.row.prog w) A (call (.ref 156) [.ref ra, .ref lb, .int q tq, .int (p : Nat) tp, .int W tw])
      (PostM s ra (TurnL ra (fun v nr => ∃ k t, v = .int k t ∧ (k = 0 ∨ k = 1) ∧ Lim (2 ^ W) nr ∧ nr.length = fr0.length ∧ vl (2 ^ W) nr = vl (2 ^ W) fr0 - (2 ^ W) ^ p * q * vl (2 ^ W) nb + k * (2 ^ W) ^ (p + nb.length + 1) ∧ nr.drop (p + nb.length + 1) = fr0.drop (p + nb.length + 1)))) E s := by
  obtain ⟨hd0, dp, fr, gd, un⟩ := A
  obtain rfl : hd0 = none := C.calm
  have KX := C.kin
  walk_at "m.fill"
  obtain ⟨mean, mg, mb, T⟩ := C.top
  refine' enterM (f := 156) (binds := [(Str.ofString "rest", .ref ra), (Str.ofString "b", .ref lb), (Str.ofString "limb", .int q tq), (Str.ofString "at", .int (p : Nat) tp), (Str.ofString "w", .int W tw)]) C hr ?k1 ?k2 ?k3 ?k4 ?_ ?k5 ?k6 ?k7 ?k8 ?e1 ?e2 ?e3
  walk_at "m.enter"
  intro L h₁ F N
  try dsimp only
  have hB : (0 : Int) < 2 ^ W := Int.pow_pos (by decide)
  have hB1 : (1 : Int) < 2 ^ W := by have := pow_mono' (B := 2) (by decide) (show 1 ≤ W by omega); omega
  have hBb : (2 : Int) ^ W ≤ 2 ^ 19 := pow_mono' (by decide) (by omega)
  refine wpAny_execs_cons ?_
  refine seq_ (h₀ := s.heap.hide ra) (L := L) (s := s) (σ := Tok × Tok) (fun c => [(ra, listOf vr.toArray n0)]) (fun c => [(Str.ofString "carry", .int 0 c.1), (Str.ofString "base", .int (2 ^ W) c.2), (Str.ofString "rest", .ref ra), (Str.ofString "b", .ref lb), (Str.ofString "limb", .int q tq), (Str.ofString "at", .int (p : Nat) tp)]) (fun _ => True) ?_ ?_
  · walk_at "m.steps"
    rename Fr _ _ _ _ => F
    rename News _ _ _ _ => N
    simp only [Int.toNat_natCast, Int.one_mul] at F
    refine' NX.intro (_, _) ?te11 ?te21 ?te31 ?te51 ?te61
    case te11 => exact F
    case te21 => exact N
    case te31 => walk_at "m.ins"
    case te51 => walk_at "m.all"
    case te61 =>
      trivial
  clear F N
  intro p19 u h tk _ F N
  try k_fold
  obtain ⟨tc, tb⟩ := p19
  dsimp only [] at F N ⊢
  walk_at "m.steps"
  refine Halt.mk ?_
  rename PairSrcL _ _ _ _ _ _ _ _ _ _ _ _ => S
  refine' enum_ (L := L) (σ := Int × Tok × List Value × List Int) (fun c => [(ra, listOf c.2.2.1.toArray n0)]) (fun c => [(Str.ofString "carry", .int c.1 c.2.1), (Str.ofString "base", .int (2 ^ W) tb), (Str.ofString "rest", .ref ra), (Str.ofString "b", .ref lb), (Str.ofString "limb", .int q tq), (Str.ofString "at", .int (p : Nat) tp)])
    (fun j c => IntsAre c.2.2.1 c.2.2.2 ∧ c.2.2.2.length = fr0.length ∧ 0 ≤ c.1 ∧ c.1 ≤ 2 ^ W ∧ Lim (2 ^ W) c.2.2.2 ∧ vl (2 ^ W) c.2.2.2 = vl (2 ^ W) fr0 - (2 ^ W) ^ p * q * vl (2 ^ W) (nb.take j) + (2 ^ W) ^ (p + j) * c.1 ∧ c.2.2.2.drop (p + j) = fr0.drop (p + j)) (0, tc, vr, fr0) [ra] (fun _ => rfl) rfl S rfl ?k1 ?k2 ?turn ?done
  case k1 => walk_at "m.all"
  case k2 => exact ⟨hir, rfl, Int.le_refl 0, by show (0 : Int) ≤ _; omega, hLr, by simp [vl], rfl⟩
  case turn =>
    rename Fr _ _ _ _ => F
    rename News _ _ _ _ => N
    clear F N S
    intro j o tj t p29 u h tk own hj p39 hoff F N
    try k_fold
    obtain ⟨c, tk2, vs, fs⟩ := p29
    obtain ⟨hI, hlen, hc0, hc1, hLm, hv, hd2⟩ := p39
    dsimp only [] at F N hI hlen hc0 hc1 hLm hv hd2 ⊢
    have hjl : j < nb.length := by
      apply Nat.lt_of_not_le
      intro hle
      rw [List.getElem?_eq_none hle] at hj
      cases hj
    have hy1 : nb.getD j 0 = o := by rw [List.getD_eq_getElem?_getD, hj]; rfl
    have ho := hLb.getD hB j
    rw [hy1] at ho
    have eb := vl_take_succ' (B := 2 ^ W) (ns := nb) j
    rw [hy1] at eb
    have hob : o < 524288 := by omega
    have hf := hLm.getD hB (p + j)
    have e1 : ((p : Int) + (j : Int)).toNat = p + j := by omega
    have hfm : (q * o + c).fmod (2 ^ W) = (q * o + c) % 2 ^ W := Int.fmod_eq_emod_of_nonneg _ (Int.le_of_lt hB)
    have hfd : (q * o + c).fdiv (2 ^ W) = (q * o + c) / 2 ^ W := Int.fdiv_eq_ediv_of_nonneg _ (Int.le_of_lt hB)
    have hm := mod_lim (B := 2 ^ W) (t := q * o + c) hB
    have hdm := Int.mul_ediv_add_emod (q * o + c) (2 ^ W)
    obtain ⟨hlo, hbd⟩ := mul_bound (c := 0) (f := 0) hB1 (by omega) (by omega) hq0 hq1 ho.1 (show o ≤ 2 ^ W - 1 by omega)
    have hqo : q * o ≤ (2 ^ W - 1) * (2 ^ W - 1) := Int.le_trans (Int.mul_le_mul_of_nonneg_right hq1 ho.1) (Int.mul_le_mul_of_nonneg_left (by omega) (by omega))
    have hsq : ((2 : Int) ^ W - 1) * (2 ^ W - 1) + 2 ^ W < (2 ^ W - 1 + 1) * 2 ^ W := by
      have : (2 ^ W - 1 + 1) * 2 ^ W = ((2 : Int) ^ W - 1) * (2 ^ W - 1) + 2 * 2 ^ W - 1 := by grind
      omega
    have hqd := carry_le (B := 2 ^ W) (t := q * o + c) (k := 2 ^ W - 1) hB (by omega) (by omega)
    walk_at "m.steps"
    · have hcmp :  fs.getD ((p : Int) + (j : Int)).toNat 0 - (q * o + c) % 2 ^ W < 0 := by
        have z :  fs.getD ((p : Int) + (j : Int)).toNat 0 - (q * o + c).fmod (2 ^ W) < 0 := by assumption
        rwa [hfm] at z
      rw [e1] at hcmp
      rename Fr _ _ _ _ => F
      rename News _ _ _ _ => N
      rename IntsAre (List.set _ _ _) _ => hI3
      simp only [hfm, hfd] at hI3 N F
      rw [e1] at hI3 N
      refine' TEF.next (TE.intro (_, _, _, fs.set (p + j) (fs.getD (p + j) 0 - (q * o + c) % 2 ^ W + 2 ^ W)) ?te12 ?te22 ?te32 ?te42 ?te52 ?te62)
      case te12 => exact F
      case te22 => exact N
      case te32 => walk_at "m.ins"
      case te42 => walk_at "m.own"
      case te52 => walk_at "m.all"
      case te62 =>
        refine ⟨hI3, by simpa using hlen, by show 0 ≤ _ + 1; omega, by show _ + 1 ≤ _; omega, hLm.set (by omega) (by omega), ?_, ?_⟩
        · show vl (2 ^ W) (fs.set (p + j) _) = _ - _ + _ * (_ + 1)
          rw [vl_set (by omega), hv, eb, show p + (j + 1) = (p + j) + 1 by omega, Int.pow_succ, Int.pow_add]
          generalize (q * o + c) / 2 ^ W = dd at *
          generalize (q * o + c) % 2 ^ W = mm at *
          have hc9 : c = 2 ^ W * dd + mm - q * o := by omega
          subst hc9
          generalize fs.getD (p + j) 0 = ff at *
          generalize vl (2 ^ W) fr0 = v0 at *
          generalize vl (2 ^ W) (nb.take j) = vb at *
          generalize ((2 : Int) ^ W) ^ j = Bj at *
          generalize ((2 : Int) ^ W) ^ p = Bp at *
          generalize (2 : Int) ^ W = Bb at *
          grind
        · show (fs.set (p + j) _).drop (p + (j + 1)) = fr0.drop (p + (j + 1))
          rw [drop_set_lt (by omega), show p + (j + 1) = (p + j) + 1 by omega, ← List.drop_drop, hd2, List.drop_drop]
    · have hcmp : ¬ fs.getD ((p : Int) + (j : Int)).toNat 0 - (q * o + c) % 2 ^ W < 0 := by
        have z : ¬ fs.getD ((p : Int) + (j : Int)).toNat 0 - (q * o + c).fmod (2 ^ W) < 0 := by assumption
        rwa [hfm] at z
      rw [e1] at hcmp
      rename Fr _ _ _ _ => F
      rename News _ _ _ _ => N
      rename IntsAre (List.set _ _ _) _ => hI3
      simp only [hfm, hfd] at hI3 N F
      rw [e1] at hI3 N
      refine' TEF.next (TE.intro (_, _, _, fs.set (p + j) (fs.getD (p + j) 0 - (q * o + c) % 2 ^ W)) ?te13 ?te23 ?te33 ?te43 ?te53 ?te63)
      case te13 => exact F
      case te23 => exact N
      case te33 => walk_at "m.ins"
      case te43 => walk_at "m.own"
      case te53 => walk_at "m.all"
      case te63 =>
        refine ⟨hI3, by simpa using hlen, by show 0 ≤ _ + 0; omega, by show _ + 0 ≤ _; omega, hLm.set (by omega) (by omega), ?_, ?_⟩
        · show vl (2 ^ W) (fs.set (p + j) _) = _ - _ + _ * (_ + 0)
          rw [vl_set (by omega), hv, eb, show p + (j + 1) = (p + j) + 1 by omega, Int.pow_succ, Int.pow_add]
          generalize (q * o + c) / 2 ^ W = dd at *
          generalize (q * o + c) % 2 ^ W = mm at *
          have hc9 : c = 2 ^ W * dd + mm - q * o := by omega
          subst hc9
          generalize fs.getD (p + j) 0 = ff at *
          generalize vl (2 ^ W) fr0 = v0 at *
          generalize vl (2 ^ W) (nb.take j) = vb at *
          generalize ((2 : Int) ^ W) ^ j = Bj at *
          generalize ((2 : Int) ^ W) ^ p = Bp at *
          generalize (2 : Int) ^ W = Bb at *
          grind
        · show (fs.set (p + j) _).drop (p + (j + 1)) = fr0.drop (p + (j + 1))
          rw [drop_set_lt (by omega), show p + (j + 1) = (p + j) + 1 by omega, ← List.drop_drop, hd2, List.drop_drop]
  case done =>
    rename Fr _ _ _ _ => F
    rename News _ _ _ _ => N
    clear F N S
    intro p49 u h tk p59 F N
    try k_fold
    obtain ⟨c, tk2, vs, fs⟩ := p49
    obtain ⟨hI, hlen, hc0, hc1, hLm, hv, hd2⟩ := p59
    dsimp only [] at F N hI hlen hc0 hc1 hLm hv hd2 ⊢
    rw [List.take_length] at hv
    have e1 : ((p : Int) + (nb.length : Int)).toNat = p + nb.length := by omega
    have hf := hLm.getD hB (p + nb.length)
    walk_at "m.steps"
    · have hcmp :  fs.getD ((p : Int) + (nb.length : Int)).toNat 0 - c < 0 := by assumption
      rw [e1] at hcmp
      rename IntsAre (List.set _ _ _) _ => hI3
      rename Fr _ _ _ _ => F
      rename News _ _ _ _ => N
      rw [e1] at hI3 N
      refine retM F N (by k_mem) hI3 ⟨1, _, rfl, .inr rfl, hLm.set (by omega) (by omega), by simpa using hlen, ?_, by rw [drop_set_lt (by omega), show p + nb.length + 1 = (p + nb.length) + 1 by omega, ← List.drop_drop, hd2, List.drop_drop]⟩
      rw [vl_set (by omega), hv, Int.pow_succ]
      generalize ((2 : Int) ^ W) ^ (p + nb.length) = Bpl at *
      generalize (2 : Int) ^ W = Bb at *
      grind
    · have hcmp : ¬ fs.getD ((p : Int) + (nb.length : Int)).toNat 0 - c < 0 := by assumption
      rw [e1] at hcmp
      rename IntsAre (List.set _ _ _) _ => hI3
      rename Fr _ _ _ _ => F
      rename News _ _ _ _ => N
      rw [e1] at hI3 N
      refine retM F N (by k_mem) hI3 ⟨0, _, rfl, .inl rfl, hLm.set (by omega) (by omega), by simpa using hlen, ?_, by rw [drop_set_lt (by omega), show p + nb.length + 1 = (p + nb.length) + 1 by omega, ← List.drop_drop, hd2, List.drop_drop]⟩
      rw [vl_set (by omega), hv, Int.pow_succ]
      generalize ((2 : Int) ^ W) ^ (p + nb.length) = Bpl at *
      generalize (2 : Int) ^ W = Bb at *
      grind
end

/-! Fput -/
section
theorem put_back_c {w : World} {A : Around} {s : Shared} {E : Value → Shared → Prop} {ra lb : Addr} {vr vb : List Value} {fr0 nb : List Int} {n0 : Nat} {W p : Nat} {tw tp : Tok}
    (C : Cx w A (s.heap.hide ra) 1) (hr : s.heap.get? ra = some (listOf vr.toArray n0)) (hir : IntsAre vr fr0) (hlb : (s.heap.hide ra).IsList lb vb.toArray) (hib : IntsAre vb nb) (hw : 0 < W ∧ W < 20) (hLr : Lim (2 ^ W) fr0) (hLb : Lim (2 ^ W) nb) (hp : p + nb.length < fr0.length) (hfr : fr0.length < 2000) :
    wpAny (model PySem.Challenge.rw_sj0077_01.row.prog w) A (call (.ref 163) [.ref ra, .ref lb, .int (p : Nat) tp, .int W tw])
      (PostM s ra (TurnL ra (fun v nr => v = .none ∧ ∃ e : Int, (e = 0 ∨ e = 1) ∧ Lim (2 ^ W) nr ∧ nr.length = fr0.length ∧ vl (2 ^ W) nr = vl (2 ^ W) fr0 + (2 ^ W) ^ p * vl (2 ^ W) nb - e * (2 ^ W) ^ (p + nb.length + 1) ∧ nr.drop (p + nb.length + 1) = fr0.drop (p + nb.length + 1)))) E s := by
  obtain ⟨hd0, dp, fr, gd, un⟩ := A
  obtain rfl : hd0 = none := C.calm
  have KX := C.kin
  walk_at "m.fill"
  obtain ⟨mean, mg, mb, T⟩ := C.top
  refine' enterM (f := 163) (binds := [(Str.ofString "rest", .ref ra), (Str.ofString "b", .ref lb), (Str.ofString "at", .int (p : Nat) tp), (Str.ofString "w", .int W tw)]) C hr ?k1 ?k2 ?k3 ?k4 ?_ ?k5 ?k6 ?k7 ?k8 ?e1 ?e2 ?e3
  walk_at "m.enter"
  intro L h₁ F N
  try dsimp only
  have hB : (0 : Int) < 2 ^ W := Int.pow_pos (by decide)
  have hB1 : (1 : Int) < 2 ^ W := by have := pow_mono' (B := 2) (by decide) (show 1 ≤ W by omega); omega
  have hBb : (2 : Int) ^ W ≤ 2 ^ 19 := pow_mono' (by decide) (by omega)
  refine wpAny_execs_cons ?_
  refine seq_ (h₀ := s.heap.hide ra) (L := L) (s := s) (σ := Tok × Tok) (fun c => [(ra, listOf vr.toArray n0)]) (fun c => [(Str.ofString "carry", .int 0 c.1), (Str.ofString "mask", .int (1 * 2 ^ (W : Int).toNat - 1) c.2), (Str.ofString "rest", .ref ra), (Str.ofString "b", .ref lb), (Str.ofString "at", .int (p : Nat) tp), (Str.ofString "w", .int W tw)]) (fun _ => True) ?_ ?_
  · walk_at "m.steps"
    rename Fr _ _ _ _ => F
    rename News _ _ _ _ => N
    refine' NX.intro (_, _) ?te11 ?te21 ?te31 ?te51 ?te61
    case te11 => exact F
    case te21 => exact N
    case te31 => walk_at "m.ins"
    case te51 => walk_at "m.all"
    case te61 =>
      trivial
  clear F N
  intro p19 u h tk _ F N
  try k_fold
  obtain ⟨tc, tb⟩ := p19
  dsimp only [] at F N ⊢
  walk_at "m.steps"
  refine Halt.mk ?_
  rename PairSrcL _ _ _ _ _ _ _ _ _ _ _ _ => S
  refine' enum_ (L := L) (σ := Int × Tok × List Value × List Int) (fun c => [(ra, listOf c.2.2.1.toArray n0)]) (fun c => [(Str.ofString "carry", .int c.1 c.2.1), (Str.ofString "mask", .int (1 * 2 ^ (W : Int).toNat - 1) tb), (Str.ofString "rest", .ref ra), (Str.ofString "b", .ref lb), (Str.ofString "at", .int (p : Nat) tp), (Str.ofString "w", .int W tw)])
    (fun j c => IntsAre c.2.2.1 c.2.2.2 ∧ c.2.2.2.length = fr0.length ∧ 0 ≤ c.1 ∧ c.1 ≤ 1 ∧ Lim (2 ^ W) c.2.2.2 ∧ vl (2 ^ W) c.2.2.2 + (2 ^ W) ^ (p + j) * c.1 = vl (2 ^ W) fr0 + (2 ^ W) ^ p * vl (2 ^ W) (nb.take j) ∧ c.2.2.2.drop (p + j) = fr0.drop (p + j)) (0, tc, vr, fr0) [ra] (fun _ => rfl) rfl S rfl ?k1 ?k2 ?turn ?done
  case k1 => walk_at "m.all"
  case k2 => exact ⟨hir, rfl, Int.le_refl 0, by show (0 : Int) ≤ 1; decide, hLr, by simp [vl], rfl⟩
  case turn =>
    rename Fr _ _ _ _ => F
    rename News _ _ _ _ => N
    clear F N S
    intro j o tj t p29 u h tk own hj p39 hoff F N
    try k_fold
    obtain ⟨c, tk2, vs, fs⟩ := p29
    obtain ⟨hI, hlen, hc0, hc1, hLm, hv, hd2⟩ := p39
    dsimp only [] at F N hI hlen hc0 hc1 hLm hv hd2 ⊢
    have hjl : j < nb.length := by
      apply Nat.lt_of_not_le
      intro hle
      rw [List.getElem?_eq_none hle] at hj
      cases hj
    have hy1 : nb.getD j 0 = o := by rw [List.getD_eq_getElem?_getD, hj]; rfl
    have ho := hLb.getD hB j
    rw [hy1] at ho
    have eb := vl_take_succ' (B := 2 ^ W) (ns := nb) j
    rw [hy1] at eb
    have hf := hLm.getD hB (p + j)
    have e1 : ((p : Int) + (j : Int)).toNat = p + j := by omega
    walk_at "m.steps"
    rename Fr _ _ _ _ => F
    rename News _ _ _ _ => N
    rename IntsAre (List.set _ _ _) _ => hI3
    rw [e1, and_mask (by omega)] at hI3
    simp only [e1, shr_] at F
    rw [e1, and_mask (by omega)] at N
    refine' TEF.next (TE.intro (_, _, _, fs.set (p + j) ((c + (fs.getD (p + j) 0 + o)) % 2 ^ W)) ?te12 ?te22 ?te32 ?te42 ?te52 ?te62)
    case te12 => exact F
    case te22 => exact N
    case te32 => walk_at "m.ins"
    case te42 => walk_at "m.own"
    case te52 => walk_at "m.all"
    case te62 =>
      have hm := mod_lim (B := 2 ^ W) (t := c + (fs.getD (p + j) 0 + o)) hB
      have hq := carry_le (B := 2 ^ W) (t := c + (fs.getD (p + j) 0 + o)) (k := 1) hB (by omega) (by omega)
      refine ⟨hI3, by simpa using hlen, hq.1, hq.2, hLm.set hm.1 hm.2, ?_, ?_⟩
      · show vl (2 ^ W) (fs.set (p + j) _) + (2 ^ W) ^ (p + (j + 1)) * _ = _
        rw [show p + (j + 1) = (p + j) + 1 by omega, set_step (a := o) (by omega) rfl, hv, eb, Int.pow_add]
        grind
      · show (fs.set (p + j) _).drop (p + (j + 1)) = fr0.drop (p + (j + 1))
        rw [drop_set_lt (by omega), show p + (j + 1) = (p + j) + 1 by omega, ← List.drop_drop, hd2, List.drop_drop]
  case done =>
    rename Fr _ _ _ _ => F
    rename News _ _ _ _ => N
    clear F N S
    intro p49 u h tk p59 F N
    try k_fold
    obtain ⟨c, tk2, vs, fs⟩ := p49
    obtain ⟨hI, hlen, hc0, hc1, hLm, hv, hd2⟩ := p59
    dsimp only [] at F N hI hlen hc0 hc1 hLm hv hd2 ⊢
    rw [List.take_length] at hv
    have e1 : ((p : Int) + (nb.length : Int)).toNat = p + nb.length := by omega
    have hf := hLm.getD hB (p + nb.length)
    walk_at "m.steps"
    rename IntsAre (List.set _ _ _) _ => hI3
    rename Fr _ _ _ _ => F
    rename News _ _ _ _ => N
    rw [e1, and_mask (by omega)] at hI3 N
    have hm := mod_lim (B := 2 ^ W) (t := fs.getD (p + nb.length) 0 + c) hB
    have hq := carry_le (B := 2 ^ W) (t := fs.getD (p + nb.length) 0 + c) (k := 1) hB (by omega) (by omega)
    have hdm := Int.mul_ediv_add_emod (fs.getD (p + nb.length) 0 + c) (2 ^ W)
    refine retM F N (by k_mem) hI3 ⟨rfl, (fs.getD (p + nb.length) 0 + c) / 2 ^ W, by omega, hLm.set hm.1 hm.2, by simpa using hlen, ?_, by rw [drop_set_lt (by omega), show p + nb.length + 1 = (p + nb.length) + 1 by omega, ← List.drop_drop, hd2, List.drop_drop]⟩
    rw [vl_set (by omega), Int.pow_succ]
    generalize (fs.getD (p + nb.length) 0 + c) / 2 ^ W = dd at *
    generalize (fs.getD (p + nb.length) 0 + c) % 2 ^ W = mm at *
    have hc9 : mm = fs.getD (p + nb.length) 0 + c - 2 ^ W * dd := by omega
    subst hc9
    generalize ((2 : Int) ^ W) ^ (p + nb.length) = Bpl at *
    grind
end

/-! Frows -/
section
local macro_rules | `(tactic| walk_at "call ref") => `(tactic| refine halted ?_)
local macro_rules | `(tactic| walk_at "m.mem") => `(tactic| first | exact List.Mem.head _ | exact List.Mem.tail _ (List.Mem.head _) | exact List.Mem.tail _ (List.Mem.tail _ (List.Mem.head _)) | exact List.Mem.tail _ (List.Mem.tail _ (List.Mem.tail _ (List.Mem.head _))))



theorem slice3 {fs : List Int} {k : Nat} (h : k + 3 ≤ fs.length) : (fs.drop k).take 3 = [fs.getD k 0, fs.getD (k + 1) 0, fs.getD (k + 2) 0] := by
  rw [List.drop_eq_getElem_cons (show k < fs.length by omega), List.drop_eq_getElem_cons (show k + 1 < fs.length by omega), List.drop_eq_getElem_cons (show k + 1 + 1 < fs.length by omega), getD_lt (show k < fs.length by omega), getD_lt (show k + 1 < fs.length by omega), getD_lt (show k + 2 < fs.length by omega)]
  rfl

theorem divide_rows_c {w : World} {A : Around} {s : Shared} {E : Value → Shared → Prop} {ra lb : Addr} {vr vb : List Value} {fr0 nb : List Int} {n0 : Nat} {W z : Nat} {tw : Tok}
    (C : Cx w A (s.heap.hide ra) 2) (hr : s.heap.get? ra = some (listOf vr.toArray n0)) (hir : IntsAre vr fr0) (hlb : (s.heap.hide ra).IsList lb vb.toArray) (hib : IntsAre vb nb) (hw : 0 < W ∧ W < 20) (hLr : Lim (2 ^ W) fr0) (hLb : Lim (2 ^ W) nb) (hz : z + 2 = nb.length) (htop : 0 < nb.getD (z + 1) 0) (hp : nb.length < fr0.length) (hfr : fr0.length < 2000) (hlt : vl (2 ^ W) fr0 < vl (2 ^ W) nb * (2 ^ W) ^ (fr0.length - nb.length)) :
    wpAny (model PySem.Challenge.rw_sj0077_01.row.prog w) A (call (.ref 170) [.ref ra, .ref lb, .int W tw])
      (PostM s ra (TurnR ra (s.heap.hide ra) (fun nr qn => Lim (2 ^ W) nr ∧ Lim (2 ^ W) qn ∧ (nr.length = fr0.length ∧ qn.length ≤ fr0.length) ∧ vl (2 ^ W) nr + vl (2 ^ W) nb * vl (2 ^ W) qn = vl (2 ^ W) fr0 ∧ vl (2 ^ W) nr < vl (2 ^ W) nb))) E s := by
  obtain ⟨hd0, dp, fr, gd, un⟩ := A
  obtain rfl : hd0 = none := C.calm
  have KX := C.kin
  walk_at "m.fill"
  obtain ⟨mean, mg, mb, T⟩ := C.top
  refine' enterM (f := 170) (binds := [(Str.ofString "rest", .ref ra), (Str.ofString "b", .ref lb), (Str.ofString "w", .int W tw)]) C hr ?k1 ?k2 ?k3 ?k4 ?_ ?k5 ?k6 ?k7 ?k8 ?e1 ?e2 ?e3
  walk_at "m.enter"
  intro L h₁ F N
  try dsimp only
  have hB : (0 : Int) < 2 ^ W := Int.pow_pos (by decide)
  have hB1 : (1 : Int) < 2 ^ W := by have := pow_mono' (B := 2) (by decide) (show 1 ≤ W by omega); omega
  have hBb : (2 : Int) ^ W ≤ 2 ^ 19 := pow_mono' (by decide) (by omega)
  have hv0 := vl_nonneg hB hLb
  refine wpAny_execs_cons ?_
  refine seq_ (h₀ := s.heap.hide ra) (L := L) (s := s) (σ := Tok) (fun c => [(ra, listOf vr.toArray n0)]) (fun c => [(Str.ofString "size", .int (nb.length : Int) c), (Str.ofString "rest", .ref ra), (Str.ofString "b", .ref lb), (Str.ofString "w", .int W tw)]) (fun _ => True) ?_ ?_
  · walk_at "m.steps"
    rename Fr _ _ _ _ => F
    rename News _ _ _ _ => N
    refine' NX.intro _ ?te11 ?te21 ?te31 ?te51 ?te61
    case te11 => exact F
    case te21 => exact N
    case te31 => walk_at "m.ins"
    case te51 => walk_at "m.all"
    case te61 =>
      trivial
  clear F N
  rintro tz u h tk - F N
  dsimp only [] at F N ⊢
  refine wpAny_execs_cons ?_
  refine seq_ (h₀ := s.heap.hide ra) (L := L) (s := s) (σ := Addr × List Value) (fun c => [(c.1, listOf c.2.toArray 0), (ra, listOf vr.toArray n0)]) (fun c => [(Str.ofString "quotient", .ref c.1), (Str.ofString "size", .int (nb.length : Int) tz), (Str.ofString "rest", .ref ra), (Str.ofString "b", .ref lb), (Str.ofString "w", .int W tw)]) (fun c => IntsAre c.2 (List.replicate ((fr0.length : Int) - nb.length).toNat 0) ∧ @Ne Nat c.1 ra) ?_ ?_
  · walk_at "m.steps"
    rename Fr _ _ _ _ => F
    rename News _ _ _ _ => N
    refine' NX.intro (_, _) ?te12 ?te22 ?te32 ?te52 ?te62
    case te12 => exact F
    case te22 => exact N
    case te32 => walk_at "m.ins"
    case te52 => walk_at "m.all"
    case te62 =>
      exact ⟨by assumption, by show @Ne Nat _ _; omega⟩
  clear F N
  intro p19 u h tk p29 F N
  try k_fold
  obtain ⟨lq, vq0⟩ := p19
  obtain ⟨hI0, hne⟩ := p29
  dsimp only [] at F N ⊢
  dsimp only [] at hI0 hne
  have em : ((fr0.length : Int) - nb.length).toNat = fr0.length - nb.length := by omega
  rw [em] at hI0
  walk_at "m.steps"
  refine Halt.mk ?_
  rename IsRange _ _ _ _ _ _ _ _ => R
  rename Fr _ _ _ _ => F
  rename News _ _ _ _ => N
  refine' rngD_ (L := L) (σ := (List Value × List Int × Nat) × (List Value × List Int)) (fun c => [(lq, listOf c.2.1.toArray 0), (ra, listOf c.1.1.toArray c.1.2.2)]) (fun c => [(Str.ofString "quotient", .ref lq), (Str.ofString "size", .int (nb.length : Int) tz), (Str.ofString "rest", .ref ra), (Str.ofString "b", .ref lb), (Str.ofString "w", .int W tw)])
    (fun i c => IntsAre c.1.1 c.1.2.1 ∧ IntsAre c.2.1 c.2.2 ∧ c.1.2.1.length = fr0.length ∧ c.2.2.length = fr0.length - nb.length ∧ Lim (2 ^ W) c.1.2.1 ∧ Lim (2 ^ W) c.2.2 ∧ vl (2 ^ W) c.1.2.1 + vl (2 ^ W) nb * vl (2 ^ W) c.2.2 = vl (2 ^ W) fr0 ∧ vl (2 ^ W) c.1.2.1 < vl (2 ^ W) nb * (2 ^ W) ^ (fr0.length - nb.length - i) ∧ ∀ j, j < fr0.length - nb.length - i → c.2.2.getD j 0 = 0) ((vr, fr0, n0), (vq0, List.replicate (fr0.length - nb.length) 0)) [lq, ra] (fun _ => rfl) rfl rfl R (by omega) (by omega) (by omega) (by omega) F ?N ?k1 ?k2 ?turn ?done
  case k1 => walk_at "m.all"
  case N => exact N
  case k2 => exact ⟨hir, hI0, rfl, List.length_replicate, hLr, lim_replicate hB _, by simp [vl_replicate], hlt, fun j _ => getD_zero_of (k := 0) (fun x hx => List.eq_of_mem_replicate (List.mem_of_mem_drop hx)) (Nat.zero_le _)⟩
  case turn =>
    clear F N R hI0
    intro i t p39 u h tk own hi p49 hoff F N
    try k_fold
    obtain ⟨⟨vs, fs, n⟩, vq, qs⟩ := p39
    obtain ⟨hI, hIq, hlen, hlenq, hLm, hLq, hsum, hlt2, hq0s⟩ := p49
    dsimp only [] at F N hI hIq hlen hlenq hLm hLq hsum hlt2 hq0s ⊢
    obtain ⟨p, hp9⟩ : ∃ p : Nat, fr0.length - nb.length - i = p + 1 := ⟨fr0.length - nb.length - i - 1, by omega⟩
    have hpI : (fr0.length : Int) - nb.length - 1 - (i : Int) = (p : Int) := by omega
    rw [hpI] at F
    rw [hp9] at hlt2 hq0s
    have e4 : ((nb.length : Int) - 1).toNat = z + 1 := by omega
    have e5 : ((nb.length : Int) - 2).toNat = z := by omega
    have hf1 := hLb.getD hB (z + 1)
    have hf2 := hLb.getD hB z
    have hneN : ∀ q ∈ (lq, listOf vq.toArray 0) :: own, q.1 ≠ ra := by
      intro q hq
      rcases List.mem_cons.mp hq with rfl | hq
      · exact hne
      · exact hoff q hq ra (by simp)
    refine wpAny_execs_cons ?_
    refine seq_ (h₀ := s.heap.hide ra) (L := L) (s := s) (σ := Int × Tok) (fun c => (lq, listOf vq.toArray 0) :: (ra, listOf vs.toArray n) :: own) (fun c => [(Str.ofString "limb", .int c.1 c.2), (Str.ofString "at", .int (p : Int) t), (Str.ofString "quotient", .ref lq), (Str.ofString "size", .int (nb.length : Int) tz), (Str.ofString "rest", .ref ra), (Str.ofString "b", .ref lb), (Str.ofString "w", .int W tw)])
      (fun c => 0 ≤ c.1 ∧ c.1 ≤ 2 ^ W - 1 ∧ vl (2 ^ W) fs < (c.1 + 1) * vl (2 ^ W) nb * (2 ^ W) ^ p ∧ (c.1 - 1) * vl (2 ^ W) nb * (2 ^ W) ^ p ≤ vl (2 ^ W) fs ∧ vl (2 ^ W) (fs.drop (p + nb.length + 1)) = 0) ?_ ?_
    · walk_at "m.steps"
      refine Halt.mk ?_
      rename Fr _ _ _ _ => F
      rename News _ _ _ _ => N
      rename IntsAre _ (List.take _ _) => hI3
      have ex : ((p : Int) + nb.length - 2).toNat = p + z := by omega
      have ey : ((p : Int) + nb.length + 1).toNat = p + z + 3 := by omega
      rw [ex, ey, Nat.min_eq_left (by omega), show p + z + 3 - (p + z) = 3 by omega, slice3 (by omega)] at hI3
      refine use_int (guessed_limb_c (Cx.deeper (Cx.less C (by decide)) F) (by is_list) hI3 hw ?_ ?_ ?_ ?_ ?_) F N ?_
      · intro x hx
        simp only [List.mem_cons, List.not_mem_nil, or_false] at hx
        rcases hx with rfl | rfl | rfl <;> exact hLm.getD hB _
      · rw [e4]; exact htop
      · rw [e4]; exact hf1.2
      · rw [e5]; exact hf2.1
      · rw [e5]; exact hf2.2
      intro q tq h9 tk9 F N ⟨hq0, hq1, hg1, hg2⟩
      rw [e4, e5] at hg1 hg2
      have hk := knuth_guess hB1 hLm hLb hz (by omega) hlt2 htop hq0 hq1 hg1 hg2
      walk_at "m.steps"
      rename Fr _ _ _ _ => F
      rename News _ _ _ _ => N
      refine' NX.intro (q, _) ?te13 ?te23 ?te33 ?te53 ?te63
      case te13 => exact F
      case te23 => exact N
      case te33 => walk_at "m.ins"
      case te53 => walk_at "m.all"
      case te63 =>
        exact ⟨hq0, hq1, hk.1, hk.2.1, hk.2.2⟩
    clear F N
    intro p59 u h tk p69 F N
    try k_fold
    obtain ⟨q, tq⟩ := p59
    obtain ⟨hq0, hq1, hk1, hk2, hk3⟩ := p69
    dsimp only [] at F N hq0 hq1 hk1 hk2 hk3 ⊢
    have hup0 : vl (2 ^ W) fs < (2 ^ W) ^ (p + nb.length + 1) := vl_lower hB hLm (by omega) hk3
    refine wpAny_execs_cons ?_
    refine seq_ (h₀ := s.heap.hide ra) (L := L) (s := s) (σ := (Int × Tok) × (List Value × List Int × Nat)) (fun c => (lq, listOf vq.toArray 0) :: (ra, listOf c.2.1.toArray c.2.2.2) :: own) (fun c => [(Str.ofString "limb", .int c.1.1 c.1.2), (Str.ofString "at", .int (p : Int) t), (Str.ofString "quotient", .ref lq), (Str.ofString "size", .int (nb.length : Int) tz), (Str.ofString "rest", .ref ra), (Str.ofString "b", .ref lb), (Str.ofString "w", .int W tw)])
      (fun c => 0 ≤ c.1.1 ∧ c.1.1 ≤ 2 ^ W - 1 ∧ IntsAre c.2.1 c.2.2.1 ∧ c.2.2.1.length = fr0.length ∧ Lim (2 ^ W) c.2.2.1 ∧ vl (2 ^ W) c.2.2.1 = vl (2 ^ W) fs - (2 ^ W) ^ p * c.1.1 * vl (2 ^ W) nb ∧ vl (2 ^ W) c.2.2.1 < vl (2 ^ W) nb * (2 ^ W) ^ p) ?_ ?_
    · walk_at "m.steps"
      refine Halt.mk ?_
      have hraL := (N (ra, listOf vs.toArray n) (by simp)).2.1
      refine useM (o := listOf vs.toArray n) (rest := (lq, listOf vq.toArray 0) :: own) (take_away_c (Cx.deeper (Cx.less C (by decide)) (fr_hide F (Ne.symm hraL) (Heap.hide_self _ _))) (N (ra, listOf vs.toArray n) (by simp)).1 hI (isList_base F hlb (Heap.hide_self _ _)) hib hw hLm hLb hq0 hq1 (by omega) (by omega)) F (fun x hx => N x (by
        simp only [List.mem_cons] at hx ⊢
        rcases hx with h | h | h
        · exact .inr (.inl h)
        · exact .inl h
        · exact .inr (.inr h))) hneN ?_
      rintro v ws1 n1 fs1 h9 tk9 F N hI1 ⟨k, tk1, rfl, hk, hL1, hlen1, hv1, hd1⟩
      clear hI
      dsimp only []
      have hz1 : vl (2 ^ W) (fs1.drop (p + nb.length + 1)) = 0 := by rw [hd1]; exact hk3
      have hup1 : vl (2 ^ W) fs1 < (2 ^ W) ^ (p + nb.length + 1) := vl_lower hB hL1 (by omega) hz1
      have hnn1 := vl_nonneg hB hL1
      have ec : (q + 1) * vl (2 ^ W) nb * (2 ^ W) ^ p = (2 ^ W) ^ p * q * vl (2 ^ W) nb + vl (2 ^ W) nb * (2 ^ W) ^ p := by grind
      have ec2 : (q - 1) * vl (2 ^ W) nb * (2 ^ W) ^ p = (2 ^ W) ^ p * q * vl (2 ^ W) nb - vl (2 ^ W) nb * (2 ^ W) ^ p := by grind
      have ec3 : (2 ^ W) ^ p * (q - 1) * vl (2 ^ W) nb = (2 ^ W) ^ p * q * vl (2 ^ W) nb - vl (2 ^ W) nb * (2 ^ W) ^ p := by grind
      have ec4 : (2 ^ W) ^ p * vl (2 ^ W) nb = vl (2 ^ W) nb * (2 ^ W) ^ p := Int.mul_comm _ _
      walk_at "m.steps"
      · have hk9 : k = 1 := by assumption
        subst hk9
        rw [Int.one_mul] at hv1
        refine Halt.mk ?_
        rename Fr _ _ _ _ => F
        rename News _ _ _ _ => N
        have hraL := (N (ra, listOf ws1.toArray n1) (by simp)).2.1
        refine useM (o := listOf ws1.toArray n1) (rest := (lq, listOf vq.toArray 0) :: own) (put_back_c (Cx.deeper (Cx.less C (by decide)) (fr_hide F (Ne.symm hraL) (Heap.hide_self _ _))) (N (ra, listOf ws1.toArray n1) (by simp)).1 hI1 (isList_base F hlb (Heap.hide_self _ _)) hib hw hL1 hLb (by omega) (by omega)) F N hneN ?_
        rintro v ws2 n2 fs2 h9 tk9 F N hI2 ⟨rfl, e, he, hL2, hlen2, hv2, hd2⟩
        dsimp only []
        have hz2 : vl (2 ^ W) (fs2.drop (p + nb.length + 1)) = 0 := by rw [hd2]; exact hz1
        have hup2 : vl (2 ^ W) fs2 < (2 ^ W) ^ (p + nb.length + 1) := vl_lower hB hL2 (by omega) hz2
        have he1 : e = 1 := by
          rcases he with he | he
          · rw [he, Int.zero_mul] at hv2
            omega
          · exact he
        rw [he1, Int.one_mul] at hv2
        have hq9 : q ≠ 0 := by
          rintro rfl
          have := vl_nonneg hB hLm
          rw [Int.mul_zero, Int.zero_mul] at hv1
          omega
        walk_at "m.steps"
        rename Fr _ _ _ _ => F
        rename News _ _ _ _ => N
        refine' NX.intro ((q - 1, _), (ws2, fs2, n2)) ?te14 ?te24 ?te34 ?te54 ?te64
        case te14 => exact F
        case te24 => exact N
        case te34 => walk_at "m.ins"
        case te54 => walk_at "m.all"
        case te64 =>
          refine ⟨by show 0 ≤ q - 1; omega, by show q - 1 ≤ _; omega, hI2, by show fs2.length = _; omega, hL2, ?_, ?_⟩
          · show vl (2 ^ W) fs2 = vl (2 ^ W) fs - (2 ^ W) ^ p * (q - 1) * vl (2 ^ W) nb
            omega
          · show vl (2 ^ W) fs2 < _
            omega
      · have hk9 : k = 0 := by
          have : ¬ k = 1 := by assumption
          omega
        subst hk9
        rw [Int.zero_mul, Int.add_zero] at hv1
        rename Fr _ _ _ _ => F
        rename News _ _ _ _ => N
        refine' NX.intro ((q, tq), (ws1, fs1, n1)) ?te15 ?te25 ?te35 ?te55 ?te65
        case te15 => exact F
        case te25 => exact N
        case te35 => walk_at "m.ins"
        case te55 => walk_at "m.all"
        case te65 =>
          exact ⟨hq0, hq1, hI1, by show fs1.length = _; omega, hL1, hv1, by show vl (2 ^ W) fs1 < _; omega⟩
    clear F N hI
    intro p79 u h tk p89 F N
    try k_fold
    obtain ⟨⟨q2, tq2⟩, ws2, fs2, n2⟩ := p79
    obtain ⟨hr0, hr1, hI2, hlen2, hL2, hv2, hlt9⟩ := p89
    dsimp only [] at F N hr0 hr1 hI2 hlen2 hL2 hv2 hlt9 ⊢
    have hsep : @Ne Nat lq ra := hne
    walk_at "m.steps"
    rename Fr _ _ _ _ => F
    rename News _ _ _ _ => N
    rename IntsAre (List.set _ _ _) _ => hI3
    rw [Int.toNat_natCast] at hI3 N
    refine' TEF.next (TE.intro ((ws2, fs2, n2), (_, qs.set p q2)) ?te16 ?te26 ?te36 ?te46 ?te56 ?te66)
    case te16 => exact F
    case te26 => exact N
    case te36 => walk_at "m.ins"
    case te46 => walk_at "m.own"
    case te56 => walk_at "m.all"
    case te66 =>
      have hqz := hq0s p (by omega)
      refine ⟨hI2, hI3, hlen2, by simpa using hlenq, hL2, hLq.set hr0 (by omega), ?_, ?_, ?_⟩
      · show vl (2 ^ W) fs2 + vl (2 ^ W) nb * vl (2 ^ W) (qs.set p q2) = _
        rw [vl_set (by omega), hqz, hv2, ← hsum]
        grind
      · show vl (2 ^ W) fs2 < vl (2 ^ W) nb * (2 ^ W) ^ (fr0.length - nb.length - (i + 1))
        rw [show fr0.length - nb.length - (i + 1) = p by omega]
        exact hlt9
      · show ∀ j, j < fr0.length - nb.length - (i + 1) → (qs.set p q2).getD j 0 = 0
        intro j hj
        rw [getD_set_ne (by omega)]
        exact hq0s j (by omega)
  case done =>
    clear F N R hI0
    intro p99 u h tk p109 F N
    try k_fold
    obtain ⟨⟨vs, fs, n⟩, vq, qs⟩ := p99
    obtain ⟨hI, hIq, hlen, hlenq, hLm, hLq, hsum, hlt2, hq0s⟩ := p109
    dsimp only [] at F N hI hIq hlen hlenq hLm hLq hsum hlt2 hq0s ⊢
    rw [show fr0.length - nb.length - ((fr0.length : Int) - nb.length - 1 - -1).toNat = 0 by omega, Int.pow_zero, Int.mul_one] at hlt2
    walk_at "m.steps"
    rename Fr _ _ _ _ => F
    rename News _ _ _ _ => N
    exact retR F N (by walk_at "m.mem") (by walk_at "m.mem") hne hI hIq ⟨hLm, hLq, ⟨hlen, by omega⟩, hsum, hlt2⟩
end

/-! Fsmall -/
section
local macro_rules | `(tactic| walk_at "call ref") => `(tactic| refine halted ?_)



theorem divrem_small_c {w : World} {A : Around} {s : Shared} {E : Value → Shared → Prop} {la lb : Addr} {va vb : List Value} {na nb : List Int} {W : Nat} {tw : Tok} {x y : Int}
    (C : Cx w A s.heap 3) (hla : s.heap.IsList la va.toArray) (hia : IntsAre va na) (hlb : s.heap.IsList lb vb.toArray) (hib : IntsAre vb nb) (hw : 0 < W ∧ W < 20) (hx : Rp (2 ^ W) na x) (hy : Rp (2 ^ W) nb y) (hlen : nb.length = 1) (hna : na.length < 400) :
    wpAny (model PySem.Challenge.rw_sj0077_01.row.prog w) A (call (.ref 142) [.ref la, .ref lb, .int W tw]) (Post1 s (RetLL s.heap (fun nq nr => Rp (2 ^ W) nq (x / y) ∧ Rp (2 ^ W) nr (x % y)))) E s := by
  obtain ⟨hd0, dp, fr, gd, un⟩ := A
  obtain rfl : hd0 = none := C.calm
  have KX := C.kin
  walk_at "m.fill"
  obtain ⟨mean, mg, mb, T⟩ := C.top
  refine' enter (f := 142) (binds := [(Str.ofString "a", .ref la), (Str.ofString "b", .ref lb), (Str.ofString "w", .int W tw)]) C ?k1 ?k2 ?k3 ?k4 ?_ ?k5 ?k6 ?k7 ?k8 ?e1 ?e2 ?e3
  walk_at "m.enter"
  intro L h₁ F N
  try dsimp only
  have hB : (0 : Int) < 2 ^ W := Int.pow_pos (by decide)
  have hB1 : (1 : Int) < 2 ^ W := by have := pow_mono' (B := 2) (by decide) (show 1 ≤ W by omega); omega
  have hBb : (2 : Int) ^ W ≤ 2 ^ 19 := pow_mono' (by decide) (by omega)
  have hyg : nb.getD (Int.toNat 0) 0 = y := by
    rw [← hy.2.2]
    match nb, hlen with
    | [l], _ => simp [vl]
  have hyB := hy.lt hB
  rw [hlen, Int.pow_one] at hyB
  have hy0 : 0 < y := by
    have := hy.ge hB (by rintro rfl; simp at hlen)
    rw [hlen] at this
    simp at this
    omega
  walk_at "m.steps"
  refine Halt.mk ?_
  rename Fr _ _ _ _ => F
  rename News _ _ _ _ => N
  refine use_li (divrem_limb_c (Cx.deeper C F) (by is_list) hia hw (by rw [hyg]; exact hy0) (by rw [hyg]; exact hyB) hx (by omega)) F N ?_
  intro T r ws n nr k tt h9 tk9 F N hI p19
  try k_fold
  obtain ⟨hR1, hR2⟩ := p19
  rw [hyg] at hR1 hR2
  have hm0 := Int.emod_nonneg x (show y ≠ 0 by omega)
  have hm1 := Int.emod_lt_of_pos x hy0
  walk_at "m.steps"
  · rename Fr _ _ _ _ => F
    rename News _ _ _ _ => N
    have hk : 0 < k := by assumption
    exact ret_ll F N (by k_mem) (by k_mem) (wb := [.int k _]) (by k_mem) hI (.cons _ _ .nil) ⟨hR1, hR2 ▸ Rp.one hk (by omega)⟩
  · rename Fr _ _ _ _ => F
    rename News _ _ _ _ => N
    have hk : ¬ 0 < k := by assumption
    exact ret_ll F N (by k_mem) (by k_mem) (wb := []) (by k_mem) hI .nil ⟨hR1, by rw [← hR2, show k = 0 by omega]; exact Rp.zero⟩
end

/-! Fschool -/
section
local macro_rules | `(tactic| walk_at "call ref") => `(tactic| refine halted ?_)



theorem Rp.top {B y : Int} {nb : List Int} {z : Nat} (hB : 0 < B) (hy : Rp B nb y) (hz : nb.length = z + 2) : 0 < nb.getD (z + 1) 0 := by
  have h1 := (hy.1.getD hB (z + 1)).1
  have h2 : nb.getD (z + 1) 0 ≠ 0 := fun e => hy.2.1 (by rw [List.getLast?_eq_getElem?, hz, show z + 2 - 1 = z + 1 by omega, List.getElem?_eq_getElem (by omega)]; rw [getD_lt (by omega)] at e; rw [e])
  omega
theorem school_len {B y K P : Int} {nb nv : List Int} {z : Nat} (hB : 0 < B) (hy : Rp B nb y) (hz : nb.length = z + 2) (hk : nb.getD (z + 1) 0 < K) (hKP : K * P = B) (hP : 0 < P) (hv : Rp B nv (y * P)) : nv.length = z + 2 := by
  have e2 := two_top (B := B) (ns := nb) (k := z) hz.symm
  have l1 := vl_lt hB (hy.1.take z)
  rw [List.length_take, Nat.min_eq_left (by omega)] at l1
  have hz1 := (hy.1.getD hB z).2
  have hz0 := hy.ge hB (by rintro rfl; simp at hz)
  have hbz := pow_pos' hB z
  rw [hy.2.2] at e2
  have h3 : y < (nb.getD (z + 1) 0 + 1) * (B * B ^ z) := by
    have : B ^ z * (nb.getD (z + 1) 0 * B + nb.getD z 0) ≤ B ^ z * (nb.getD (z + 1) 0 * B + B - 1) := Int.mul_le_mul_of_nonneg_left (by omega) (by omega)
    grind
  have h4 : y * P < B ^ (z + 2) := by
    have a1 : y * P < (nb.getD (z + 1) 0 + 1) * (B * B ^ z) * P := Int.mul_lt_mul_of_pos_right h3 hP
    have a2 : (nb.getD (z + 1) 0 + 1) * (B * B ^ z * P) ≤ K * (B * B ^ z * P) := Int.mul_le_mul_of_nonneg_right (by omega) (Int.le_of_lt (Int.mul_pos (Int.mul_pos hB hbz) hP))
    have a3 : B ^ (z + 2) = B * B ^ z * B := by rw [Int.pow_succ, Int.pow_succ]; grind
    have a4 : K * (B * B ^ z * P) = B * B ^ z * (K * P) := by simp only [Int.mul_comm, Int.mul_left_comm, Int.mul_assoc]
    rw [hKP] at a4
    rw [a3, ← a4]
    rw [← Int.mul_assoc] at a2
    omega
  have h5 : B ^ (z + 1) ≤ y * P := by
    rw [hz, show z + 2 - 1 = z + 1 by omega] at hz0
    have : y * 1 ≤ y * P := Int.mul_le_mul_of_nonneg_left (by omega) (by have := hy.nonneg hB; omega)
    omega
  have h6 : nv.length ≤ z + 2 := by
    by_cases hc : nv.length ≤ z + 2
    · exact hc
    · have := hv.ge hB (by rintro rfl; simp at hc)
      have := pow_mono' hB (show z + 2 ≤ nv.length - 1 by omega)
      omega
  have h7 : z + 2 ≤ nv.length := by
    by_cases hc : z + 2 ≤ nv.length
    · exact hc
    · have := hv.lt hB
      have := pow_mono' hB (show nv.length ≤ z + 1 by omega)
      omega
  omega
theorem school_len2 {B x K P : Int} {na nr : List Int} (hB : 0 < B) (hx : Rp B na x) (hKP : K * P = B) (hP : 0 < P) (hK : 1 ≤ K) (hr : Rp B nr (x * P)) : nr.length ≤ na.length + 1 := by
  by_cases hc : nr.length ≤ na.length + 1
  · exact hc
  · have h1 := hr.ge hB (by rintro rfl; simp at hc)
    have h2 := hx.lt hB
    have h3 := pow_mono' hB (show na.length + 1 ≤ nr.length - 1 by omega)
    have h4 : x * P < B ^ na.length * P := Int.mul_lt_mul_of_pos_right h2 hP
    have h5 : 1 * P ≤ K * P := Int.mul_le_mul_of_nonneg_right hK (by omega)
    have h6 : B ^ na.length * P ≤ B ^ na.length * B := Int.mul_le_mul_of_nonneg_left (by omega) (Int.le_of_lt (pow_pos' hB _))
    rw [Int.pow_succ] at h3
    omega

theorem school_div {x y P r q : Int} (hP : 0 < P) (hy : 0 < y) (h0 : 0 ≤ r) (h1 : r < y * P) (h : r + y * P * q = x * P) : q = x / y ∧ r / P = x % y := by
  have e1 : r = (x - y * q) * P := by
    have : (x - y * q) * P = x * P - y * P * q := by grind
    omega
  have a0 : 0 ≤ x - y * q := by
    by_cases hc : 0 ≤ x - y * q
    · exact hc
    · have : (x - y * q) * P < 0 := Int.mul_neg_of_neg_of_pos (by omega) hP
      omega
  have a1 : x - y * q < y := Int.lt_of_mul_lt_mul_right (a := P) (by omega) (by omega)
  have e2 : r / P = x - y * q := by rw [e1]; exact Int.mul_ediv_cancel _ (by omega)
  have := (Int.ediv_emod_unique (a := x) (b := y) (r := x - y * q) (q := q) hy).mpr ⟨by omega, a0, a1⟩
  exact ⟨this.1.symm, by rw [e2]; exact this.2.symm⟩

theorem divrem_school_c {w : World} {A : Around} {s : Shared} {E : Value → Shared → Prop} {la lb : Addr} {va vb : List Value} {na nb : List Int} {W : Nat} {tw : Tok} {x y : Int}
    (C : Cx w A s.heap 4) (hla : s.heap.IsList la va.toArray) (hia : IntsAre va na) (hlb : s.heap.IsList lb vb.toArray) (hib : IntsAre vb nb) (hw : 0 < W ∧ W < 20) (hx : Rp (2 ^ W) na x) (hy : Rp (2 ^ W) nb y) (hy0 : 0 < y) (hna : na.length < 300) (hnb : nb.length < 300) :
    wpAny (model PySem.Challenge.rw_sj0077_01.row.prog w) A (call (.ref 177) [.ref la, .ref lb, .int W tw]) (Post1 s (RetLL s.heap (fun nq nr => Rp (2 ^ W) nq (x / y) ∧ Rp (2 ^ W) nr (x % y)))) E s := by
  obtain ⟨hd0, dp, fr, gd, un⟩ := A
  obtain rfl : hd0 = none := C.calm
  have KX := C.kin
  walk_at "m.fill"
  obtain ⟨mean, mg, mb, T⟩ := C.top
  refine' enter (f := 177) (binds := [(Str.ofString "a", .ref la), (Str.ofString "b", .ref lb), (Str.ofString "w", .int W tw)]) C ?k1 ?k2 ?k3 ?k4 ?_ ?k5 ?k6 ?k7 ?k8 ?e1 ?e2 ?e3
  walk_at "m.enter"
  intro L h₁ F N
  try dsimp only
  have hB : (0 : Int) < 2 ^ W := Int.pow_pos (by decide)
  have hB1 : (1 : Int) < 2 ^ W := by have := pow_mono' (B := 2) (by decide) (show 1 ≤ W by omega); omega
  have hBb : (2 : Int) ^ W ≤ 2 ^ 19 := pow_mono' (by decide) (by omega)
  have hnb0 : nb ≠ [] := fun e => by have := (Rp.nil_iff hB1 hy).mp e; omega
  have hnb1 : 0 < nb.length := List.length_pos_iff.mpr hnb0
  have hx0 := hx.nonneg hB
  walk_at "m.steps"
  refine Halt.mk ?_
  rename Fr _ _ _ _ => F
  rename News _ _ _ _ => N
  refine use_int (compare_c (Cx.deeper (Cx.less C (by decide)) F) (by is_list) hia (by is_list) hib hB1 hx hy (by omega) (by omega)) F N ?_
  rintro k tk9 h9 tk8 F N hk
  walk_at "m.steps"
  · rename Fr _ _ _ _ => F
    rename News _ _ _ _ => N
    rename IntsAre _ na => hI9
    have hlt : x < y := by omega
    rw [Int.ediv_eq_zero_of_lt hx0 hlt, Int.emod_eq_of_lt hx0 hlt]
    exact ret_ll F N (by k_mem) (wa := []) (by k_mem) (by k_mem) .nil hI9 ⟨Rp.zero, hx⟩
  · -- one limb
    have hl9 : nb.length = 1 := by
      have : (nb.length : Int) = 1 := by assumption
      omega
    refine Halt.mk ?_
    rename Fr _ _ _ _ => F
    rename News _ _ _ _ => N
    refine use_ll (divrem_small_c (Cx.deeper (Cx.less C (by decide)) F) (by is_list) hia (by is_list) hib hw hx hy hl9 (by omega)) F N ?_
    rintro T a b wa wb n n' nq nr h9 tk9 F N hIa hIb hR
    walk_at "m.steps"
    rename Fr _ _ _ _ => F
    rename News _ _ _ _ => N
    exact ret_ll F N (by k_mem) (by k_mem) (by k_mem) hIa hIb hR
  · have hyx : y ≤ x := by omega
    have hl2 : 2 ≤ nb.length := by
      have : ¬ (nb.length : Int) = 1 := by assumption
      omega
    obtain ⟨z, hz⟩ : ∃ z, nb.length = z + 2 := ⟨nb.length - 2, by omega⟩
    have hlen : nb.length ≤ na.length := by
      by_cases hc : nb.length ≤ na.length
      · exact hc
      · have := len_lt hB hx hy (by omega)
        omega
    have htop := Rp.top hB hy hz
    have hT : (-1 + (nb.length : Int)).toNat = z + 1 := by omega
    have htl := hy.1.getD hB (z + 1)
    refine Halt.mk ?_
    rename Fr _ _ _ _ => F
    rename News _ _ _ _ => N
    rw [hT] at N
    refine use_int (bits_c (Cx.deeper (Cx.less C (by decide)) F) (by is_list) (.cons _ _ .nil) hw htop htl.2) F N ?_
    intro k1 tk9 h9 tk8 F N p19
    try k_fold
    obtain ⟨hk0, hk1, hk2⟩ := p19
    have hsh : 0 ≤ (W : Int) - k1 ∧ (W : Int) - k1 < W := by omega
    obtain ⟨d, hd⟩ : ∃ d : Nat, (W : Int) - k1 = d := ⟨((W : Int) - k1).toNat, by omega⟩
    have hdd : ((W : Int) - k1).toNat = d := by omega
    have hpd := pow_pos' (B := 2) (by decide) d
    have hpB : (2 : Int) ^ k1.toNat * 2 ^ d = 2 ^ W := by rw [← Int.pow_add]; congr 1; omega
    walk_at "m.steps"
    refine Halt.mk ?_
    rename Fr _ _ _ _ => F
    rename News _ _ _ _ => N
    refine use_list (shift_left_c (Cx.deeper (Cx.less C (by decide)) F) (by is_list) hib hw hsh.1 hsh.2 hy (by omega)) F N ?_
    intro lv wv nv ns h9 tk9 F N hIv hRv hNv
    rw [hdd] at hRv
    have hLv := school_len hB hy hz hk2 hpB hpd hRv
    walk_at "m.steps"
    refine Halt.mk ?_
    rename Fr _ _ _ _ => F
    rename News _ _ _ _ => N
    refine use_list (shift_left_c (Cx.deeper (Cx.less C (by decide)) F) (by is_list) hia hw hsh.1 hsh.2 hx (by omega)) F N ?_
    intro lr wr nr9 nr h9 tk9 F N hIr hRr hNr
    rw [hdd] at hRr
    have hLr := school_len2 hB hx hpB hpd (Int.le_of_lt (show 1 < (2:Int) ^ k1.toNat by have := pow_mono' (B := 2) (by decide) (show 1 ≤ k1.toNat by omega); omega)) hRr
    dsimp only [] at F N
    walk_at "m.steps"
    refine Halt.mk ?_
    rename Fr _ _ _ _ => F
    rename News _ _ _ _ => N
    rename IntsAre _ (nr ++ _) => hI5
    rename _ < _ ∧ _ < _ ∧ _ < _ ∧ _ < _ ∧ _ < _ => l5
    have em : ((na.length : Int) + 1 - nr.length).toNat = na.length + 1 - nr.length := by omega
    rw [em] at hI5
    have hvr : vl (2 ^ W) (nr ++ List.replicate (na.length + 1 - nr.length) 0) = x * 2 ^ d := by
      rw [vl_append, vl_replicate, hRr.2.2]; omega
    have hfl : (nr ++ List.replicate (na.length + 1 - nr.length) (0 : Int)).length = na.length + 1 := by
      rw [List.length_append, List.length_replicate]; omega
    have hlim : Lim (2 ^ W) (nr ++ List.replicate (na.length + 1 - nr.length) 0) := hRr.1.append (lim_replicate hB _)
    have hltX : x * 2 ^ d < y * 2 ^ d * (2 ^ W) ^ (na.length + 1 - (z + 2)) := by
      have h1 := hx.lt hB
      have h2 := hy.ge hB hnb0
      rw [hz, show z + 2 - 1 = z + 1 by omega] at h2
      have h3 : ((2 : Int) ^ W) ^ na.length = (2 ^ W) ^ (z + 1) * (2 ^ W) ^ (na.length + 1 - (z + 2)) := by rw [← Int.pow_add]; congr 1; omega
      have h4 : ((2 : Int) ^ W) ^ (z + 1) * (2 ^ W) ^ (na.length + 1 - (z + 2)) ≤ y * (2 ^ W) ^ (na.length + 1 - (z + 2)) := Int.mul_le_mul_of_nonneg_right h2 (Int.le_of_lt (pow_pos' hB _))
      have h5 : x * 2 ^ d < y * (2 ^ W) ^ (na.length + 1 - (z + 2)) * 2 ^ d := Int.mul_lt_mul_of_pos_right (by omega) hpd
      rw [Int.mul_right_comm]
      exact h5
    generalize nr ++ List.replicate (na.length + 1 - nr.length) (0 : Int) = fr0 at hI5 hvr hfl hlim
    refine useR (divide_rows_c (z := z) (Cx.deeper (Cx.less C (by decide)) (fr_hide F (Ne.symm (N (_, _) (List.Mem.head _)).2.1) (N (_, _) (List.Mem.head _)).2.2)) (N (_, _) (List.Mem.head _)).1 hI5 (isList_hide (l := lv) (its := wv.toArray) (by is_list) (by show @Ne Nat _ _; omega)) hIv hw hlim hRv.1 hLv.symm (Rp.top hB hRv hLv) (by omega) (by omega) (by rw [hvr, hRv.2.2, hfl, hLv]; exact hltX)) F N ?_ ?_
    · intro p hp
      simp only [List.mem_cons, List.not_mem_nil, or_false] at hp
      rcases hp with rfl | rfl | rfl | rfl | rfl <;> (show @Ne Nat _ _; omega)
    intro r ws n nr' wq nq qn h9 tk9 F N hIr' hIq ⟨hL1, hL2, ⟨hlen', hlq⟩, hsum, hlt'⟩
    rw [hvr, hRv.2.2] at hsum
    rw [hRv.2.2] at hlt'
    have hqr := school_div hpd hy0 (vl_nonneg hB hL1) hlt' hsum
    have hqn : qn.length < 1000 := by omega
    walk_at "m.steps"
    refine Halt.mk ?_
    rename Fr _ _ _ _ => F
    rename News _ _ _ _ => N
    refine use_list (normal_c (Cx.deeper (Cx.less C (by decide)) F) (by is_list) hIq hqn) F N ?_
    intro r1 w1 n1 nq1 h9 tk9 F N hI1 hR1 hN1
    have hQ := hR1.rp hL2
    rw [hqr.1] at hQ
    walk_at "m.steps"
    refine Halt.mk ?_
    rename Fr _ _ _ _ => F
    rename News _ _ _ _ => N
    refine use_list (normal_c (Cx.deeper (Cx.less C (by decide)) F) (by is_list) hIr' (by omega)) F N ?_
    intro r2 w2 n2 nq2 h9 tk9 F N hI2 hR2 hN2
    have hlen2 : nq2.length < 1000 := by
      obtain ⟨kk, hkk, rfl, _⟩ := hR2
      rw [List.length_take]; omega
    have hRem := hR2.rp hL1
    walk_at "m.steps"
    refine Halt.mk ?_
    rename Fr _ _ _ _ => F
    rename News _ _ _ _ => N
    refine use_list (shift_right_c (Cx.deeper (Cx.less C (by decide)) F) (by is_list) hI2 hw hsh.1 hsh.2 hRem hlen2) F N ?_
    intro r3 w3 n3 nq3 h9 tk9 F N hI3 hR3 hN3
    rw [hdd, hqr.2] at hR3
    walk_at "m.steps"
    rename Fr _ _ _ _ => F
    rename News _ _ _ _ => N
    exact ret_ll F N (by k_mem) (by k_mem) (by k_mem) hI1 hI3 ⟨hQ, hR3⟩
end

/-! Fdoubled -/
section
local macro_rules | `(tactic| walk_at "call ref") => `(tactic| refine halted ?_)



theorem doubled_pair_c {w : World} {A : Around} {s : Shared} {E : Value → Shared → Prop} {p pa pb : Addr} {va vb : List Value} {na nb : List Int} {W : Nat} {tw : Tok} {n : Nat}
    (C : Cx w A s.heap 3) (hp : IsTup s.heap p #[.ref pa, .ref pb]) (hla : s.heap.IsList pa va.toArray) (hia : IntsAre va na) (hlb : s.heap.IsList pb vb.toArray) (hib : IntsAre vb nb) (hw' : 5 < W ∧ W < 20) (hx : Rp (2 ^ W) na (fb n)) (hy : Rp (2 ^ W) nb (fb (n + 1))) (hn : n < 41) :
    wpAny (model PySem.Challenge.rw_sj0077_01.row.prog w) A (call (.ref 121) [.ref p, .int W tw, .ref 135]) (Post1 s (RetLL s.heap (fun nq nr => Rp (2 ^ W) nq (fb (2 * n)) ∧ Rp (2 ^ W) nr (fb (2 * n + 1))))) E s := by
  obtain ⟨hd0, dp, fr, gd, un⟩ := A
  obtain rfl : hd0 = none := C.calm
  have KX := C.kin
  walk_at "m.fill"
  obtain ⟨mean, mg, mb, T⟩ := C.top
  refine' enter (f := 121) (binds := [(Str.ofString "pair", .ref p), (Str.ofString "w", .int W tw), (Str.ofString "mul", .ref 135)]) C ?k1 ?k2 ?k3 ?k4 ?_ ?k5 ?k6 ?k7 ?k8 ?e1 ?e2 ?e3
  walk_at "m.enter"
  intro L h₁ F N
  try dsimp only
  have hw : 0 < W ∧ W < 20 := by omega
  have hB : (0 : Int) < 2 ^ W := Int.pow_pos (by decide)
  have hB1 : (1 : Int) < 2 ^ W := by have := pow_mono' (B := 2) (by decide) (show 1 ≤ W by omega); omega
  have hBb : (2 : Int) ^ W ≤ 2 ^ 19 := pow_mono' (by decide) (by omega)
  have bx := fb_lt n (by omega)
  have by' := fb_lt (n + 1) (by omega)
  have hm := fb_mono n
  have h0 := fb_nonneg n
  have hna := rp_len hw.1 hx bx
  have hnb := rp_len hw.1 hy by'
  walk_at "m.steps"
  refine Halt.mk ?_
  rename Fr _ _ _ _ => F
  rename News _ _ _ _ => N
  refine use_list (shift_left_c (Cx.deeper (Cx.less C (by decide)) F) (by is_list) hib hw (by omega) (by omega) hy (by omega)) F N ?_
  intro l1 w1 n1 z1 h9 tk9 F N I1 R1 D1
  rw [show (2 : Int) ^ Int.toNat 1 = 2 from rfl] at R1
  have q1 := rp_len (k := 46) hw.1 R1 (by omega)
  walk_at "m.steps"
  refine Halt.mk ?_
  rename Fr _ _ _ _ => F
  rename News _ _ _ _ => N
  refine use_list (sub_c (Cx.deeper (Cx.less C (by decide)) F) (by is_list) I1 (by is_list) hia hw R1 hx (by omega) (by omega) (by omega)) F N ?_
  intro l2 w2 n2 z2 h9 tk9 F N I2 R2 D2
  have q2 := rp_len (k := 46) hw.1 R2 (by omega)
  walk_at "m.steps"
  refine Halt.mk ?_
  rename Fr _ _ _ _ => F
  rename News _ _ _ _ => N
  refine use_list (mul_c (Cx.deeper (Cx.less C (by decide)) F) (by is_list) hia (by is_list) I2 hw hx R2 (by omega) (by omega)) F N ?_
  intro l3 w3 n3 z3 h9 tk9 F N I3 R3 D3
  rw [fb_double] at R3
  walk_at "m.steps"
  refine Halt.mk ?_
  rename Fr _ _ _ _ => F
  rename News _ _ _ _ => N
  refine use_list (mul_c (Cx.deeper (Cx.less C (by decide)) F) (by is_list) hia (by is_list) hia hw hx hx (by omega) (by omega)) F N ?_
  intro l4 w4 n4 z4 h9 tk9 F N I4 R4 D4
  have q4 := rp_len hw.1 R4 (mul_lt h0 bx h0 bx)
  walk_at "m.steps"
  refine Halt.mk ?_
  rename Fr _ _ _ _ => F
  rename News _ _ _ _ => N
  refine use_list (mul_c (Cx.deeper (Cx.less C (by decide)) F) (by is_list) hib (by is_list) hib hw hy hy (by omega) (by omega)) F N ?_
  intro l5 w5 n5 z5 h9 tk9 F N I5 R5 D5
  have q5 := rp_len hw.1 R5 (mul_lt (fb_nonneg _) by' (fb_nonneg _) by')
  walk_at "m.steps"
  refine Halt.mk ?_
  rename Fr _ _ _ _ => F
  rename News _ _ _ _ => N
  refine use_list (add_c (Cx.deeper (Cx.less C (by decide)) F) (by is_list) I4 (by is_list) I5 hw R4 R5 (by omega) (by omega)) F N ?_
  intro l6 w6 n6 z6 h9 tk9 F N I6 R6 D6
  rw [fb_double1] at R6
  walk_at "m.steps"
  rename Fr _ _ _ _ => F
  rename News _ _ _ _ => N
  exact ret_ll F N (by k_mem) (by k_mem) (by k_mem) I3 I6 ⟨R3, R6⟩
end

/-! Ffib -/
section
local macro_rules | `(tactic| walk_at "call ref") => `(tactic| refine halted ?_)



theorem news_sub {h₀ h : Heap} {L : Addr} {l news : List (Addr × Obj)} (N : News h₀ L h news) (hi : ∀ p ∈ l, p ∈ news) : News h₀ L h l := fun p hp => N p (hi p hp)
theorem bit_of {n k : Nat} : Builtin.bitAnd ((n : Int).fdiv (2 ^ (k : Int).toNat)) 1 = ((n / 2 ^ k % 2 : Nat) : Int) := by
  have h := and_mask (x := (n : Int) / 2 ^ k) (Int.ediv_nonneg (by omega) (Int.le_of_lt (Int.pow_pos (by decide)))) 1
  rw [shr_]
  have e : (1 : Int) * 2 ^ ((1 : Nat) : Int).toNat - 1 = 1 := by decide
  rw [e] at h
  rw [h, two_pow_cast]
  simp

theorem fibonacci_pair_c {w : World} {A : Around} {s : Shared} {E : Value → Shared → Prop} {W : Nat} {tw tn : Tok} {n : Nat}
    (C : Cx w A s.heap 4) (hw' : 5 < W ∧ W < 20) (hn : n < 41) :
    wpAny (model PySem.Challenge.rw_sj0077_01.row.prog w) A (call (.ref 128) [.int n tn, .int W tw, .ref 135]) (Post1 s (RetLL s.heap (fun nq nr => Rp (2 ^ W) nq (fb n) ∧ Rp (2 ^ W) nr (fb (n + 1))))) E s := by
  obtain ⟨hd0, dp, fr, gd, un⟩ := A
  obtain rfl : hd0 = none := C.calm
  have KX := C.kin
  walk_at "m.fill"
  obtain ⟨mean, mg, mb, T⟩ := C.top
  refine' enter (f := 128) (binds := [(Str.ofString "n", .int n tn), (Str.ofString "w", .int W tw), (Str.ofString "mul", .ref 135)]) C ?k1 ?k2 ?k3 ?k4 ?_ ?k5 ?k6 ?k7 ?k8 ?e1 ?e2 ?e3
  walk_at "m.enter"
  intro L h₁ F N
  try dsimp only
  have hw : 0 < W ∧ W < 20 := by omega
  have hB : (0 : Int) < 2 ^ W := Int.pow_pos (by decide)
  have hB1 : (1 : Int) < 2 ^ W := by have := pow_mono' (B := 2) (by decide) (show 1 ≤ W by omega); omega
  have hBb : (2 : Int) ^ W ≤ 2 ^ 19 := pow_mono' (by decide) (by omega)
  have hb1 : n < 2 ^ Builtin.Int.intBits (n : Int) := by simpa using intBits_le_iff.mp (Nat.le_refl (Builtin.Int.intBits (n : Int)))
  have hb2 : Builtin.Int.intBits (n : Int) ≤ 6 := intBits_le_iff.mpr (by simp; omega)
  walk_at "m.steps"
  refine Halt.mk ?_
  rename Fr _ _ _ _ => F
  rename News _ _ _ _ => N
  refine use_none (need_count_c (Cx.deeper (Cx.less C (by decide)) F) (by omega)) F N ?_
  intro h9 tk9 F N
  walk_at "m.steps"
  refine Halt.mk ?_
  rename Fr _ _ _ _ => F
  rename News _ _ _ _ => N
  refine' whl_ (σ := (Addr × Addr × Addr) × (List Value × List Value × Nat × Nat) × (List Int × List Int) × (Nat × Tok)) (fun c => [(c.1.1, tupO #[.ref c.1.2.1, .ref c.1.2.2]), (c.1.2.1, listOf c.2.1.1.toArray c.2.1.2.2.1), (c.1.2.2, listOf c.2.1.2.1.toArray c.2.1.2.2.2)]) (fun c => [(Str.ofString "pair", .ref c.1.1), (Str.ofString "at", .int ((c.2.2.2.1 : Int) - 1) c.2.2.2.2), (Str.ofString "n", .int n tn), (Str.ofString "w", .int W tw), (Str.ofString "mul", .ref 135)])
    (fun c => IntsAre c.2.1.1 c.2.2.1.1 ∧ IntsAre c.2.1.2.1 c.2.2.1.2 ∧ Rp (2 ^ W) c.2.2.1.1 (fb (n / 2 ^ c.2.2.2.1)) ∧ Rp (2 ^ W) c.2.2.1.2 (fb (n / 2 ^ c.2.2.2.1 + 1)) ∧ c.2.2.2.1 ≤ 6) (fun c => c.2.2.2.1) ((_, _, _), ([], [.int 1 _], 0, 0), ([], [1]), (Builtin.Int.intBits (n : Int), _)) F ?N ?k1 ?k2 ?turn
  case k1 => walk_at "m.all"
  case N =>
    refine' news_sub N ?ins
    case ins => walk_at "m.ins"
  case k2 =>
    refine ⟨.nil, .cons _ _ .nil, ?_, ?_, hb2⟩
    · show Rp (2 ^ W) [] (fb (n / 2 ^ Builtin.Int.intBits (n : Int)))
      rw [Nat.div_eq_of_lt hb1]
      exact Rp.zero
    · show Rp (2 ^ W) [1] (fb (n / 2 ^ Builtin.Int.intBits (n : Int) + 1))
      rw [Nat.div_eq_of_lt hb1]
      exact Rp.one (by decide) hB1
  case turn =>
    clear F N
    rintro ⟨⟨p, a, b⟩, ⟨wa, wb, n1, n2⟩, ⟨na, nb⟩, ⟨j, t⟩⟩ u h tk ⟨hIa, hIb, hRa, hRb, hj⟩ F N
    dsimp only [] at F N hIa hIb hRa hRb hj ⊢
    match j, hj, hRa, hRb, F with
    | 0, hj, hRa, hRb, F =>
      walk_at "m.steps"
      rename Fr _ _ _ _ => F
      rename News _ _ _ _ => N
      rw [Nat.pow_zero, Nat.div_one] at hRa hRb
      exact ret_ll F N (by k_mem) (by k_mem) (by k_mem) hIa hIb ⟨hRa, hRb⟩
    | k + 1, hj, hRa, hRb, F =>
      have hat : ((k + 1 : Nat) : Int) - 1 = (k : Int) := by omega
      rw [hat] at F
      have hm : n / 2 ^ k / 2 = n / 2 ^ (k + 1) := by rw [Nat.div_div_eq_div_mul, Nat.pow_succ]
      have hmn : n / 2 ^ (k + 1) ≤ n / 2 := by rw [Nat.pow_succ, Nat.mul_comm, ← Nat.div_div_eq_div_mul]; exact Nat.div_le_self _ _
      walk_at "m.steps"
      refine Halt.mk ?_
      rename Fr _ _ _ _ => F
      rename News _ _ _ _ => N
      refine use_ll (doubled_pair_c (Cx.deeper (Cx.less C (by decide)) F) (News.isTup N (by k_mem)) (by is_list) hIa (by is_list) hIb hw' hRa hRb (by omega)) F N ?_
      intro p1 a1 b1 wa1 wb1 n3 n4 na1 nb1 h9 tk9 F N hI1 hI2 ⟨hR1, hR2⟩
      have bx := rp_len hw.1 hR1 (fb_lt _ (by omega))
      have by' := rp_len hw.1 hR2 (fb_lt _ (by omega))
      walk_at "m.steps"
      · have hbit : Builtin.bitAnd ((n : Int).fdiv (2 ^ (k : Int).toNat)) 1 = 1 := by assumption
        rw [bit_of] at hbit
        have h2 : n / 2 ^ k = 2 * (n / 2 ^ (k + 1)) + 1 := by omega
        have h3 : n / 2 ^ k + 1 = 2 * (n / 2 ^ (k + 1)) + 2 := by omega
        refine Halt.mk ?_
        rename Fr _ _ _ _ => F
        rename News _ _ _ _ => N
        refine use_list (add_c (Cx.deeper (Cx.less C (by decide)) F) (by is_list) hI1 (by is_list) hI2 hw hR1 hR2 (by omega) (by omega)) F N ?_
        intro l1 w1 n5 z1 h9 tk9 F N hI3 hR3 hD
        rw [← fb_two, ← h3] at hR3
        rw [← h2] at hR2
        walk_at "m.steps"
        rename Fr _ _ _ _ => F
        rename News _ _ _ _ => N
        refine' TEF.next (TE.intro ((_, _, _), (_, _, _, _), (nb1, z1), (k, _)) ?te11 ?te21 ?te31 ?te41 ?te51 ?te61)
        case te11 => exact F
        case te21 => exact N
        case te31 => walk_at "m.ins"
        case te41 => walk_at "m.own"
        case te51 => walk_at "m.all"
        case te61 =>
          exact ⟨⟨hI2, hI3, hR2, hR3, by show k ≤ 6; omega⟩, Nat.lt_succ_self k⟩
      · have hbit : Builtin.bitAnd ((n : Int).fdiv (2 ^ (k : Int).toNat)) 1 ≠ 1 := by assumption
        rw [bit_of] at hbit
        have h2 : n / 2 ^ k = 2 * (n / 2 ^ (k + 1)) := by omega
        rw [← h2] at hR1 hR2
        rename Fr _ _ _ _ => F
        rename News _ _ _ _ => N
        refine' TEF.next (TE.intro ((_, _, _), (_, _, _, _), (na1, nb1), (k, _)) ?te12 ?te22 ?te32 ?te42 ?te52 ?te62)
        case te12 => exact F
        case te22 => exact N
        case te32 => walk_at "m.ins"
        case te42 => walk_at "m.own"
        case te52 => walk_at "m.all"
        case te62 =>
          exact ⟨⟨hI1, hI2, hR1, hR2, by show k ≤ 6; omega⟩, Nat.lt_succ_self k⟩
end

/-! Fsummed -/
section
local macro_rules | `(tactic| walk_at "call ref") => `(tactic| refine halted ?_)



theorem summed_c {w : World} {A : Around} {s : Shared} {E : Value → Shared → Prop} {p q : Addr} {W : Nat} {tw : Tok} {n m : Nat} {P : Addr → Prop}
    (C : Cx w A s.heap 3) (hp : IsPr W P s.heap p n) (hq : IsPr W P s.heap q m) (hw' : 5 < W ∧ W < 20) (hn : n + m < 41) :
    wpAny (model PySem.Challenge.rw_sj0077_01.row.prog w) A (call (.ref 191) [.ref p, .ref q, .int W tw]) (Post1 s (RetLL s.heap (fun nq nr => Rp (2 ^ W) nq (fb (n + m)) ∧ Rp (2 ^ W) nr (fb (n + m + 1))))) E s := by
  obtain ⟨hd0, dp, fr, gd, un⟩ := A
  obtain rfl : hd0 = none := C.calm
  have KX := C.kin
  walk_at "m.fill"
  obtain ⟨mean, mg, mb, T⟩ := C.top
  refine' enter (f := 191) (binds := [(Str.ofString "one", .ref p), (Str.ofString "other", .ref q), (Str.ofString "w", .int W tw)]) C ?k1 ?k2 ?k3 ?k4 ?_ ?k5 ?k6 ?k7 ?k8 ?e1 ?e2 ?e3
  walk_at "m.enter"
  intro L h₁ F N
  try dsimp only
  have hw : 0 < W ∧ W < 20 := by omega
  have hB : (0 : Int) < 2 ^ W := Int.pow_pos (by decide)
  have hB1 : (1 : Int) < 2 ^ W := by have := pow_mono' (B := 2) (by decide) (show 1 ≤ W by omega); omega
  have hBb : (2 : Int) ^ W ≤ 2 ^ 19 := pow_mono' (by decide) (by omega)
  obtain ⟨pa, pb, va, vb, na, nb, tp, la, lb, ia, ib, ra, rb, -⟩ := hp
  obtain ⟨qa, qb, wa, wb, ma, mb', tq, ka, kb, ja, jb, ta, tb, -⟩ := hq
  have b1 := fb_lt n (by omega)
  have b2 := fb_lt (n + 1) (by omega)
  have b3 := fb_lt m (by omega)
  have b4 := fb_lt (m + 1) (by omega)
  have c1 := fb_nonneg n
  have c2 := fb_nonneg (n + 1)
  have c3 := fb_nonneg m
  have c4 := fb_nonneg (m + 1)
  have hm := fb_mono n
  have y1 := rp_len hw.1 ra b1
  have y2 := rp_len hw.1 rb b2
  have y3 := rp_len hw.1 ta b3
  have y4 := rp_len hw.1 tb b4
  walk_at "m.steps"
  refine Halt.mk ?_
  rename Fr _ _ _ _ => F
  rename News _ _ _ _ => N
  refine use_list (sub_c (Cx.deeper (Cx.less C (by decide)) F) (by is_list) ib (by is_list) ia hw rb ra (by omega) (by omega) (by omega)) F N ?_
  intro l1 w1 n1 z1 h9 tk9 F N I1 R1 D1
  have q1 := rp_len (k := 46) hw.1 R1 (by omega)
  walk_at "m.steps"
  refine Halt.mk ?_
  rename Fr _ _ _ _ => F
  rename News _ _ _ _ => N
  refine use_list (mul_c (Cx.deeper (Cx.less C (by decide)) F) (by is_list) ia (by is_list) jb hw ra tb (by omega) (by omega)) F N ?_
  intro l2 w2 n2 z2 h9 tk9 F N I2 R2 D2
  have q2 := rp_len hw.1 R2 (mul_lt c1 b1 c4 b4)
  walk_at "m.steps"
  refine Halt.mk ?_
  rename Fr _ _ _ _ => F
  rename News _ _ _ _ => N
  refine use_list (mul_c (Cx.deeper (Cx.less C (by decide)) F) (by is_list) I1 (by is_list) ja hw R1 ta (by omega) (by omega)) F N ?_
  intro l3 w3 n3 z3 h9 tk9 F N I3 R3 D3
  have q3 := rp_len hw.1 R3 (mul_lt (a := 45) (by omega) (by omega) c3 b3)
  walk_at "m.steps"
  refine Halt.mk ?_
  rename Fr _ _ _ _ => F
  rename News _ _ _ _ => N
  refine use_list (add_c (Cx.deeper (Cx.less C (by decide)) F) (by is_list) I2 (by is_list) I3 hw R2 R3 (by omega) (by omega)) F N ?_
  intro l4 w4 n4 z4 h9 tk9 F N I4 R4 D4
  rw [fb_sum] at R4
  walk_at "m.steps"
  refine Halt.mk ?_
  rename Fr _ _ _ _ => F
  rename News _ _ _ _ => N
  refine use_list (mul_c (Cx.deeper (Cx.less C (by decide)) F) (by is_list) ib (by is_list) jb hw rb tb (by omega) (by omega)) F N ?_
  intro l5 w5 n5 z5 h9 tk9 F N I5 R5 D5
  have q5 := rp_len hw.1 R5 (mul_lt c2 b2 c4 b4)
  walk_at "m.steps"
  refine Halt.mk ?_
  rename Fr _ _ _ _ => F
  rename News _ _ _ _ => N
  refine use_list (mul_c (Cx.deeper (Cx.less C (by decide)) F) (by is_list) ia (by is_list) ja hw ra ta (by omega) (by omega)) F N ?_
  intro l6 w6 n6 z6 h9 tk9 F N I6 R6 D6
  have q6 := rp_len hw.1 R6 (mul_lt c1 b1 c3 b3)
  walk_at "m.steps"
  refine Halt.mk ?_
  rename Fr _ _ _ _ => F
  rename News _ _ _ _ => N
  refine use_list (add_c (Cx.deeper (Cx.less C (by decide)) F) (by is_list) I5 (by is_list) I6 hw R5 R6 (by omega) (by omega)) F N ?_
  intro l7 w7 n7 z7 h9 tk9 F N I7 R7 D7
  rw [← fb_add] at R7
  walk_at "m.steps"
  rename Fr _ _ _ _ => F
  rename News _ _ _ _ => N
  exact ret_ll F N (by k_mem) (by k_mem) (by k_mem) I4 I7 ⟨R4, R7⟩
end

end

/-! Fapart -/
section
local macro_rules | `(tactic| walk_at "call ref") => `(tactic| refine halted ?_)



theorem apart_c {w : World} {A : Around} {s : Shared} {E : Value → Shared → Prop} {p q : Addr} {W : Nat} {tw : Tok} {k m : Nat} {P : Addr → Prop} {o : Bool}
    (C : Cx w A s.heap 3) (hp : IsPr W P s.heap p (m + k)) (hq : IsPr W P s.heap q m) (hw' : 5 < W ∧ W < 20) (hn : m + k < 41) (ho : o = decide (m % 2 = 1)) :
    wpAny (model PySem.Challenge.rw_sj0077_01.row.prog w) A (call (.ref 198) [.ref p, .ref q, .bool o, .int W tw]) (Post1 s (RetLL s.heap (fun nq nr => Rp (2 ^ W) nq (fb k) ∧ Rp (2 ^ W) nr (fb (k + 1))))) E s := by
  obtain ⟨hd0, dp, fr, gd, un⟩ := A
  obtain rfl : hd0 = none := C.calm
  have KX := C.kin
  walk_at "m.fill"
  obtain ⟨mean, mg, mb, T⟩ := C.top
  refine' enter (f := 198) (binds := [(Str.ofString "far", .ref p), (Str.ofString "near", .ref q), (Str.ofString "is_odd", .bool o), (Str.ofString "w", .int W tw)]) C ?k1 ?k2 ?k3 ?k4 ?_ ?k5 ?k6 ?k7 ?k8 ?e1 ?e2 ?e3
  walk_at "m.enter"
  intro L h₁ F N
  try dsimp only
  have hw : 0 < W ∧ W < 20 := by omega
  obtain ⟨pa, pb, va, vb, na, nb, tp, la, lb, ia, ib, ra, rb, -⟩ := hp
  obtain ⟨qa, qb, wa, wb, ma, mb', tq, ka, kb, ja, jb, ta, tb, -⟩ := hq
  have b1 : Halt _ := ⟨fb_lt (m + k) (by omega)⟩
  have b2 : Halt _ := ⟨fb_lt (m + k + 1) (by omega)⟩
  have b3 : Halt _ := ⟨fb_lt m (by omega)⟩
  have b4 : Halt _ := ⟨fb_lt (m + 1) (by omega)⟩
  have b5 : Halt _ := ⟨fb_lt (m + k + 2) (by omega)⟩
  have c1 : Halt _ := ⟨fb_nonneg (m + k)⟩
  have c2 : Halt _ := ⟨fb_nonneg (m + k + 1)⟩
  have c3 : Halt _ := ⟨fb_nonneg m⟩
  have c4 : Halt _ := ⟨fb_nonneg (m + 1)⟩
  have c5 : Halt _ := ⟨fb_nonneg (m + k + 2)⟩
  have y1 : Halt _ := ⟨rp9 hw.1 ra b1.out⟩
  have y2 : Halt _ := ⟨rp9 hw.1 rb b2.out⟩
  have y3 : Halt _ := ⟨rp9 hw.1 ta b3.out⟩
  have y4 : Halt _ := ⟨rp9 hw.1 tb b4.out⟩
  have hw9 : Halt _ := ⟨hw⟩
  refine wpAny_execs_cons ?_
  refine seq_ (h₀ := s.heap) (L := L) (s := s) (σ := Addr) (fun c => [(c, listOf #[] 0)]) (fun c => [(Str.ofString "found", .ref c), (Str.ofString "far", .ref p), (Str.ofString "near", .ref q), (Str.ofString "is_odd", .bool o), (Str.ofString "w", .int W tw)]) (fun _ => True) ?_ ?_
  · walk_at "m.steps"
    rename Fr _ _ _ _ => F
    rename News _ _ _ _ => N
    refine' NX.intro _ ?te11 ?te21 ?te31 ?te51 ?te61
    case te11 => exact F
    case te21 => exact N
    case te31 => walk_at "m.ins"
    case te51 => walk_at "m.all"
    case te61 =>
      trivial
  clear F N
  rintro lf u h tk - F N
  dsimp only [] at F N ⊢
  rcases Nat.mod_two_eq_zero_or_one m with hodd | hodd
  · have e0 : Halt _ := ⟨fb_apart_even k m hodd⟩
    have e1 : Halt _ := ⟨fb_apart_even (k + 1) m hodd⟩
    rw [show m + (k + 1) = m + k + 1 by omega] at e1
    obtain rfl : o = false := by rw [ho, hodd]; rfl
    clear hw hw' hn hodd ho
    walk_at "m.steps"
    refine Halt.mk ?_
    rename Fr _ _ _ _ => F
    rename News _ _ _ _ => N
    refine use_list (add_c (Cx.deeper (Cx.less C (by decide)) F) (by is_list) ia (by is_list) ib hw9.out ra rb (lt10 y1.out) (lt10 y2.out)) F N ?_
    intro l1 w1 n1 z1 h9 tk9 F N I1 R1 D1
    have D1lf : @Ne Nat lf l1 := D1.of (by k_mem)
    clear D1
    rw [← fb_two] at R1
    have q1 : Halt _ := ⟨rp9 hw9.out.1 R1 b5.out⟩
    walk_at "m.steps"
    refine Halt.mk ?_
    rename Fr _ _ _ _ => F
    rename News _ _ _ _ => N
    refine use_list (mul_c (Cx.deeper (Cx.less C (by decide)) F) (by is_list) ia (by is_list) jb hw9.out ra tb (lt4 y1.out) (lt4 y4.out)) F N ?_
    intro l2 w2 n2 z2 h9 tk9 F N I2 R2 D2
    have D2lf : @Ne Nat lf l2 := D2.of (by k_mem)
    clear D2
    have q2 : Halt _ := ⟨rp9 hw9.out.1 R2 (mul_lt c1.out b1.out c4.out b4.out)⟩
    walk_at "m.steps"
    refine Halt.mk ?_
    rename Fr _ _ _ _ => F
    rename News _ _ _ _ => N
    refine use_list (mul_c (Cx.deeper (Cx.less C (by decide)) F) (by is_list) ib (by is_list) ja hw9.out rb ta (lt4 y2.out) (lt4 y3.out)) F N ?_
    intro l3 w3 n3 z3 h9 tk9 F N I3 R3 D3
    have D3lf : @Ne Nat lf l3 := D3.of (by k_mem)
    clear D3
    have q3 : Halt _ := ⟨rp9 hw9.out.1 R3 (mul_lt c2.out b2.out c3.out b3.out)⟩
    walk_at "m.steps"
    refine Halt.mk ?_
    rename Fr _ _ _ _ => F
    rename News _ _ _ _ => N
    refine use_list (sub_c (Cx.deeper (Cx.less C (by decide)) F) (by is_list) I2 (by is_list) I3 hw9.out R2 R3 e0.out.2 (lt10 q2.out) (lt10 q3.out)) F N ?_
    intro l4 w4 n4 z4 h9 tk9 F N I4 R4 D4
    have D4lf : @Ne Nat lf l4 := D4.of (by k_mem)
    clear D4
    rw [e0.out.1] at R4
    walk_at "m.steps"
    refine Halt.mk ?_
    rename Fr _ _ _ _ => F
    rename News _ _ _ _ => N
    refine use_list (mul_c (Cx.deeper (Cx.less C (by decide)) F) (by is_list) ib (by is_list) jb hw9.out rb tb (lt4 y2.out) (lt4 y4.out)) F N ?_
    intro l5 w5 n5 z5 h9 tk9 F N I5 R5 D5
    have D5lf : @Ne Nat lf l5 := D5.of (by k_mem)
    clear D5
    have q5 : Halt _ := ⟨rp9 hw9.out.1 R5 (mul_lt c2.out b2.out c4.out b4.out)⟩
    walk_at "m.steps"
    refine Halt.mk ?_
    rename Fr _ _ _ _ => F
    rename News _ _ _ _ => N
    refine use_list (mul_c (Cx.deeper (Cx.less C (by decide)) F) (by is_list) I1 (by is_list) ja hw9.out R1 ta (lt4 q1.out) (lt4 y3.out)) F N ?_
    intro l6 w6 n6 z6 h9 tk9 F N I6 R6 D6
    have D6lf : @Ne Nat lf l6 := D6.of (by k_mem)
    clear D6
    have q6 : Halt _ := ⟨rp9 hw9.out.1 R6 (mul_lt c5.out b5.out c3.out b3.out)⟩
    walk_at "m.steps"
    refine Halt.mk ?_
    rename Fr _ _ _ _ => F
    rename News _ _ _ _ => N
    refine use_list (sub_c (Cx.deeper (Cx.less C (by decide)) F) (by is_list) I5 (by is_list) I6 hw9.out R5 R6 e1.out.2 (lt10 q5.out) (lt10 q6.out)) F N ?_
    intro l7 w7 n7 z7 h9 tk9 F N I7 R7 D7
    have D7lf : @Ne Nat lf l7 := D7.of (by k_mem)
    clear D7
    rw [e1.out.1] at R7
    walk_at "m.steps"
    rename Fr _ _ _ _ => F
    rename News _ _ _ _ => N
    exact ret_ll F N (by k_mem) (by k_mem) (by k_mem) I4 I7 ⟨R4, R7⟩
  · have e0 : Halt _ := ⟨fb_apart_odd k m hodd⟩
    have e1 : Halt _ := ⟨fb_apart_odd (k + 1) m hodd⟩
    rw [show m + (k + 1) = m + k + 1 by omega] at e1
    obtain rfl : o = true := by rw [ho, hodd]; rfl
    clear hw hw' hn hodd ho
    walk_at "m.steps"
    refine Halt.mk ?_
    rename Fr _ _ _ _ => F
    rename News _ _ _ _ => N
    refine use_list (add_c (Cx.deeper (Cx.less C (by decide)) F) (by is_list) ia (by is_list) ib hw9.out ra rb (lt10 y1.out) (lt10 y2.out)) F N ?_
    intro l1 w1 n1 z1 h9 tk9 F N I1 R1 D1
    have D1lf : @Ne Nat lf l1 := D1.of (by k_mem)
    clear D1
    rw [← fb_two] at R1
    have q1 : Halt _ := ⟨rp9 hw9.out.1 R1 b5.out⟩
    walk_at "m.steps"
    refine Halt.mk ?_
    rename Fr _ _ _ _ => F
    rename News _ _ _ _ => N
    refine use_list (mul_c (Cx.deeper (Cx.less C (by decide)) F) (by is_list) ia (by is_list) jb hw9.out ra tb (lt4 y1.out) (lt4 y4.out)) F N ?_
    intro l2 w2 n2 z2 h9 tk9 F N I2 R2 D2
    have D2lf : @Ne Nat lf l2 := D2.of (by k_mem)
    clear D2
    have q2 : Halt _ := ⟨rp9 hw9.out.1 R2 (mul_lt c1.out b1.out c4.out b4.out)⟩
    walk_at "m.steps"
    refine Halt.mk ?_
    rename Fr _ _ _ _ => F
    rename News _ _ _ _ => N
    refine use_list (mul_c (Cx.deeper (Cx.less C (by decide)) F) (by is_list) ib (by is_list) ja hw9.out rb ta (lt4 y2.out) (lt4 y3.out)) F N ?_
    intro l3 w3 n3 z3 h9 tk9 F N I3 R3 D3
    have D3lf : @Ne Nat lf l3 := D3.of (by k_mem)
    clear D3
    have q3 : Halt _ := ⟨rp9 hw9.out.1 R3 (mul_lt c2.out b2.out c3.out b3.out)⟩
    walk_at "m.steps"
    refine Halt.mk ?_
    rename Fr _ _ _ _ => F
    rename News _ _ _ _ => N
    refine use_list (sub_c (Cx.deeper (Cx.less C (by decide)) F) (by is_list) I3 (by is_list) I2 hw9.out R3 R2 e0.out.2 (lt10 q3.out) (lt10 q2.out)) F N ?_
    intro l4 w4 n4 z4 h9 tk9 F N I4 R4 D4
    have D4lf : @Ne Nat lf l4 := D4.of (by k_mem)
    clear D4
    rw [e0.out.1] at R4
    walk_at "m.steps"
    refine Halt.mk ?_
    rename Fr _ _ _ _ => F
    rename News _ _ _ _ => N
    refine use_list (mul_c (Cx.deeper (Cx.less C (by decide)) F) (by is_list) ib (by is_list) jb hw9.out rb tb (lt4 y2.out) (lt4 y4.out)) F N ?_
    intro l5 w5 n5 z5 h9 tk9 F N I5 R5 D5
    have D5lf : @Ne Nat lf l5 := D5.of (by k_mem)
    clear D5
    have q5 : Halt _ := ⟨rp9 hw9.out.1 R5 (mul_lt c2.out b2.out c4.out b4.out)⟩
    walk_at "m.steps"
    refine Halt.mk ?_
    rename Fr _ _ _ _ => F
    rename News _ _ _ _ => N
    refine use_list (mul_c (Cx.deeper (Cx.less C (by decide)) F) (by is_list) I1 (by is_list) ja hw9.out R1 ta (lt4 q1.out) (lt4 y3.out)) F N ?_
    intro l6 w6 n6 z6 h9 tk9 F N I6 R6 D6
    have D6lf : @Ne Nat lf l6 := D6.of (by k_mem)
    clear D6
    have q6 : Halt _ := ⟨rp9 hw9.out.1 R6 (mul_lt c5.out b5.out c3.out b3.out)⟩
    walk_at "m.steps"
    refine Halt.mk ?_
    rename Fr _ _ _ _ => F
    rename News _ _ _ _ => N
    refine use_list (sub_c (Cx.deeper (Cx.less C (by decide)) F) (by is_list) I6 (by is_list) I5 hw9.out R6 R5 e1.out.2 (lt10 q6.out) (lt10 q5.out)) F N ?_
    intro l7 w7 n7 z7 h9 tk9 F N I7 R7 D7
    have D7lf : @Ne Nat lf l7 := D7.of (by k_mem)
    clear D7
    rw [e1.out.1] at R7
    walk_at "m.steps"
    rename Fr _ _ _ _ => F
    rename News _ _ _ _ => N
    exact ret_ll F N (by k_mem) (by k_mem) (by k_mem) I4 I7 ⟨R4, R7⟩
end

section
local macro_rules | `(tactic| walk_at "pyIter ref") => `(tactic| refine halted ?_)

/-! Fhopped -/
section
local macro_rules | `(tactic| walk_at "m.other0") => `(tactic| skip)


theorem hopped_c {w : World} {A : Around} {s : Shared} {E : Value → Shared → Prop} {ra st : Addr} {vs : List Value} {ns : List Int} {t : Nat} {u tm : Tok} {n : Nat} {many : Int}
    (C : Cx w A (s.heap.hide ra) 1) (hr : s.heap.get? ra = some (listOf #[.int (t : Int) u, .ref st] n)) (hst : (s.heap.hide ra).IsList st vs.toArray) (hi : IntsAre vs ns) (hn : ns.length < 100) (ht : t < 100) (hm : 0 < many) (hm2 : many < 1000) :
    wpAny (model PySem.Challenge.rw_sj0077_01.row.prog w) A (call (.ref 184) [.ref ra, .int many tm]) (PostM s ra (TurnT ra st t (fun k => 0 ≤ k ∧ k < many))) E s := by
  obtain ⟨hd0, dp, fr, gd, un⟩ := A
  obtain rfl : hd0 = none := C.calm
  have KX := C.kin
  walk_at "m.fill"
  obtain ⟨mean, mg, mb, T⟩ := C.top
  refine' enterM (f := 184) (binds := [(Str.ofString "trail", .ref ra), (Str.ofString "many", .int many tm)]) C hr ?k1 ?k2 ?k3 ?k4 ?_ ?k5 ?k6 ?k7 ?k8 ?e1 ?e2 ?e3
  walk_at "m.enter"
  intro L h₁ F N
  try dsimp only
  walk_at "m.steps"
  · rename Fr _ _ _ _ => F
    rename News _ _ _ _ => N
    exact retT F N (by k_mem) ⟨Int.fmod_nonneg_of_pos _ hm, Int.fmod_lt_of_pos _ hm⟩
  · rename Fr _ _ _ _ => F
    rename News _ _ _ _ => N
    exact retT F N (by k_mem) ⟨Int.fmod_nonneg_of_pos _ hm, Int.fmod_lt_of_pos _ hm⟩
end

/-! Fright -/
section
local macro_rules | `(tactic| walk_at "call ref") => `(tactic| refine halted ?_)
local macro_rules | `(tactic| walk_at "compareOp Eq ref ref") => `(tactic| refine halted ?_)
local macro_rules | `(tactic| walk_at "compareOp NotEq ref ref") => `(tactic| refine halted ?_)



theorem are_right_c {w : World} {A : Around} {s : Shared} {E : Value → Shared → Prop} {p : Addr} {W : Nat} {tw tn : Tok} {n : Nat} {P : Addr → Prop}
    (C : Cx w A s.heap 20) (hp : IsPr W P s.heap p n) (hw' : 5 < W ∧ W < 20) (hn : n < 41) :
    wpAny (model PySem.Challenge.rw_sj0077_01.row.prog w) A (call (.ref 212) [.int n tn, .ref p, .int W tw]) (Post1 s (RetB (fun b => b = true))) E s := by
  obtain ⟨hd0, dp, fr, gd, un⟩ := A
  obtain rfl : hd0 = none := C.calm
  have KX := C.kin
  walk_at "m.fill"
  obtain ⟨mean, mg, mb, T⟩ := C.top
  refine' enter (f := 212) (binds := [(Str.ofString "place", .int n tn), (Str.ofString "pair", .ref p), (Str.ofString "w", .int W tw)]) C ?k1 ?k2 ?k3 ?k4 ?_ ?k5 ?k6 ?k7 ?k8 ?e1 ?e2 ?e3
  walk_at "m.enter"
  intro L h₁ F N
  try dsimp only
  have hw : 0 < W ∧ W < 20 := by omega
  have hB : (0 : Int) < 2 ^ W := Int.pow_pos (by decide)
  have hB1 : Halt ((1 : Int) < 2 ^ W) := ⟨by have := pow_mono' (B := 2) (by decide) (show 1 ≤ W by omega); omega⟩
  obtain ⟨pa, pb, va, vb, na, nb, tp, la, lb, ia, ib, ra, rb, -⟩ := hp
  have b1 : Halt _ := ⟨fb_lt n (by omega)⟩
  have b2 : Halt _ := ⟨fb_lt (n + 1) (by omega)⟩
  have b3 : Halt _ := ⟨fb_lt (n + 2) (by omega)⟩
  have c1 : Halt _ := ⟨fb_nonneg n⟩
  have c2 : Halt _ := ⟨fb_nonneg (n + 1)⟩
  have c3 : Halt _ := ⟨fb_nonneg (n + 2)⟩
  have y1 : Halt _ := ⟨rp9 hw.1 ra b1.out⟩
  have y2 : Halt _ := ⟨rp9 hw.1 rb b2.out⟩
  have hroom : Halt (un + 160 < cLine) := ⟨C.units⟩
  walk_at "m.steps"
  refine Halt.mk ?_
  rename Fr _ _ _ _ => F
  rename News _ _ _ _ => N
  refine use_ll (fibonacci_pair_c (Cx.deeper (Cx.less C (by decide)) F) hw' hn) F N ?_
  intro p1 a1 b1' wa1 wb1 n3 n4 na1 nb1 h9 tk9 F N hI1 hI2 ⟨hR1, hR2⟩
  obtain rfl := Rp.inj hB1.out hR1 ra
  obtain rfl := Rp.inj hB1.out hR2 rb
  walk_at "m.steps"
  refine Halt.mk ?_
  rename Fr _ _ _ _ => F
  rename News _ _ _ _ => N
  refine ne_pair (Fr.tup F tp) (by is_list) ia (by is_list) ib (News.isTup N (by k_mem)) (by is_list) hI1 (by is_list) hI2 (by have := hroom.out; simp only [Around.deeper]; omega) ?_
  walk_at "m.steps"
  refine Halt.mk ?_
  rename Fr _ _ _ _ => F
  rename News _ _ _ _ => N
  refine use_list (mul_c (Cx.deeper (Cx.less C (by decide)) F) (by is_list) ib (by is_list) ib hw rb rb (lt4 y2.out) (lt4 y2.out)) F N ?_
  intro l1 w1 n1 z1 h9 tk9 F N I1 R1 D1
  clear D1
  have q1 : Halt _ := ⟨rp9 hw.1 R1 (mul_lt c2.out b2.out c2.out b2.out)⟩
  walk_at "m.steps"
  refine Halt.mk ?_
  rename Fr _ _ _ _ => F
  rename News _ _ _ _ => N
  refine use_list (add_c (Cx.deeper (Cx.less C (by decide)) F) (by is_list) ia (by is_list) ib hw ra rb (lt10 y1.out) (lt10 y2.out)) F N ?_
  intro l2 w2 n2 z2 h9 tk9 F N I2 R2 D2
  clear D2
  rw [← fb_two] at R2
  have q2 : Halt _ := ⟨rp9 hw.1 R2 b3.out⟩
  walk_at "m.steps"
  refine Halt.mk ?_
  rename Fr _ _ _ _ => F
  rename News _ _ _ _ => N
  refine use_list (mul_c (Cx.deeper (Cx.less C (by decide)) F) (by is_list) ia (by is_list) I2 hw ra R2 (lt4 y1.out) (lt4 q2.out)) F N ?_
  intro l3 w3 n3 z3 h9 tk9 F N I3 R3 D3
  clear D3
  have q3 : Halt _ := ⟨rp9 hw.1 R3 (mul_lt c1.out b1.out c3.out b3.out)⟩
  have hcas := fb_cassini n
  rw [← fb_two] at hcas
  walk_at "m.steps"
  · have hev : (n : Int).fmod 2 = 0 := by assumption
    rw [Int.fmod_eq_emod_of_nonneg _ (by decide)] at hev
    rw [if_neg (by omega)] at hcas
    refine Halt.mk ?_
    rename Fr _ _ _ _ => F
    rename News _ _ _ _ => N
    refine use_list (add_c (Cx.deeper (Cx.less C (by decide)) F) (by is_list) I3 (by is_list) (.cons _ _ .nil) hw R3 (Rp.one (by decide) hB1.out) (lt10 q3.out) (by decide)) F N ?_
    intro l4 w4 n5 z4 h9 tk9 F N I4 R4 D4
    clear D4
    walk_at "m.steps"
    refine Halt.mk ?_
    rename Fr _ _ _ _ => F
    rename News _ _ _ _ => N
    refine eq_intsK (by is_list) I4 (by is_list) I1 (by have := hroom.out; simp only [Around.deeper]; omega) ?_
    walk_at "m.steps"
    refine ret_bool F (decide_eq_true (Rp.inj hB1.out R4 (by rw [show fb n * fb (n + 2) + 1 = fb (n + 1) * fb (n + 1) by omega]; exact R1)))
  · have hev : ¬ (n : Int).fmod 2 = 0 := by assumption
    rw [Int.fmod_eq_emod_of_nonneg _ (by decide)] at hev
    rw [if_pos (by omega)] at hcas
    refine Halt.mk ?_
    rename Fr _ _ _ _ => F
    rename News _ _ _ _ => N
    refine use_list (add_c (Cx.deeper (Cx.less C (by decide)) F) (by is_list) I1 (by is_list) (.cons _ _ .nil) hw R1 (Rp.one (by decide) hB1.out) (lt10 q1.out) (by decide)) F N ?_
    intro l4 w4 n5 z4 h9 tk9 F N I4 R4 D4
    clear D4
    walk_at "m.steps"
    refine Halt.mk ?_
    rename Fr _ _ _ _ => F
    rename News _ _ _ _ => N
    refine eq_intsK (by is_list) I4 (by is_list) I3 (by have := hroom.out; simp only [Around.deeper]; omega) ?_
    walk_at "m.steps"
    refine ret_bool F (decide_eq_true (Rp.inj hB1.out R4 (by rw [show fb (n + 1) * fb (n + 1) + 1 = fb n * fb (n + 2) by omega]; exact R3)))
end

/-! Fgone -/
section
local macro_rules | `(tactic| walk_at "call ref") => `(tactic| refine halted ?_)



theorem odd_of (m : Nat) : ((m : Int).fmod 2 == 1) = decide (m % 2 = 1) := by
  rw [Int.fmod_eq_emod_of_nonneg _ (by decide)]
  by_cases h : m % 2 = 1
  · have : (m : Int) % 2 = 1 := by omega
    rw [this, h]; rfl
  · have h2 : (m : Int) % 2 = 0 := by omega
    rw [h2, decide_eq_false h]; rfl

theorem gone_c {w : World} {A : Around} {s : Shared} {E : Value → Shared → Prop} {ah am : Addr} {W : Nat} {tw tf : Tok} {f : Int} {n m : Nat} {P : Addr → Prop}
    (C : Cx w A s.heap 6) (hh : IsMo W P s.heap ah n) (hm : IsMo W P s.heap am m) (hP : ∀ a, s.heap.get? a = none → P a) (hw' : 5 < W ∧ W < 20) (hn : n < 41) (hm41 : m < 41) :
    wpAny (model PySem.Challenge.rw_sj0077_01.row.prog w) A (call (.ref 205) [.int f tf, .ref ah, .ref am, .int W tw]) (Post1 s (RetG W P)) E s := by
  obtain ⟨hd0, dp, fr, gd, un⟩ := A
  obtain rfl : hd0 = none := C.calm
  have KX := C.kin
  walk_at "m.fill"
  obtain ⟨mean, mg, mb, T⟩ := C.top
  refine' enter (f := 205) (binds := [(Str.ofString "form", .int f tf), (Str.ofString "here", .ref ah), (Str.ofString "moment", .ref am), (Str.ofString "w", .int W tw)]) C ?k1 ?k2 ?k3 ?k4 ?_ ?k5 ?k6 ?k7 ?k8 ?e1 ?e2 ?e3
  walk_at "m.enter"
  intro L h₁ F N
  try dsimp only
  have hw : 0 < W ∧ W < 20 := by omega
  obtain ⟨p, tp, th, hpr, -⟩ := hh
  obtain ⟨q, tq, tm, hqr, -⟩ := hm
  have hpr' := hpr
  obtain ⟨pa, pb, va, vb, na, nb, tpp, la, lb, ia, ib, ra, rb, Pp, Pa, Pb⟩ := hpr'
  have b1 : Halt _ := ⟨fb_lt n (by omega)⟩
  have b2 : Halt _ := ⟨fb_lt (n + 1) (by omega)⟩
  have y1 : Halt _ := ⟨rp9 hw.1 ra b1.out⟩
  have y2 : Halt _ := ⟨rp9 hw.1 rb b2.out⟩
  refine wpAny_execs_cons ?_
  refine seq_ (h₀ := s.heap) (L := L) (s := s) (σ := Unit) (fun c => []) (fun c => [(Str.ofString "place", .int n tp), (Str.ofString "pair", .ref p), (Str.ofString "form", .int f tf), (Str.ofString "here", .ref ah), (Str.ofString "moment", .ref am), (Str.ofString "w", .int W tw)]) (fun _ => True) ?_ ?_
  · walk_at "m.steps"
    rename Fr _ _ _ _ => F
    rename News _ _ _ _ => N
    refine' NX.intro () ?te11 ?te21 ?te31 ?te51 ?te61
    case te11 => exact F
    case te21 => exact N
    case te31 => walk_at "m.ins"
    case te51 => walk_at "m.all"
    case te61 =>
      trivial
  clear F N
  rintro - u h tk - F N
  dsimp only [] at F N ⊢
  refine wpAny_execs_cons ?_
  refine seqR_ (h₀ := s.heap) (L := L) (s := s) (σ := Unit) (fun _ => []) (fun _ => [(Str.ofString "place", .int n tp), (Str.ofString "pair", .ref p), (Str.ofString "form", .int f tf), (Str.ofString "here", .ref ah), (Str.ofString "moment", .ref am), (Str.ofString "w", .int W tw)]) (fun _ => True) ?_ ?_
  · walk_at "m.steps"
    · refine Halt.mk ?_
      rename Fr _ _ _ _ => F
      rename News _ _ _ _ => N
      have hlt : (n : Int) < 40 := by assumption
      refine use_list (add_c (Cx.deeper (Cx.less C (by decide)) F) (by is_list) ia (by is_list) ib hw ra rb (lt10 y1.out) (lt10 y2.out)) F N ?_
      intro l1 w1 n1 z1 h9 tk9 F N I1 R1 D1
      clear D1
      rw [← fb_two] at R1
      walk_at "m.steps"
      rename Fr _ _ _ _ => F
      rename News _ _ _ _ => N
      exact NXR.ret (ret_mo (k := n + 1) F N hP (by k_mem) (by omega) (pr_mix N hP (by k_mem) (by is_list) (by is_list) Pb (hP _ (N (_, _) (by k_mem)).2.2) ib I1 rb R1) (by omega))
    all_goals
      rename Fr _ _ _ _ => F
      rename News _ _ _ _ => N
      refine' NXR.intro () ?te11 ?te21 ?te31 ?te51 ?te61
      case te11 => exact F
      case te21 => exact N
      case te31 => walk_at "m.ins"
      case te51 => walk_at "m.all"
      case te61 => trivial
  clear F N
  rintro - u h tk - F N
  dsimp only [] at F N ⊢
  refine wpAny_execs_cons ?_
  refine seqR_ (h₀ := s.heap) (L := L) (s := s) (σ := Unit) (fun _ => []) (fun _ => [(Str.ofString "place", .int n tp), (Str.ofString "pair", .ref p), (Str.ofString "form", .int f tf), (Str.ofString "here", .ref ah), (Str.ofString "moment", .ref am), (Str.ofString "w", .int W tw)]) (fun _ => True) ?_ ?_
  · walk_at "m.steps"
    · refine Halt.mk ?_
      rename Fr _ _ _ _ => F
      rename News _ _ _ _ => N
      have hlt : (n : Int) > 0 := by assumption
      obtain ⟨j, rfl⟩ : ∃ j, n = j + 1 := ⟨n - 1, by omega⟩
      refine use_list (sub_c (Cx.deeper (Cx.less C (by decide)) F) (by is_list) ib (by is_list) ia hw rb ra (fb_mono _) (lt10 y2.out) (lt10 y1.out)) F N ?_
      intro l1 w1 n1 z1 h9 tk9 F N I1 R1 D1
      clear D1
      rw [show fb (j + 1 + 1) - fb (j + 1) = fb j by rw [fb_two]; omega] at R1
      walk_at "m.steps"
      rename Fr _ _ _ _ => F
      rename News _ _ _ _ => N
      exact NXR.ret (ret_mo (k := j) F N hP (by k_mem) (by omega) (pr_mix N hP (by k_mem) (by is_list) (by is_list) (hP _ (N (_, _) (by k_mem)).2.2) Pa I1 ia R1 ra) (by omega))
    all_goals
      rename Fr _ _ _ _ => F
      rename News _ _ _ _ => N
      refine' NXR.intro () ?te12 ?te22 ?te32 ?te52 ?te62
      case te12 => exact F
      case te22 => exact N
      case te32 => walk_at "m.ins"
      case te52 => walk_at "m.all"
      case te62 => trivial
  clear F N
  rintro - u h tk - F N
  dsimp only [] at F N ⊢
  refine wpAny_execs_cons ?_
  refine seqR_ (h₀ := s.heap) (L := L) (s := s) (σ := Unit) (fun _ => []) (fun _ => [(Str.ofString "place", .int n tp), (Str.ofString "pair", .ref p), (Str.ofString "form", .int f tf), (Str.ofString "here", .ref ah), (Str.ofString "moment", .ref am), (Str.ofString "w", .int W tw)]) (fun _ => True) ?_ ?_
  · walk_at "m.steps"
    · refine Halt.mk ?_
      rename Fr _ _ _ _ => F
      rename News _ _ _ _ => N
      have hlt : (n : Int) ≤ 20 := by assumption
      refine use_ll (doubled_pair_c (Cx.deeper (Cx.less C (by decide)) F) (Fr.tup F tpp) (by is_list) ia (by is_list) ib hw' ra rb hn) F N ?_
      intro p1 a1 b1' wa1 wb1 n3 n4 na1 nb1 h9 tk9 F N hI1 hI2 ⟨hR1, hR2⟩
      walk_at "m.steps"
      rename Fr _ _ _ _ => F
      rename News _ _ _ _ => N
      exact NXR.ret (ret_mo (k := 2 * n) F N hP (by k_mem) (by omega) (pr_new (p := p1) N hP (by k_mem) (by k_mem) (by k_mem) hI1 hI2 hR1 hR2) (by omega))
    all_goals
      rename Fr _ _ _ _ => F
      rename News _ _ _ _ => N
      refine' NXR.intro () ?te13 ?te23 ?te33 ?te53 ?te63
      case te13 => exact F
      case te23 => exact N
      case te33 => walk_at "m.ins"
      case te53 => walk_at "m.all"
      case te63 => trivial
  clear F N
  rintro - u h tk - F N
  dsimp only [] at F N ⊢
  refine wpAny_execs_cons ?_
  refine seqR_ (h₀ := s.heap) (L := L) (s := s) (σ := Unit) (fun _ => []) (fun _ => [(Str.ofString "place", .int n tp), (Str.ofString "pair", .ref p), (Str.ofString "form", .int f tf), (Str.ofString "here", .ref ah), (Str.ofString "moment", .ref am), (Str.ofString "w", .int W tw)]) (fun _ => True) ?_ ?_
  · walk_at "m.steps"
    · refine Halt.mk ?_
      rename Fr _ _ _ _ => F
      rename News _ _ _ _ => N
      have hlt : (n : Int) + m ≤ 40 := by assumption
      refine use_ll (summed_c (Cx.deeper (Cx.less C (by decide)) F) (hpr.kp F.keep) (hqr.kp F.keep) hw' (by omega)) F N ?_
      intro p1 a1 b1' wa1 wb1 n3 n4 na1 nb1 h9 tk9 F N hI1 hI2 ⟨hR1, hR2⟩
      walk_at "m.steps"
      rename Fr _ _ _ _ => F
      rename News _ _ _ _ => N
      exact NXR.ret (ret_mo (k := n + m) F N hP (by k_mem) (by omega) (pr_new (p := p1) N hP (by k_mem) (by k_mem) (by k_mem) hI1 hI2 hR1 hR2) (by omega))
    all_goals
      rename Fr _ _ _ _ => F
      rename News _ _ _ _ => N
      refine' NXR.intro () ?te14 ?te24 ?te34 ?te54 ?te64
      case te14 => exact F
      case te24 => exact N
      case te34 => walk_at "m.ins"
      case te54 => walk_at "m.all"
      case te64 => trivial
  clear F N
  rintro - u h tk - F N
  dsimp only [] at F N ⊢
  walk_at "m.steps"
  · have hlt : (n : Int) < m := by assumption
    obtain ⟨d, rfl⟩ : ∃ d, m = n + d := ⟨m - n, by omega⟩
    refine Halt.mk ?_
    rename Fr _ _ _ _ => F
    rename News _ _ _ _ => N
    refine use_ll (apart_c (k := d) (m := n) (Cx.deeper (Cx.less C (by decide)) F) (hqr.kp F.keep) (hpr.kp F.keep) hw' hm41 (odd_of n)) F N ?_
    intro p1 a1 b1' wa1 wb1 n3 n4 na1 nb1 h9 tk9 F N hI1 hI2 ⟨hR1, hR2⟩
    walk_at "m.steps"
    rename Fr _ _ _ _ => F
    rename News _ _ _ _ => N
    exact ret_mo (k := d) F N hP (by k_mem) (by omega) (pr_new (p := p1) N hP (by k_mem) (by k_mem) (by k_mem) hI1 hI2 hR1 hR2) (by omega)
  · have hlt : ¬ (n : Int) < m := by assumption
    obtain ⟨d, rfl⟩ : ∃ d, n = m + d := ⟨n - m, by omega⟩
    refine Halt.mk ?_
    rename Fr _ _ _ _ => F
    rename News _ _ _ _ => N
    refine use_ll (apart_c (k := d) (m := m) (Cx.deeper (Cx.less C (by decide)) F) (hpr.kp F.keep) (hqr.kp F.keep) hw' hn (odd_of m)) F N ?_
    intro p1 a1 b1' wa1 wb1 n3 n4 na1 nb1 h9 tk9 F N hI1 hI2 ⟨hR1, hR2⟩
    walk_at "m.steps"
    rename Fr _ _ _ _ => F
    rename News _ _ _ _ => N
    exact ret_mo (k := d) F N hP (by k_mem) (by omega) (pr_new (p := p1) N hP (by k_mem) (by k_mem) (by k_mem) hI1 hI2 hR1 hR2) (by omega)
end

/-! Ffit -/
section
local macro_rules | `(tactic| walk_at "call ref") => `(tactic| refine halted ?_)
local macro_rules | `(tactic| walk_at "compareOp Eq ref ref") => `(tactic| refine halted ?_)



theorem fit_c {w : World} {A : Around} {s : Shared} {E : Value → Shared → Prop} {ah am : Addr} {W : Nat} {tw : Tok} {n m : Nat} {P : Addr → Prop}
    (C : Cx w A s.heap 20) (hh : IsMo W P s.heap ah n) (hm : IsMo W P s.heap am m) (hw' : 5 < W ∧ W < 20) (hn : n < 41) (hm41 : m < 41) :
    wpAny (model PySem.Challenge.rw_sj0077_01.row.prog w) A (call (.ref 219) [.ref ah, .ref am, .int W tw]) (Post1 s (RetB (fun b => b = true))) E s := by
  obtain ⟨hd0, dp, fr, gd, un⟩ := A
  obtain rfl : hd0 = none := C.calm
  have KX := C.kin
  walk_at "m.fill"
  obtain ⟨mean, mg, mb, T⟩ := C.top
  refine' enter (f := 219) (binds := [(Str.ofString "one", .ref ah), (Str.ofString "other", .ref am), (Str.ofString "w", .int W tw)]) C ?k1 ?k2 ?k3 ?k4 ?_ ?k5 ?k6 ?k7 ?k8 ?e1 ?e2 ?e3
  walk_at "m.enter"
  intro L h₁ F N
  try dsimp only
  have hw : 0 < W ∧ W < 20 := by omega
  have hB1 : Halt ((1 : Int) < 2 ^ W) := ⟨by have := pow_mono' (B := 2) (by decide) (show 1 ≤ W by omega); omega⟩
  have hroom : Halt (un + 160 < cLine) := ⟨C.units⟩
  have Hh := hh
  have Hm := hm
  obtain ⟨p, tp, th, hpr, -⟩ := hh
  obtain ⟨q, tq, tm, hqr, -⟩ := hm
  have hpr' := hpr
  obtain ⟨pa, pb, va, vb, na, nb, tpp, la, lb, ia, ib, ra, rb, Pp, Pa, Pb⟩ := hpr'
  have hqr' := hqr
  obtain ⟨qa, qb, ua, ub, ma, mb', tqq, ka, kb, ja, jb, sa, sb, Qp, Qa, Qb⟩ := hqr'
  refine wpAny_execs_cons ?_
  refine seq_ (h₀ := s.heap) (L := L) (s := s) (σ := (Int × Tok) × (Int × Tok)) (fun c => []) (fun c => [(Str.ofString "first", .int c.1.1 c.1.2), (Str.ofString "second", .int c.2.1 c.2.2), (Str.ofString "one", .ref ah), (Str.ofString "other", .ref am), (Str.ofString "w", .int W tw)]) (fun c => c.1.1 = idx n ∧ c.2.1 = idx m) ?_ ?_
  · walk_at "m.steps"
    rename Fr _ _ _ _ => F
    rename News _ _ _ _ => N
    refine' NX.intro ((_, _), (_, _)) ?te11 ?te21 ?te31 ?te51 ?te61
    case te11 => exact F
    case te21 => exact N
    case te31 => walk_at "m.ins"
    case te51 => walk_at "m.all"
    case te61 =>
      exact ⟨idx_of n, idx_of m⟩
  clear F N
  intro p19 u h tk p29 F N
  try k_fold
  obtain ⟨⟨a1, t1⟩, a2, t2⟩ := p19
  obtain ⟨e1, e2⟩ := p29
  dsimp only [] at F N ⊢
  dsimp only [] at e1 e2
  subst e1 e2
  refine wpAny_execs_cons ?_
  refine seqR_ (h₀ := s.heap) (L := L) (s := s) (σ := Unit) (fun _ => []) (fun _ => [(Str.ofString "first", .int (idx n) t1), (Str.ofString "second", .int (idx m) t2), (Str.ofString "one", .ref ah), (Str.ofString "other", .ref am), (Str.ofString "w", .int W tw)]) (fun _ => True) ?_ ?_
  · walk_at "m.steps"
    refine Halt.mk ?_
    rename Fr _ _ _ _ => F
    rename News _ _ _ _ => N
    refine use_int (compare_c (Cx.deeper (Cx.less C (by decide)) F) (by is_list) ia (by is_list) ja hB1.out ra sa (lt10 (rp9 hw.1 ra (fb_lt n (by omega)))) (lt10 (rp9 hw.1 sa (fb_lt m (by omega))))) F N ?_
    intro k tk9 h9 tk8 F N hk
    obtain rfl := fit_sign hk
    clear hk
    walk_at "m.steps"
    all_goals first | (exfalso; rename _ ≠ _ => hne; exact hne rfl) | skip
    rename Fr _ _ _ _ => F
    rename News _ _ _ _ => N
    refine' NXR.intro () ?te1 ?te2 ?te3 ?te5 ?te6
    case te1 => exact F
    case te2 => exact N
    case te3 => walk_at "m.ins"
    case te5 => walk_at "m.all"
    case te6 => trivial
  clear F N
  rintro - u h tk - F N
  dsimp only [] at F N ⊢
  refine wpAny_execs_cons ?_
  refine seq_ (h₀ := s.heap) (L := L) (s := s) (σ := (Addr × Addr) × (Nat × Nat)) (fun _ => []) (fun c => [(Str.ofString "far", .ref c.1.1), (Str.ofString "near", .ref c.1.2), (Str.ofString "w", .int W tw)]) (fun c => IsMo W P s.heap c.1.1 c.2.1 ∧ IsMo W P s.heap c.1.2 c.2.2 ∧ c.2.1 < 41 ∧ c.2.2 < 41) ?_ ?_
  · walk_at "m.steps"
    · have hlt : (n : Int) > m := by assumption
      rename Fr _ _ _ _ => F
      rename News _ _ _ _ => N
      refine' NX.intro ((_, _), (n, m)) ?te12 ?te22 ?te32 ?te52 ?te62
      case te12 => exact F
      case te22 => exact N
      case te32 => walk_at "m.ins"
      case te52 => walk_at "m.all"
      case te62 =>
        exact ⟨Hh, Hm, hn, hm41⟩
    · have hlt : ¬ (n : Int) > m := by assumption
      rename Fr _ _ _ _ => F
      rename News _ _ _ _ => N
      refine' NX.intro ((_, _), (m, n)) ?te13 ?te23 ?te33 ?te53 ?te63
      case te13 => exact F
      case te23 => exact N
      case te33 => walk_at "m.ins"
      case te53 => walk_at "m.all"
      case te63 =>
        exact ⟨Hm, Hh, hm41, hn⟩
  clear F N
  intro p39 u h tk p49 F N
  try k_fold
  obtain ⟨⟨far, near⟩, nf, nn⟩ := p39
  obtain ⟨H1, H2, H3, H4⟩ := p49
  dsimp only [] at F N H1 H2 H3 H4 ⊢
  obtain ⟨p9, tp9, th9, hpr9, -⟩ := H1
  obtain ⟨q9, tq9, tm9, hqr9, -⟩ := H2
  obtain ⟨pa9, pb9, va9, vb9, na9, nb9, tpp9, la9, lb9, ia9, ib9, ra9, rb9, -⟩ := hpr9
  obtain ⟨qa9, qb9, ua9, ub9, ma9, mb9, tqq9, ka9, kb9, ja9, jb9, sa9, sb9, -⟩ := hqr9
  clear tpp la lb ia ib ra rb tqq ka kb ja jb sa sb th tm hpr hqr Hh Hm
  walk_at "m.steps"
  · rename Fr _ _ _ _ => F
    exact ret_bool F rfl
  · have h3 : ¬ (nn : Int) < 3 := by assumption
    refine Halt.mk ?_
    rename Fr _ _ _ _ => F
    rename News _ _ _ _ => N
    refine use_ll (divrem_school_c (Cx.deeper (Cx.less C (by decide)) F) (by is_list) ia9 (by is_list) ja9 hw ra9 sa9 (fb_pos_of (by omega)) (rp9 hw.1 ra9 (fb_lt nf (by omega))) (rp9 hw.1 sa9 (fb_lt nn (by omega)))) F N ?_
    intro p1 a1 b1 wa1 wb1 n3 n4 na1 nb1 h9 tk9 F N hI1 hI2 ⟨hR1, hR2⟩
    walk_at "m.steps"
    refine Halt.mk ?_
    rename Fr _ _ _ _ => F
    rename News _ _ _ _ => N
    refine eq_intsK (us := []) (by is_list) hI2 (by is_list) .nil (by have := hroom.out; simp only [Around.deeper]; omega) ?_
    walk_at "m.steps"
    rename Fr _ _ _ _ => F
    exact ret_bool F (by rw [fit_end hB1.out hR2 H4 H3 (by omega)]; exact beq_self_eq_true _)
end

/-! PH -/
section
theorem use_hop {w : World} {A : Around} {E : Value → Shared → Prop} {s : Shared} {ra st : Addr} {vs : List Value} {ns : List Int} {z : Int} {u tm : Tok} {n n2 : Nat} {many : Int} {h₀ : Heap} {L : Addr} {m : Str → Option Value} {rest : List (Addr × Obj)} {Q : Value → Shared → Prop}
    (C : Cx w A (s.heap.hide ra) 1) (F : Fr h₀ L s.heap m) (N : News h₀ L s.heap ((ra, listOf #[.int z u, .ref st] n) :: rest)) (hne : ∀ p ∈ rest, p.1 ≠ ra) (hst : (st, listOf vs.toArray n2) ∈ rest) (hi : IntsAre vs ns) (hn : ns.length < 100) (hz0 : 0 ≤ z) (hz : z < 100) (hm : 0 < many) (hm2 : many < 1000)
    (h : ∀ u n k tk h' tk', Fr h₀ L h' m → News h₀ L h' ((ra, listOf #[.int (z + 1) u, .ref st] n) :: rest) → 0 ≤ k → k < many → Q (.int k tk) { s with heap := h', toks := tk' }) :
    wpAny (model PySem.Challenge.rw_sj0077_01.row.prog w) A (call (.ref 184) [.ref ra, .int many tm]) Q E s := by
  obtain ⟨t, rfl⟩ := Int.eq_ofNat_of_zero_le hz0
  exact useT (hopped_c C (N _ (.head _)).1 (isList_hide (News.isList N (.tail _ hst)) (hne _ hst)) hi hn (by omega) hm hm2) F N hne fun u n k tk h' tk' F N _ hk => h u n k tk h' tk' F N hk.1 hk.2
def Last (vs : List Value) (v : Value) : Prop := ∃ j, vs.length = j + 1 ∧ vs[j]? = some v
def Spot (vs : List Value) (sp : Int) (v : Value) : Prop := ∃ j : Nat, (vs.length : Int) = j + 1 + sp ∧ 0 ≤ sp ∧ sp < 1000 ∧ vs[j]? = some v
theorem neg_last {prog : Program} {w : World} {A : Around} {E : Value → Shared → Prop} {s : Shared} {value slice : PySem.Expr} {l : Addr} {vs : List Value} {k : Int} {u : Tok} {v : Value} {Q : Value → Shared → Prop} (hl : s.heap.IsList l vs.toArray) (hx : Last vs v) (hk : k = -1) (h : Q v s)
    (hs : ∀ o i : Value, subscripted slice false o i = operate [o, i] (getItem o i) := by intro _ _; rfl) :
    wpAny (model prog w) A (subscriptTail value slice (.ref l) (.int k u)) Q E s := by
  subst hk
  obtain ⟨j, hj, hx⟩ := hx
  exact neg_ hl (by decide) (by decide) (j := j) (by omega) hx h (hs _ _)
theorem neg_spot {prog : Program} {w : World} {A : Around} {E : Value → Shared → Prop} {s : Shared} {value slice : PySem.Expr} {l : Addr} {vs : List Value} {k sp : Int} {u : Tok} {v : Value} {Q : Value → Shared → Prop} (hl : s.heap.IsList l vs.toArray) (hx : Spot vs sp v) (hk : k = 0 - 1 - sp) (h : Q v s)
    (hs : ∀ o i : Value, subscripted slice false o i = operate [o, i] (getItem o i) := by intro _ _; rfl) :
    wpAny (model prog w) A (subscriptTail value slice (.ref l) (.int k u)) Q E s := by
  subst hk
  obtain ⟨j, hj, hs0, hs1, hx⟩ := hx
  exact neg_ hl (by omega) (by omega) (j := j) (by omega) hx h (hs _ _)
theorem last_of {W : Nat} {ob : List (Addr × Obj)} {vs : List Value} {n : Nat} (hlen : vs.length = n + 1) (hvs : ∀ v ∈ vs, ∃ a k, v = .ref a ∧ k < 41 ∧ MoK W ob a k) : ∃ a k, Last vs (.ref a) ∧ k < 41 ∧ MoK W ob a k := by
  have hlt : n < vs.length := by omega
  obtain ⟨a, k, e, hk, hM⟩ := hvs vs[n] (List.getElem_mem hlt)
  exact ⟨a, k, ⟨n, hlen, by rw [List.getElem?_eq_getElem hlt, e]⟩, hk, hM⟩
theorem spot_of {W : Nat} {ob : List (Addr × Obj)} {vs : List Value} {sp : Int} (h0 : 0 ≤ sp) (h1 : sp < (vs.length : Int)) (hl : vs.length < 900) (hvs : ∀ v ∈ vs, ∃ a k, v = .ref a ∧ k < 41 ∧ MoK W ob a k) : ∃ a k, Spot vs sp (.ref a) ∧ k < 41 ∧ MoK W ob a k := by
  have hlt : vs.length - 1 - sp.toNat < vs.length := by omega
  obtain ⟨a, k, e, hk, hM⟩ := hvs vs[vs.length - 1 - sp.toNat] (List.getElem_mem hlt)
  exact ⟨a, k, ⟨vs.length - 1 - sp.toNat, by omega, h0, by omega, by rw [List.getElem?_eq_getElem hlt, e]⟩, hk, hM⟩
/-- where a told place may stand -/
def Off (h₀ : Heap) (L lt ly mo : Addr) (own : List (Addr × Obj)) (a : Addr) : Prop := (a ≠ L ∧ h₀.get? a = none) ∧ (@Ne Nat a lt ∧ @Ne Nat a ly ∧ @Ne Nat a mo) ∧ ∀ p ∈ own, p.1 ≠ a
theorem off_fresh {h₀ h : Heap} {L lt ly mo : Addr} {m : Str → Option Value} {o1 o2 o3 : Obj} {R own : List (Addr × Obj)} (F : Fr h₀ L h m) (N : News h₀ L h ((lt, o1) :: (ly, o2) :: (mo, o3) :: (R ++ own))) (a : Addr) (ha : h.get? a = none) : Off h₀ L lt ly mo own a := by
  have key : ∀ b o, h.get? b = some o → a ≠ b := fun b o e q => by rw [q, e] at ha; cases ha
  refine ⟨⟨?_, ?_⟩, ⟨key _ _ (N _ (.head _)).1, key _ _ (N _ (.tail _ (.head _))).1, key _ _ (N _ (.tail _ (.tail _ (.head _)))).1⟩, fun p hp => Ne.symm (key _ _ (N p (.tail _ (.tail _ (.tail _ (List.mem_append_right _ hp))))).1)⟩
  · obtain ⟨oL, _, _, hL, _⟩ := F.ns
    exact key _ _ hL
  · cases q : h₀.get? a with
    | none => rfl
    | some o => exact absurd ((F.keep _ _ q).symm.trans ha) (by simp)
theorem off_old {h₀ h : Heap} {L lt ly mo : Addr} {o1 o2 o3 : Obj} {R own : List (Addr × Obj)} (N : News h₀ L h ((lt, o1) :: (ly, o2) :: (mo, o3) :: (R ++ own))) (hob : ∀ q ∈ R, @Ne Nat q.1 lt ∧ @Ne Nat q.1 ly ∧ @Ne Nat q.1 mo) (hoff : OwnOff own (R.map (·.1))) (a : Addr) (ha : ∃ o, (a, o) ∈ R) : Off h₀ L lt ly mo own a := by
  obtain ⟨o, ho⟩ := ha
  exact ⟨(N _ (.tail _ (.tail _ (.tail _ (List.mem_append_left _ ho))))).2, hob _ ho, fun p hp => hoff p hp a (List.mem_map.mpr ⟨_, ho, rfl⟩)⟩
end

/-! Flaw -/
section
local macro_rules | `(tactic| walk_at "call ref") => `(tactic| refine halted ?_)
local macro_rules | `(tactic| walk_at "subscriptTail Name UnaryOp ref int") => `(tactic| (refine' neg_last ?nl ?nx ?nk ?_; (case nl => exact News.isList (by assumption) (by k_mem)); (case nx => assumption); (case nk => rfl)))
local macro_rules | `(tactic| walk_at "subscriptTail Name BinOp ref int") => `(tactic| (refine' neg_spot ?nl ?nx ?nk ?_; (case nl => exact News.isList (by assumption) (by k_mem)); (case nx => assumption); (case nk => rfl)))
local macro_rules | `(tactic| walk_at "subscriptTail Subscript Constant int ref int") => `(tactic| first | (refine' tup_at 0 ?nt ?nk ?nj ?nx ?_; (case nt => assumption); (case nk => rfl); (case nj => decide); (case nx => rfl)) | (refine' tup_at 1 ?nt ?nk ?nj ?nx ?_; (case nt => assumption); (case nk => rfl); (case nj => decide); (case nx => rfl)))
local macro_rules | `(tactic| k_qdec) => `(tactic| decide +kernel)
local macro_rules | `(tactic| walk_at "call builtin:len") => `(tactic| refine halted ?_)
local macro_rules | `(tactic| walk_at "call builtin:list.append") => `(tactic| refine halted ?_)


/-- the law's end -/
def Done (s₀ : Shared) (f : Flow) (s : Shared) : Prop := ∃ L h' tk' m, f = .ret (.bool true) ∧ s = { s₀ with heap := h', toks := tk' } ∧ Fr s₀.heap L h' m
theorem law_ : PySem.Challenge.rw_sj0077_01.Holds := hd rfl rfl rfl (by
  k_go0
  rename World => w
  rename Shared => s1
  have C : Cx w callerA s1.heap 60 := ⟨rfl, by decide, by decide, ⟨_, _, below_caller _⟩, by assumption, ⟨_, _, _, by assumption⟩⟩
  refine wpAny_mono (Q := Done s1) (E := fun _ _ => False) ?main ?fin (fun _ _ x => x.elim)
  case fin =>
    rintro f s' ⟨L, h', tk', m, rfl, rfl, hk⟩
    dsimp only
    wrow_close
  case main =>
    rename Heap.IsList _ _ _ => hl
    rename IntsAre _ _ => hi
    rename Fr _ _ _ _ => F
    rename News _ _ _ _ => N
    rename ¬ (_ < _) => hlen
    rename Heap.CodeRec _ _ _ => hcd
    rename Dflts _ _ _ _ _ _ => hD
    clear hcd hD
    try (rename Ground _ _ _ _ _ _ _ _ _ => xx; clear xx)
    try (rename Glob _ _ _ _ _ _ _ _ => xx; clear xx)
    try (rename Tables _ _ _ _ => xx; clear xx)
    try (rename TopE _ _ _ _ => xx; clear xx)
    try (rename TopW _ _ _ => xx; clear xx)
    try (rename BMod _ _ _ _ _ => xx; clear xx)
    try (rename Well _ _ _ _ => xx; clear xx)
    try (rename Reads _ _ _ _ => xx; clear xx)
    try (rename ReadsAll _ _ _ _ => xx; clear xx)
    try (rename ReadsAllW _ _ _ _ _ _ => xx; clear xx)
    try (rename LooseAre _ _ _ => xx; clear xx)
    try (rename Flt.MathXP _ _ _ => xx; clear xx)
    try dsimp only
    refine wpAny_execs_cons ?_
    refine seq_ (h₀ := s1.heap) (L := s1.heap.objs.size) (s := s1) (σ := Addr × Addr × List Value × Tok × Nat) (fun c => [(c.1, listOf #[.int 0 c.2.2.2.1, .ref c.2.1] 0), (c.2.1, listOf c.2.2.1.toArray c.2.2.2.2)]) (fun c => [(Str.ofString "trail", .ref c.1)]) (fun c => @Ne Nat c.2.1 c.1 ∧ ∃ zs : List Int, IntsAre c.2.2.1 zs ∧ zs.length < 100) ?_ ?_
    · walk_at "m.steps"
      rename IntsAre _ (List.map _ _) => hI8
      rename Fr _ _ _ _ => F
      rename News _ _ _ _ => N
      refine' NX.intro (_, _, ys, _, _) ?te11 ?te21 ?te31 ?te51 ?te61
      case te11 => exact F
      case te21 => exact N
      case te31 => walk_at "m.ins"
      case te51 => walk_at "m.all"
      case te61 =>
        refine ⟨?_, _, hI8, ?_⟩
        · dsimp only
          show @Ne Nat _ _
          omega
        · rw [List.length_map]; exact Nat.lt_of_le_of_lt (List.length_take_le 13 _) (by decide)
    clear F N hl hi hlen
    intro p19 u h tk p29 F N
    try k_fold
    obtain ⟨lt, ly, ys, u0, ny⟩ := p19
    obtain ⟨hly, zs, hzs, hzl⟩ := p29
    dsimp only [] at F N hly hzs ⊢
    refine wpAny_execs_cons ?_
    refine seq_ (h₀ := s1.heap) (L := s1.heap.objs.size) (s := s1) (σ := (Int × Tok × Nat) × (Int × Tok) × (Int × Tok)) (fun c => [(lt, listOf #[.int c.1.1 c.1.2.1, .ref ly] c.1.2.2), (ly, listOf ys.toArray ny)]) (fun c => [(Str.ofString "w", .int c.2.1.1 c.2.1.2), (Str.ofString "place", .int c.2.2.1 c.2.2.2), (Str.ofString "trail", .ref lt)]) (fun c => c.1.1 = 2 ∧ 6 ≤ c.2.1.1 ∧ c.2.1.1 < 10 ∧ 0 ≤ c.2.2.1 ∧ c.2.2.1 < 9) ?_ ?_
    · walk_at "m.steps"
      refine Halt.mk ?_
      rename Fr _ _ _ _ => F
      rename News _ _ _ _ => N
      refine use_hop (Cx.deeper (Cx.less C (by decide)) (fr_hide F (Ne.symm (N (_, _) (.head _)).2.1) (N (_, _) (.head _)).2.2)) F N (by intro p hp; simp only [List.mem_cons, List.not_mem_nil, or_false] at hp; rcases hp with rfl; exact hly) (.head _) hzs hzl (by decide) (by decide) (by decide) (by decide) ?_
      intro u1 n1 k1 tk1 h9 tk9 F N hk0 hk1
      walk_at "m.steps"
      refine Halt.mk ?_
      rename Fr _ _ _ _ => F
      rename News _ _ _ _ => N
      refine use_hop (Cx.deeper (Cx.less C (by decide)) (fr_hide F (Ne.symm (N (_, _) (.head _)).2.1) (N (_, _) (.head _)).2.2)) F N (by intro p hp; simp only [List.mem_cons, List.not_mem_nil, or_false] at hp; rcases hp with rfl; exact hly) (.head _) hzs hzl (by decide) (by decide) (by decide) (by decide) ?_
      intro u2 n2 k2 tk2 h9 tk9 F N hk2 hk3
      walk_at "m.steps"
      rename Fr _ _ _ _ => F
      rename News _ _ _ _ => N
      refine' NX.intro ((_, _, _), (_, _), (_, _)) ?te12 ?te22 ?te32 ?te52 ?te62
      case te12 => exact F
      case te22 => exact N
      case te32 => walk_at "m.ins"
      case te52 => walk_at "m.all"
      case te62 =>
        exact ⟨rfl, by show 6 ≤ 6 + k1; omega, by show 6 + k1 < 10; omega, hk2, hk3⟩
    clear F N
    intro p39 u h tk p49 F N
    try k_fold
    obtain ⟨⟨z, uz, nz⟩, ⟨kw, tw⟩, kp, tp⟩ := p39
    obtain ⟨hz, hw1, hw2, hp1, hp2⟩ := p49
    dsimp only [] at F N hz hw1 hw2 hp1 hp2 ⊢
    subst hz
    obtain ⟨W, rfl⟩ := Int.eq_ofNat_of_zero_le (show 0 ≤ kw by omega)
    obtain ⟨pn, rfl⟩ := Int.eq_ofNat_of_zero_le hp1
    have hw' : 5 < W ∧ W < 20 := by omega
    refine wpAny_execs_cons ?_
    refine seq_ (h₀ := s1.heap) (L := s1.heap.objs.size) (s := s1) (σ := (Addr × List Value × Nat) × List (Addr × Obj)) (fun c => (lt, listOf #[.int 2 uz, .ref ly] nz) :: (ly, listOf ys.toArray ny) :: (c.1.1, listOf c.1.2.1.toArray c.1.2.2) :: c.2) (fun c => [(Str.ofString "moments", .ref c.1.1), (Str.ofString "w", .int W tw), (Str.ofString "trail", .ref lt)]) (fun c => @Ne Nat c.1.1 lt ∧ @Ne Nat c.1.1 ly ∧ (∃ a k, c.1.2.1 = [.ref a] ∧ k < 41 ∧ MoK W c.2 a k) ∧ ∀ q ∈ c.2, @Ne Nat q.1 lt ∧ @Ne Nat q.1 ly ∧ @Ne Nat q.1 c.1.1) ?_ ?_
    · walk_at "m.steps"
      refine Halt.mk ?_
      rename Fr _ _ _ _ => F
      rename News _ _ _ _ => N
      refine use_llN (fibonacci_pair_c (Cx.deeper (Cx.less C (by decide)) F) hw' (by omega)) F N ?_
      intro p1 a1 b1 wa1 wb1 n3 n4 na1 nb1 h9 tk9 F N hI1 hI2 ⟨hR1, hR2⟩ d1 d2 d3
      simp only [AllNe, and_true] at d1 d2 d3
      walk_at "m.steps"
      rename Fr _ _ _ _ => F
      rename News _ _ _ _ => N
      refine' NX.intro ((_, _, _), [(_, tupO #[.int pn tp, .ref p1]), (p1, tupO #[.ref a1, .ref b1]), (a1, listOf wa1.toArray n3), (b1, listOf wb1.toArray n4)]) ?te13 ?te23 ?te33 ?te53 ?te63
      case te13 => exact F
      case te23 => exact N
      case te33 => walk_at "m.ins"
      case te53 => walk_at "m.all"
      case te63 =>
        refine ⟨?_, ?_, ⟨_, pn, rfl, by omega, ?_⟩, ?_⟩
        · dsimp only
          show @Ne Nat _ _
          omega
        · dsimp only
          show @Ne Nat _ _
          omega
        · intro h₀ L h N
          exact ⟨p1, tp, News.isTup N (.head _), ⟨a1, b1, wa1, wb1, na1, nb1, News.isTup N (.tail _ (.head _)), News.isList N (.tail _ (.tail _ (.head _))), News.isList N (.tail _ (.tail _ (.tail _ (.head _)))), hI1, hI2, hR1, hR2, ⟨_, .tail _ (.head _)⟩, ⟨_, .tail _ (.tail _ (.head _))⟩, ⟨_, .tail _ (.tail _ (.tail _ (.head _)))⟩⟩, ⟨_, .head _⟩⟩
        · intro q hq
          simp only [List.mem_cons, List.not_mem_nil, or_false] at hq
          rcases hq with rfl | rfl | rfl | rfl <;> dsimp only <;> refine ⟨?_, ?_, ?_⟩ <;> (show @Ne Nat _ _; omega)
    clear F N
    intro p59 u h tk p69 F N
    try k_fold
    obtain ⟨⟨mo, vs0, kv0⟩, ob0⟩ := p59
    obtain ⟨hmo1, hmo2, ⟨a0, k0, hvs0, hk0, hM0⟩, hob0⟩ := p69
    dsimp only [] at F N hmo1 hmo2 hvs0 hM0 hob0 ⊢
    subst hvs0
    refine wpAny_execs_cons ?_
    walk_at "m.steps"
    refine Halt.mk ?_
    rename Fr _ _ _ _ => F
    rename News _ _ _ _ => N
    refine use_hop (Cx.deeper (Cx.less C (by decide)) (fr_hide F (Ne.symm (N (_, _) (.head _)).2.1) (N (_, _) (.head _)).2.2)) F N ?_ (.head _) hzs hzl (by decide) (by decide) (by decide) (by decide) ?_
    · intro q hq
      simp only [List.mem_cons] at hq
      rcases hq with rfl | rfl | hq
      · exact hly
      · exact hmo1
      · exact (hob0 q hq).1
    intro u3 n3 kc tk3 h9 tk9 F N hkc0 hkc1
    have hkc : Halt (kc < 5) := ⟨hkc1⟩
    replace hkc1 : kc < 100 := by omega
    walk_at "m.steps"
    refine Halt.mk ?_
    rename IsRange _ _ _ _ _ _ _ _ => R
    rename Fr _ _ _ _ => F
    rename News _ _ _ _ => N

    refine' rngG_ (L := s1.heap.objs.size) (σ := (List Value × Nat) × List (Addr × Obj) × (Int × Tok × Nat)) (fun c => (lt, listOf #[.int c.2.2.1 c.2.2.2.1, .ref ly] c.2.2.2.2) :: (ly, listOf ys.toArray ny) :: (mo, listOf c.1.1.toArray c.1.2) :: c.2.1) (fun c => [(Str.ofString "moments", .ref mo), (Str.ofString "w", .int W tw), (Str.ofString "trail", .ref lt)])
      (fun i c => c.1.1.length = i + 1 ∧ (∀ v ∈ c.1.1, ∃ a k, v = .ref a ∧ k < 41 ∧ MoK W c.2.1 a k) ∧ (∀ q ∈ c.2.1, @Ne Nat q.1 lt ∧ @Ne Nat q.1 ly ∧ @Ne Nat q.1 mo) ∧ 0 ≤ c.2.2.1 ∧ c.2.2.1 ≤ 3 + 2 * (i : Int)) (([.ref a0], kv0), ob0, (2 + 1, u3, n3)) rfl rfl R (by omega) (by omega) (by omega) (by omega) F ?N ?k1 ?k2 ?turn ?done
    case k1 => walk_at "m.all"
    case N => exact N
    case k2 =>
      refine ⟨rfl, ?_, hob0, by show (0 : Int) ≤ 2 + 1; decide, by show (2 : Int) + 1 ≤ 3 + 2 * ((0 : Nat) : Int); decide⟩
      intro v hv
      rw [List.mem_singleton.mp hv]
      exact ⟨a0, k0, rfl, hk0, hM0⟩
    case done =>
      clear F N R
      intro p79 u h tk p89 F N
      try k_fold
      obtain ⟨⟨vs, kv⟩, ob, z, uz2, nz2⟩ := p79
      obtain ⟨hlen, hvs, hob, hz0, hz1⟩ := p89
      dsimp only [] at F N hlen hvs hob hz0 hz1 ⊢
      obtain ⟨a, k, hlast, hk, hM⟩ := last_of hlen hvs
      obtain ⟨p, tp9, th, hpr, -⟩ := hM _ _ _ (fun q hq => N q (.tail _ (.tail _ (.tail _ hq))))
      iterate 14 (first | walk1 | (dsimp only; walk1))
      refine' tup_at 0 th rfl (by decide) rfl ?_
      iterate 9 (first | walk1 | (dsimp only; walk1))
      refine' tup_at 1 th rfl (by decide) rfl ?_
      walk_at "m.steps"
      refine Halt.mk ?_
      rename Fr _ _ _ _ => F
      rename News _ _ _ _ => N
      refine use_bool (are_right_c (Cx.deeper (Cx.less C (by decide)) F) hpr hw' hk) F N ?_
      intro b h9 tk9 F N hb
      try dsimp only at hb
      subst hb
      walk_at "m.steps"
      rename Fr _ _ _ _ => F
      rename News _ _ _ _ => N
      exact ⟨_, _, _, _, rfl, rfl, F⟩
    case turn =>
      clear F N R
      intro i t p99 u h tk own hi p109 hoff F N
      try k_fold
      obtain ⟨⟨vs, kv⟩, ob, z, uz2, nz2⟩ := p99
      obtain ⟨hlen, hvs, hob, hz0, hz1⟩ := p109
      dsimp only [] at F N hlen hvs hob hz0 hz1 hoff ⊢
      dsimp only [List.cons_append] at N
      have hi5 : i < 5 := by have := hkc.out; omega
      have hlen9 : vs.length < 900 := by omega
      have hoR : OwnOff own (ob.map (·.1)) := fun p hp b hb => hoff p hp b (.tail _ (.tail _ (.tail _ hb)))
      have hoT : ∀ p ∈ own, @Ne Nat p.1 lt ∧ @Ne Nat p.1 ly ∧ @Ne Nat p.1 mo := fun p hp => ⟨hoff p hp lt (.head _), hoff p hp ly (.tail _ (.head _)), hoff p hp mo (.tail _ (.tail _ (.head _)))⟩
      have hR : ∀ q ∈ ob ++ own, @Ne Nat q.1 lt ∧ @Ne Nat q.1 ly ∧ @Ne Nat q.1 mo := fun q hq => (List.mem_append.mp hq).elim (hob q) (hoT q)
      obtain ⟨a, k, hlast, hk, hM⟩ := last_of hlen hvs
      refine wpAny_execs_cons ?_
      refine seq_ (h₀ := s1.heap) (L := s1.heap.objs.size) (s := s1) (σ := Unit) (fun _ => (lt, listOf #[.int z uz2, .ref ly] nz2) :: (ly, listOf ys.toArray ny) :: (mo, listOf vs.toArray kv) :: (ob ++ own)) (fun _ => [(Str.ofString "moments", .ref mo), (Str.ofString "w", .int W tw), (Str.ofString "trail", .ref lt)]) (fun _ => True) ?_ ?_
      · obtain ⟨p, tp9, th, hpr, -⟩ := hM _ _ _ (fun q hq => N q (.tail _ (.tail _ (.tail _ (List.mem_append_left _ hq)))))
        iterate 15 (first | walk1 | (dsimp only; walk1))
        refine' tup_at 0 th rfl (by decide) rfl ?_
        iterate 9 (first | walk1 | (dsimp only; walk1))
        refine' tup_at 1 th rfl (by decide) rfl ?_
        walk_at "m.steps"
        refine Halt.mk ?_
        rename Fr _ _ _ _ => F
        rename News _ _ _ _ => N
        refine use_bool (are_right_c (Cx.deeper (Cx.less C (by decide)) F) hpr hw' hk) F N ?_
        intro b h9 tk9 F N hb
        try dsimp only at hb
        subst hb
        walk_at "m.steps"
        rename Fr _ _ _ _ => F
        rename News _ _ _ _ => N
        refine' NX.intro () ?te14 ?te24 ?te34 ?te54 ?te64
        case te14 => exact F
        case te24 => exact N
        case te34 => walk_at "m.ins"
        case te54 => walk_at "m.all"
        case te64 =>
          trivial
      clear F N
      rintro - u h tk - F N
      dsimp only [] at F N ⊢
      refine wpAny_execs_cons ?_
      refine seq_ (h₀ := s1.heap) (L := s1.heap.objs.size) (s := s1) (σ := (Int × Tok × Nat) × (Int × Tok) × (Int × Tok)) (fun c => (lt, listOf #[.int c.1.1 c.1.2.1, .ref ly] c.1.2.2) :: (ly, listOf ys.toArray ny) :: (mo, listOf vs.toArray kv) :: (ob ++ own)) (fun c => [(Str.ofString "form", .int c.2.1.1 c.2.1.2), (Str.ofString "spot", .int c.2.2.1 c.2.2.2), (Str.ofString "moments", .ref mo), (Str.ofString "w", .int W tw), (Str.ofString "trail", .ref lt)]) (fun c => c.1.1 = z + 1 + 1 ∧ 0 ≤ c.2.2.1 ∧ c.2.2.1 < (vs.length : Int)) ?_ ?_
      · walk_at "m.steps"
        refine Halt.mk ?_
        rename Fr _ _ _ _ => F
        rename News _ _ _ _ => N
        refine use_hop (Cx.deeper (Cx.less C (by decide)) (fr_hide F (Ne.symm (N (_, _) (.head _)).2.1) (N (_, _) (.head _)).2.2)) F N ?_ (.head _) hzs hzl hz0 (by omega) (by decide) (by decide) ?_
        · intro q hq
          simp only [List.mem_cons] at hq
          rcases hq with rfl | rfl | hq
          · exact hly
          · exact hmo1
          · exact (hR q hq).1
        intro u4 n4 kf tk4 h9 tk9 F N hf0 hf1
        walk_at "m.steps"
        refine Halt.mk ?_
        rename Fr _ _ _ _ => F
        rename News _ _ _ _ => N
        refine len_list (News.isList N (.tail _ (.tail _ (.head _)))) (by rw [List.size_toArray]; omega) ?_
        rw [List.size_toArray]
        walk_at "m.steps"
        refine Halt.mk ?_
        rename Fr _ _ _ _ => F
        rename News _ _ _ _ => N
        refine use_hop (many := (vs.length : Int)) (Cx.deeper (Cx.less C (by decide)) (fr_hide F (Ne.symm (N (_, _) (.head _)).2.1) (N (_, _) (.head _)).2.2)) F N ?_ (.head _) hzs hzl (by omega) (by omega) (by omega) (by omega) ?_
        · intro q hq
          simp only [List.mem_cons] at hq
          rcases hq with rfl | rfl | hq
          · exact hly
          · exact hmo1
          · exact (hR q hq).1
        intro u5 n5 ks tk5 h9 tk9 F N hs0 hs1
        walk_at "m.steps"
        rename Fr _ _ _ _ => F
        rename News _ _ _ _ => N
        refine' NX.intro ((_, _, _), (_, _), (_, _)) ?te15 ?te25 ?te35 ?te55 ?te65
        case te15 => exact F
        case te25 => exact N
        case te35 => walk_at "m.ins"
        case te55 => walk_at "m.all"
        case te65 =>
          exact ⟨rfl, hs0, hs1⟩
      clear F N
      intro p119 u h tk p129 F N
      try k_fold
      obtain ⟨⟨z9, u9, n9⟩, ⟨kf, tf⟩, ks, ts⟩ := p119
      obtain ⟨hz9, hs0, hs1⟩ := p129
      dsimp only [] at F N hz9 hs0 hs1 ⊢
      subst hz9
      obtain ⟨as, k2, hspot, hk2, hM2⟩ := spot_of hs0 hs1 hlen9 hvs
      refine wpAny_execs_cons ?_
      refine seq_ (h₀ := s1.heap) (L := s1.heap.objs.size) (s := s1) (σ := (Addr × Nat) × List (Addr × Obj)) (fun c => (lt, listOf #[.int (z + 1 + 1) u9, .ref ly] n9) :: (ly, listOf ys.toArray ny) :: (mo, listOf vs.toArray kv) :: (c.2 ++ (ob ++ own))) (fun c => [(Str.ofString "here", .ref c.1.1), (Str.ofString "moments", .ref mo), (Str.ofString "w", .int W tw), (Str.ofString "trail", .ref lt)]) (fun c => c.1.2 < 41 ∧ MoK W c.2 c.1.1 c.1.2 ∧ ∀ q ∈ c.2, Off s1.heap s1.heap.objs.size lt ly mo own q.1) ?_ ?_
      · walk_at "m.steps"
        refine Halt.mk ?_
        rename Fr _ _ _ _ => F
        rename News _ _ _ _ => N
        have hob9 := off_old N hob hoR
        refine use_mo (gone_c (P := Off s1.heap s1.heap.objs.size lt ly mo own) (Cx.deeper (Cx.less C (by decide)) F) ((hM _ _ _ (fun q hq => N q (.tail _ (.tail _ (.tail _ (List.mem_append_left _ hq)))))).imp hob9) ((hM2 _ _ _ (fun q hq => N q (.tail _ (.tail _ (.tail _ (List.mem_append_left _ hq)))))).imp hob9) (fun a ha => off_fresh F N a ha) hw' hk hk2) F N ?_
        intro m9 k9 h9 tk9 hk9 F N hmo9
        obtain ⟨more, Nm, hoffm, hMm⟩ := grow hmo9 (fun a ha => ha.1)
        have N9 : News s1.heap s1.heap.objs.size h9 ((lt, listOf #[.int (z + 1 + 1) u9, .ref ly] n9) :: (ly, listOf ys.toArray ny) :: (mo, listOf vs.toArray kv) :: (more ++ (ob ++ own))) := by
          intro q hq
          rcases List.mem_cons.mp hq with rfl | hq
          · exact N _ (.head _)
          rcases List.mem_cons.mp hq with rfl | hq
          · exact N _ (.tail _ (.head _))
          rcases List.mem_cons.mp hq with rfl | hq
          · exact N _ (.tail _ (.tail _ (.head _)))
          rcases List.mem_append.mp hq with hq | hq
          · exact Nm q hq
          · exact N q (.tail _ (.tail _ (.tail _ hq)))
        clear N Nm
        walk_at "m.steps"
        rename Fr _ _ _ _ => F
        rename News _ _ _ _ => N
        refine' NX.intro ((m9, k9), more) ?te16 ?te26 ?te36 ?te56 ?te66
        case te16 => exact F
        case te26 => exact N
        case te36 => walk_at "m.ins"
        case te56 => walk_at "m.all"
        case te66 =>
          exact ⟨hk9, hMm, hoffm⟩
      clear F N
      intro p139 u h tk p149 F N
      try k_fold
      obtain ⟨⟨m9, k9⟩, more⟩ := p139
      obtain ⟨hk9, hMm, hoffm⟩ := p149
      dsimp only [] at F N hk9 hMm hoffm ⊢
      refine wpAny_execs_cons ?_
      refine seq_ (h₀ := s1.heap) (L := s1.heap.objs.size) (s := s1) (σ := Unit) (fun _ => (lt, listOf #[.int (z + 1 + 1) u9, .ref ly] n9) :: (ly, listOf ys.toArray ny) :: (mo, listOf vs.toArray kv) :: (more ++ (ob ++ own))) (fun _ => [(Str.ofString "here", .ref m9), (Str.ofString "moments", .ref mo), (Str.ofString "w", .int W tw), (Str.ofString "trail", .ref lt)]) (fun _ => True) ?_ ?_
      · walk_at "m.steps"
        refine Halt.mk ?_
        rename Fr _ _ _ _ => F
        rename News _ _ _ _ => N
        refine' lstG_ [(Str.ofString "here", .ref m9), (Str.ofString "moments", .ref mo), (Str.ofString "w", .int W tw), (Str.ofString "trail", .ref lt)] rfl rfl (List.Mem.tail _ (.tail _ (.head _))) F N ?k1x ?turnx ?donex
        case k1x => walk_at "m.all"
        case donex =>
          clear F N
          intro u h tk F N
          rename Fr _ _ _ _ => F
          rename News _ _ _ _ => N
          refine' NX.intro () ?te17 ?te27 ?te37 ?te57 ?te67
          case te17 => exact F
          case te27 => exact N
          case te37 => walk_at "m.ins"
          case te57 => walk_at "m.all"
          case te67 =>
            trivial
        case turnx =>
          clear F N
          intro j v u h tk own2 hv F N
          obtain ⟨a9, k8, rfl, hk8, hM8⟩ := hvs v (List.mem_of_getElem? hv)
          dsimp only [List.cons_append] at N
          have H1 := (hMm _ _ _ (fun q hq => N q (.tail _ (.tail _ (.tail _ (List.mem_append_left _ (List.mem_append_left _ hq))))))).imp (P' := fun _ => True) (fun _ _ => trivial)
          have H2 := (hM8 _ _ _ (fun q hq => N q (.tail _ (.tail _ (.tail _ (List.mem_append_left _ (List.mem_append_right _ (List.mem_append_left _ hq)))))))).imp (P' := fun _ => True) (fun _ _ => trivial)
          walk_at "m.steps"
          refine Halt.mk ?_
          rename Fr _ _ _ _ => F
          rename News _ _ _ _ => N
          refine use_bool (fit_c (Cx.deeper (Cx.less C (by decide)) F) H1 H2 hw' hk9 hk8) F N ?_
          intro b h9 tk9 F N hb
          try dsimp only at hb
          subst hb
          walk_at "m.steps"
          rename Fr _ _ _ _ => F
          rename News _ _ _ _ => N
          refine' TEF.next (TE.intro () ?tx1 ?tx2 ?tx3 ?tx4 ?tx5 ?tx6)
          case tx1 => exact F
          case tx2 => exact N
          case tx3 => exact fun _ hp => List.mem_append_left own2 hp
          case tx4 => exact fun _ hp => .tail _ (.tail _ (.tail _ (List.mem_append_right _ hp)))
          case tx5 => walk_at "m.all"
          case tx6 => trivial
      clear F N
      rintro - u h tk - F N
      dsimp only [] at F N ⊢
      refine wpAny_execs_cons ?_
      walk_at "m.steps"
      refine Halt.mk ?_
      rename Fr _ _ _ _ => F
      rename News _ _ _ _ => N
      have hall : ∀ q ∈ more ++ (ob ++ own), @Ne Nat q.1 lt ∧ @Ne Nat q.1 ly ∧ @Ne Nat q.1 mo := fun q hq => (List.mem_append.mp hq).elim (fun h => (hoffm q h).2.1) (hR q)
      refine append_K F N (Upd.tail (fun e => hmo1 e.symm) (Upd.tail (fun e => hmo2 e.symm) (Upd.head (fun q hq => (hall q hq).2.2)))) ?_ (by rw [sizeLine_eq, List.size_toArray]; omega)
      intro h9 F N
      simp only [List.push_toArray] at N
      walk_at "m.steps"
      rename Fr _ _ _ _ => F
      rename News _ _ _ _ => N
      refine' TEF.next (TE.intro ((vs ++ [.ref m9], kv + 1), more ++ ob, (z + 1 + 1, u9, n9)) ?ty1 ?ty2 ?ty3 ?ty4 ?ty5 ?ty6)
      case ty1 => exact F
      case ty2 => exact N
      case ty3 =>
        intro q hq
        dsimp only at hq
        rcases List.mem_cons.mp hq with rfl | hq
        · exact .head _
        rcases List.mem_cons.mp hq with rfl | hq
        · exact .tail _ (.head _)
        rcases List.mem_cons.mp hq with rfl | hq
        · exact .tail _ (.tail _ (.head _))
        · refine .tail _ (.tail _ (.tail _ ?_))
          rcases List.mem_append.mp hq with hq | hq
          · exact List.mem_append_left _ hq
          · exact List.mem_append_right _ (List.mem_append_left _ hq)
      case ty4 => exact fun _ hp => .tail _ (.tail _ (.tail _ (List.mem_append_right _ (List.mem_append_right _ hp))))
      case ty5 => walk_at "m.all"
      case ty6 =>
        refine ⟨⟨?_, ?_, ?_, ?_, ?_⟩, ?_⟩
        · show (vs ++ [Value.ref m9]).length = i + 1 + 1
          rw [List.length_append, hlen]; rfl
        · intro v hv
          rcases List.mem_append.mp hv with hv | hv
          · obtain ⟨a9, k8, e, hk8, hM8⟩ := hvs v hv
            exact ⟨a9, k8, e, hk8, hM8.mono fun q hq => List.mem_append_right _ hq⟩
          · rw [List.mem_singleton.mp hv]
            exact ⟨m9, k9, rfl, hk9, hMm.mono fun q hq => List.mem_append_left _ hq⟩
        · intro q hq
          exact (List.mem_append.mp hq).elim (fun h => (hoffm q h).2.1) (hob q)
        · show 0 ≤ z + 1 + 1
          omega
        · show z + 1 + 1 ≤ 3 + 2 * ((i + 1 : Nat) : Int)
          omega
        · intro p hp b hb
          rcases List.mem_cons.mp hb with rfl | hb
          · exact (hoT p hp).1
          rcases List.mem_cons.mp hb with rfl | hb
          · exact (hoT p hp).2.1
          rcases List.mem_cons.mp hb with rfl | hb
          · exact (hoT p hp).2.2
          · obtain ⟨q, hq, rfl⟩ := List.mem_map.mp hb
            rcases List.mem_append.mp hq with hq | hq
            · exact (hoffm q hq).2.2 p hp
            · exact hoR p hp _ (List.mem_map.mpr ⟨q, hq, rfl⟩))
end

end

end Mine
end

theorem PySem.Challenge.cw_sj0077_01_holds : PySem.Challenge.rw_sj0077_01.Holds :=
  Mine.law_
