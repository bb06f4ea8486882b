import PyProof.Rows.All
import Wide.All
import OpenK.AllK
import Wide.FinOn
import Lean
import PySem.Challenge.RW_nn0027_01
open PySem PySem.W PyProof.Rows PySem.Calls
set_option Elab.async false
set_option linter.unusedVariables false
set_option linter.unusedSimpArgs false
set_option maxRecDepth 100000
set_option maxHeartbeats 1000000
namespace Mine
-- T2
/-- the heap's objects, laid into a tree one by one -/
def treeFrom : List Obj → Nat → BT → Option BT
  | [], _, t => some t
  | o :: r, n, t => match ((t.ins n o).get n).isSome with
    | true => treeFrom r (n + 1) (t.ins n o)
    | false => none
theorem treeFrom_abs (life : Life) : ∀ (l : List Obj) (n : Nat) (t t' : BT), treeFrom l n t = some t' → absHeap t' (n + l.length) life = ⟨(absHeap t n life).objs ++ l.toArray, life⟩
  | [], n, t, t', h => by
    cases h
    simp [absHeap]
  | o :: r, n, t, t', h => by
    unfold treeFrom at h
    cases e : ((t.ins n o).get n).isSome with
    | false => rw [e] at h; cases h
    | true =>
      rw [e] at h
      have := treeFrom_abs life r (n + 1) _ _ h
      rw [absHeap_ins e] at this
      rw [show n + (o :: r).length = n + 1 + r.length by simp only [List.length_cons]; omega, this]
      simp [Heap.push]
def Q : Program := view PySem.Challenge.pw_nn0027_01 ((List.range 56).filter fun i => match PySem.Challenge.pw_nn0027_01.main.body[i]? with | some (.Assign ..) => false | _ => true)
noncomputable def prm (j : Nat) : Arguments := match PySem.Challenge.pw_nn0027_01.main.body[j]? with
  | some (.FunctionDef _ params _ _ _ _ _ _ _ _) => params
  | _ => default
noncomputable def bdy (j : Nat) : List Stmt := match PySem.Challenge.pw_nn0027_01.main.body[j]? with
  | some (.FunctionDef _ _ body _ _ _ _ _ _ _) => body
  | _ => []
noncomputable def scp (j : Nat) : Scope := match PySem.Challenge.pw_nn0027_01.main.body[j]? with
  | some (.FunctionDef _ _ _ _ _ _ scope _ _ _) => scope
  | _ => default
/-- the heap at the top's end -/
noncomputable def obj0 (P : Params) : List Obj := [boot_o_0 P,
  boot_o_1 P,
  Obj.mk Value.none none (Data.dict #[DictEntry.mk (PyData.keyHash P (Str.ofString "type.__subclasses__.Exception.0")) (Value.str (Str.ofString "type.__subclasses__.Exception.0") 205) (Value.int 24 0), DictEntry.mk (PyData.keyHash P (Str.ofString "type.__subclasses__.Exception.n")) (Value.str (Str.ofString "type.__subclasses__.Exception.n") 206) (Value.int 1 0)] 2) #[],
  Obj.mk (Value.type "dict") none (Data.dict #[DictEntry.mk (PyData.keyHash P (Str.ofString "__name__")) (Value.str (Str.ofString "__name__") 165) (Value.str (Str.ofString "law_nn0027_01") 621), DictEntry.mk (PyData.keyHash P (Str.ofString "__doc__")) (Value.str (Str.ofString "__doc__") 166) Value.none, DictEntry.mk (PyData.keyHash P (Str.ofString "__package__")) (Value.str (Str.ofString "__package__") 167) Value.none, DictEntry.mk (PyData.keyHash P (Str.ofString "__loader__")) (Value.str (Str.ofString "__loader__") 168) (Value.builtin "__main__.__loader__#opaque"), DictEntry.mk (PyData.keyHash P (Str.ofString "__spec__")) (Value.str (Str.ofString "__spec__") 169) Value.none, DictEntry.mk (PyData.keyHash P (Str.ofString "__annotations__")) (Value.str (Str.ofString "__annotations__") 170) (Value.ref 6), DictEntry.mk (PyData.keyHash P (Str.ofString "__builtins__")) (Value.str (Str.ofString "__builtins__") 171) (Value.ref 4), DictEntry.mk (PyData.keyHash P (Str.ofString "__file__")) (Value.str (Str.ofString "__file__") 173) (Value.str (Str.ofString "/claim/cut.py") 172), DictEntry.mk (PyData.keyHash P (Str.ofString "__cached__")) (Value.str (Str.ofString "__cached__") 174) Value.none, DictEntry.mk (PyData.keyHash P (Str.ofString "GmpError")) (Value.str (Str.ofString "GmpError") 208) (Value.ref 24), DictEntry.mk (PyData.keyHash P (Str.ofString "NotExact")) (Value.str (Str.ofString "NotExact") 224) (Value.ref 37), DictEntry.mk (PyData.keyHash P (Str.ofString "OutOfRange")) (Value.str (Str.ofString "OutOfRange") 240) (Value.ref 49), DictEntry.mk (PyData.keyHash P (Str.ofString "normal")) (Value.str (Str.ofString "normal") 248) (Value.ref 58), DictEntry.mk (PyData.keyHash P (Str.ofString "compare")) (Value.str (Str.ofString "compare") 257) (Value.ref 65), DictEntry.mk (PyData.keyHash P (Str.ofString "add")) (Value.str (Str.ofString "add") 270) (Value.ref 72), DictEntry.mk (PyData.keyHash P (Str.ofString "sub")) (Value.str (Str.ofString "sub") 284) (Value.ref 79), DictEntry.mk (PyData.keyHash P (Str.ofString "add_at")) (Value.str (Str.ofString "add_at") 294) (Value.ref 86), DictEntry.mk (PyData.keyHash P (Str.ofString "shift_left")) (Value.str (Str.ofString "shift_left") 309) (Value.ref 93), DictEntry.mk (PyData.keyHash P (Str.ofString "signed")) (Value.str (Str.ofString "signed") 319) (Value.ref 100), DictEntry.mk (PyData.keyHash P (Str.ofString "s_neg")) (Value.str (Str.ofString "s_neg") 326) (Value.ref 107), DictEntry.mk (PyData.keyHash P (Str.ofString "s_add")) (Value.str (Str.ofString "s_add") 335) (Value.ref 114), DictEntry.mk (PyData.keyHash P (Str.ofString "s_sub")) (Value.str (Str.ofString "s_sub") 344) (Value.ref 121), DictEntry.mk (PyData.keyHash P (Str.ofString "s_mul")) (Value.str (Str.ofString "s_mul") 354) (Value.ref 128), DictEntry.mk (PyData.keyHash P (Str.ofString "pieces")) (Value.str (Str.ofString "pieces") 362) (Value.ref 133), DictEntry.mk (PyData.keyHash P (Str.ofString "piece_size")) (Value.str (Str.ofString "piece_size") 370) (Value.ref 140), DictEntry.mk (PyData.keyHash P (Str.ofString "scaled")) (Value.str (Str.ofString "scaled") 379) (Value.ref 147), DictEntry.mk (PyData.keyHash P (Str.ofString "exact_small")) (Value.str (Str.ofString "exact_small") 392) (Value.ref 154), DictEntry.mk (PyData.keyHash P (Str.ofString "both_values")) (Value.str (Str.ofString "both_values") 406) (Value.ref 161), DictEntry.mk (PyData.keyHash P (Str.ofString "value_at_two")) (Value.str (Str.ofString "value_at_two") 416) (Value.ref 168), DictEntry.mk (PyData.keyHash P (Str.ofString "value_at_half")) (Value.str (Str.ofString "value_at_half") 426) (Value.ref 175), DictEntry.mk (PyData.keyHash P (Str.ofString "halves_of")) (Value.str (Str.ofString "halves_of") 435) (Value.ref 182), DictEntry.mk (PyData.keyHash P (Str.ofString "natural")) (Value.str (Str.ofString "natural") 442) (Value.ref 189), DictEntry.mk (PyData.keyHash P (Str.ofString "from_four")) (Value.str (Str.ofString "from_four") 448) (Value.ref 194), DictEntry.mk (PyData.keyHash P (Str.ofString "from_five")) (Value.str (Str.ofString "from_five") 454) (Value.ref 199), DictEntry.mk (PyData.keyHash P (Str.ofString "even_coefficients")) (Value.str (Str.ofString "even_coefficients") 468) (Value.ref 206), DictEntry.mk (PyData.keyHash P (Str.ofString "odd_coefficients")) (Value.str (Str.ofString "odd_coefficients") 482) (Value.ref 213), DictEntry.mk (PyData.keyHash P (Str.ofString "from_seven")) (Value.str (Str.ofString "from_seven") 488) (Value.ref 218), DictEntry.mk (PyData.keyHash P (Str.ofString "recomposed")) (Value.str (Str.ofString "recomposed") 500) (Value.ref 225), DictEntry.mk (PyData.keyHash P (Str.ofString "products_of")) (Value.str (Str.ofString "products_of") 508) (Value.ref 230), DictEntry.mk (PyData.keyHash P (Str.ofString "ends_of")) (Value.str (Str.ofString "ends_of") 515) (Value.ref 237), DictEntry.mk (PyData.keyHash P (Str.ofString "values_four")) (Value.str (Str.ofString "values_four") 523) (Value.ref 244), DictEntry.mk (PyData.keyHash P (Str.ofString "values_five")) (Value.str (Str.ofString "values_five") 531) (Value.ref 251), DictEntry.mk (PyData.keyHash P (Str.ofString "values_seven")) (Value.str (Str.ofString "values_seven") 539) (Value.ref 258), DictEntry.mk (PyData.keyHash P (Str.ofString "joined_five")) (Value.str (Str.ofString "joined_five") 548) (Value.ref 265), DictEntry.mk (PyData.keyHash P (Str.ofString "joined_seven")) (Value.str (Str.ofString "joined_seven") 558) (Value.ref 272), DictEntry.mk (PyData.keyHash P (Str.ofString "common_size")) (Value.str (Str.ofString "common_size") 568) (Value.ref 279), DictEntry.mk (PyData.keyHash P (Str.ofString "toom3")) (Value.str (Str.ofString "toom3") 581) (Value.ref 286), DictEntry.mk (PyData.keyHash P (Str.ofString "toom4")) (Value.str (Str.ofString "toom4") 594) (Value.ref 293), DictEntry.mk (PyData.keyHash P (Str.ofString "squares_of")) (Value.str (Str.ofString "squares_of") 600) (Value.ref 298), DictEntry.mk (PyData.keyHash P (Str.ofString "toom_sqr3")) (Value.str (Str.ofString "toom_sqr3") 610) (Value.ref 305), DictEntry.mk (PyData.keyHash P (Str.ofString "toom_sqr4")) (Value.str (Str.ofString "toom_sqr4") 620) (Value.ref 312), DictEntry.mk (PyData.keyHash P (Str.ofString "_law_nat")) (Value.str (Str.ofString "_law_nat") 631) (Value.ref 319), DictEntry.mk (PyData.keyHash P (Str.ofString "_law_value")) (Value.str (Str.ofString "_law_value") 641) (Value.ref 326), DictEntry.mk (PyData.keyHash P (Str.ofString "_law_mul")) (Value.str (Str.ofString "_law_mul") 656) (Value.ref 333), DictEntry.mk (PyData.keyHash P (Str.ofString "_law_sqr")) (Value.str (Str.ofString "_law_sqr") 664) (Value.ref 340), DictEntry.mk (PyData.keyHash P (Str.ofString "_law_number")) (Value.str (Str.ofString "_law_number") 677) (Value.ref 347), DictEntry.mk (PyData.keyHash P (Str.ofString "_law_signed")) (Value.str (Str.ofString "_law_signed") 685) (Value.ref 354), DictEntry.mk (PyData.keyHash P (Str.ofString "_law_at")) (Value.str (Str.ofString "_law_at") 695) (Value.ref 361), DictEntry.mk (PyData.keyHash P (Str.ofString "_law_points_right")) (Value.str (Str.ofString "_law_points_right") 701) (Value.ref 366), DictEntry.mk (PyData.keyHash P (Str.ofString "law")) (Value.str (Str.ofString "law") 707) (Value.ref 371)] 60) #[],
  boot_o_4 P,
  boot_o_5 P,
  boot_o_6 P,
  boot_o_7 P,
  boot_o_8 P,
  boot_o_9 P,
  boot_o_10 P,
  Obj.mk (Value.type "tuple") none (Data.seq #[]) #[],
  Obj.mk Value.none none (Data.fields #[Value.int 2 0, Value.int 0 0, Value.ref 20, Value.int 4 0, Value.int 0 0, Value.ref 33, Value.int 6 0, Value.int 0 0, Value.ref 45, Value.int 8 0, Value.int 0 0, Value.ref 57, Value.int 13 0, Value.int 0 0, Value.ref 64, Value.int 20 0, Value.int 0 0, Value.ref 71, Value.int 35 0, Value.int 0 0, Value.ref 78, Value.int 44 0, Value.int 0 0, Value.ref 85, Value.int 50 0, Value.int 0 0, Value.ref 92, Value.int 63 0, Value.int 0 0, Value.ref 99, Value.int 65 0, Value.int 0 0, Value.ref 106, Value.int 67 0, Value.int 0 0, Value.ref 113, Value.int 73 0, Value.int 0 0, Value.ref 120, Value.int 75 0, Value.int 0 0, Value.ref 127, Value.int 78 0, Value.int 0 0, Value.ref 132, Value.int 81 0, Value.int 0 0, Value.ref 139, Value.int 83 0, Value.int 0 0, Value.ref 146, Value.int 85 0, Value.int 0 0, Value.ref 153, Value.int 94 0, Value.int 0 0, Value.ref 160, Value.int 103 0, Value.int 0 0, Value.ref 167, Value.int 108 0, Value.int 0 0, Value.ref 174, Value.int 113 0, Value.int 0 0, Value.ref 181, Value.int 115 0, Value.int 0 0, Value.ref 188, Value.int 119 0, Value.int 0 0, Value.ref 193, Value.int 124 0, Value.int 0 0, Value.ref 198, Value.int 133 0, Value.int 0 0, Value.ref 205, Value.int 138 0, Value.int 0 0, Value.ref 212, Value.int 144 0, Value.int 0 0, Value.ref 217, Value.int 152 0, Value.int 0 0, Value.ref 224, Value.int 158 0, Value.int 0 0, Value.ref 229, Value.int 160 0, Value.int 0 0, Value.ref 236, Value.int 162 0, Value.int 0 0, Value.ref 243, Value.int 164 0, Value.int 0 0, Value.ref 250, Value.int 166 0, Value.int 0 0, Value.ref 257, Value.int 168 0, Value.int 0 0, Value.ref 264, Value.int 170 0, Value.int 0 0, Value.ref 271, Value.int 173 0, Value.int 0 0, Value.ref 278, Value.int 175 0, Value.int 0 0, Value.ref 285, Value.int 179 0, Value.int 0 0, Value.ref 292, Value.int 183 0, Value.int 0 0, Value.ref 297, Value.int 185 0, Value.int 0 0, Value.ref 304, Value.int 188 0, Value.int 0 0, Value.ref 311, Value.int 192 0, Value.int 0 0, Value.ref 318, Value.int 198 0, Value.int 0 0, Value.ref 325, Value.int 205 0, Value.int 0 0, Value.ref 332, Value.int 217 0, Value.int 0 0, Value.ref 339, Value.int 219 0, Value.int 0 0, Value.ref 346, Value.int 226 0, Value.int 0 0, Value.ref 353, Value.int 228 0, Value.int 0 0, Value.ref 360, Value.int 233 0, Value.int 0 0, Value.ref 365, Value.int 250 0, Value.int 0 0, Value.ref 370]) #[],
  Obj.mk (Value.type "code") none (Data.fields #[Value.str (Str.ofString "<module>") 182, Value.str (Str.ofString "<module>") 183, Value.str (Str.ofString "/claim/cut.py") 184, Value.int 1 0, Value.int 0 0, Value.int 0 0, Value.int 0 0, Value.int 0 0, Value.ref 11, Value.bool false, Value.int 181 0, Value.ref 12, Value.none, Value.none, Value.none, Value.none, Value.int 185 0, Value.int 1 0, Value.str (Str.ofString "/claim/cut.py") 186]) #[],
  Obj.mk (Value.type "frame") none Data.plain #[some (Value.ref 13), some (Value.ref 3), some (Value.ref 3), none, some (Value.str (Str.ofString "__main__") 164), none, some (Value.ref 0)],
  Obj.mk (Value.type "tuple") none (Data.seq #[Value.type "Exception"]) #[],
  Obj.mk (Value.type "builtin_function_or_method") none (Data.fields #[Value.builtin "type.__prepare__", Value.type "type"]) #[],
  Obj.mk (Value.type "dict") none (Data.dict #[DictEntry.mk (PyData.keyHash P (Str.ofString "__module__")) (Value.str (Str.ofString "__module__") 196) (Value.str (Str.ofString "gmp.limbs") 187), DictEntry.mk (PyData.keyHash P (Str.ofString "__qualname__")) (Value.str (Str.ofString "__qualname__") 198) (Value.str (Str.ofString "GmpError") 197), DictEntry.mk (PyData.keyHash P (Str.ofString "__firstlineno__")) (Value.str (Str.ofString "__firstlineno__") 200) (Value.int 2 199), DictEntry.mk (PyData.keyHash P (Str.ofString "__static_attributes__")) (Value.str (Str.ofString "__static_attributes__") 201) (Value.ref 22)] 4) #[],
  Obj.mk (Value.type "tuple") none (Data.seq #[]) #[],
  Obj.mk Value.none none (Data.fields #[]) #[],
  Obj.mk (Value.type "code") none (Data.fields #[Value.str (Str.ofString "GmpError") 191, Value.str (Str.ofString "GmpError") 192, Value.str (Str.ofString "/claim/cut.py") 193, Value.int 2 0, Value.int 0 0, Value.int 0 0, Value.int 0 0, Value.int 0 0, Value.ref 18, Value.bool false, Value.int 181 0, Value.ref 19, Value.none, Value.none, Value.none, Value.none, Value.int 194 0, Value.int 2 0, Value.str (Str.ofString "/claim/cut.py") 195]) #[],
  Obj.mk (Value.type "frame") none Data.plain #[some (Value.ref 20), some (Value.ref 3), some (Value.ref 17), none, some (Value.str (Str.ofString "gmp.limbs") 187), none, some (Value.ref 0)],
  Obj.mk (Value.type "tuple") none (Data.seq #[]) #[],
  Obj.mk (Value.type "dict") none (Data.dict #[DictEntry.mk (PyData.keyHash P (Str.ofString "__module__")) (Value.str (Str.ofString "__module__") 196) (Value.str (Str.ofString "gmp.limbs") 187), DictEntry.mk (PyData.keyHash P (Str.ofString "__firstlineno__")) (Value.str (Str.ofString "__firstlineno__") 200) (Value.int 2 199), DictEntry.mk (PyData.keyHash P (Str.ofString "__static_attributes__")) (Value.str (Str.ofString "__static_attributes__") 201) (Value.ref 22), DictEntry.mk (PyData.keyHash P (Str.ofString "__weakref__")) (Value.str (Str.ofString "__weakref__") 203) (Value.ref 25), DictEntry.mk (PyData.keyHash P (Str.ofString "__doc__")) (Value.str (Str.ofString "__doc__") 204) Value.none] 3) #[],
  Obj.mk (Value.type "type") none (Data.cls (ClassData.mk (Str.ofString "GmpError") [Value.type "Exception"] [Value.ref 24, Value.type "Exception", Value.type "BaseException", Value.type "object"] 23 (Str.ofString "GmpError") true [] [Value.ref 37, Value.ref 49] false none false)) #[some (Value.ref 15), none, some (Value.str (Str.ofString "GmpError") 189), some (Value.str (Str.ofString "GmpError") 197), some (Value.builtin "Exception.__new__"), some (Value.bool true)],
  Obj.mk (Value.type "getset_descriptor") none (Data.fields #[Value.str (Str.ofString "__weakref__") 202, Value.ref 24, Value.builtin "ExceptionGroup.__weakref__", Value.none]) #[],
  Obj.mk (Value.type "super") none (Data.fields #[Value.ref 24, Value.ref 24, Value.ref 24]) #[],
  Obj.mk (Value.type "builtin_function_or_method") none (Data.fields #[Value.builtin "object.__init_subclass__", Value.ref 24]) #[],
  Obj.mk (Value.type "tuple") none (Data.seq #[Value.ref 24]) #[],
  Obj.mk (Value.type "builtin_function_or_method") none (Data.fields #[Value.builtin "type.__prepare__", Value.type "type"]) #[],
  Obj.mk (Value.type "dict") none (Data.dict #[DictEntry.mk (PyData.keyHash P (Str.ofString "__module__")) (Value.str (Str.ofString "__module__") 216) (Value.str (Str.ofString "gmp.limbs") 187), DictEntry.mk (PyData.keyHash P (Str.ofString "__qualname__")) (Value.str (Str.ofString "__qualname__") 218) (Value.str (Str.ofString "NotExact") 217), DictEntry.mk (PyData.keyHash P (Str.ofString "__firstlineno__")) (Value.str (Str.ofString "__firstlineno__") 220) (Value.int 4 219), DictEntry.mk (PyData.keyHash P (Str.ofString "__static_attributes__")) (Value.str (Str.ofString "__static_attributes__") 221) (Value.ref 35)] 4) #[]]
noncomputable def obj1 (P : Params) : List Obj := [Obj.mk (Value.type "tuple") none (Data.seq #[]) #[],
  Obj.mk Value.none none (Data.fields #[]) #[],
  Obj.mk (Value.type "code") none (Data.fields #[Value.str (Str.ofString "NotExact") 211, Value.str (Str.ofString "NotExact") 212, Value.str (Str.ofString "/claim/cut.py") 213, Value.int 4 0, Value.int 0 0, Value.int 0 0, Value.int 0 0, Value.int 0 0, Value.ref 31, Value.bool false, Value.int 181 0, Value.ref 32, Value.none, Value.none, Value.none, Value.none, Value.int 214 0, Value.int 4 0, Value.str (Str.ofString "/claim/cut.py") 215]) #[],
  Obj.mk (Value.type "frame") none Data.plain #[some (Value.ref 33), some (Value.ref 3), some (Value.ref 30), none, some (Value.str (Str.ofString "gmp.limbs") 187), none, some (Value.ref 0)],
  Obj.mk (Value.type "tuple") none (Data.seq #[]) #[],
  Obj.mk (Value.type "dict") none (Data.dict #[DictEntry.mk (PyData.keyHash P (Str.ofString "__module__")) (Value.str (Str.ofString "__module__") 216) (Value.str (Str.ofString "gmp.limbs") 187), DictEntry.mk (PyData.keyHash P (Str.ofString "__firstlineno__")) (Value.str (Str.ofString "__firstlineno__") 220) (Value.int 4 219), DictEntry.mk (PyData.keyHash P (Str.ofString "__static_attributes__")) (Value.str (Str.ofString "__static_attributes__") 221) (Value.ref 35), DictEntry.mk (PyData.keyHash P (Str.ofString "__doc__")) (Value.str (Str.ofString "__doc__") 222) Value.none] 2) #[],
  Obj.mk (Value.type "type") none (Data.cls (ClassData.mk (Str.ofString "NotExact") [Value.ref 24] [Value.ref 37, Value.ref 24, Value.type "Exception", Value.type "BaseException", Value.type "object"] 36 (Str.ofString "NotExact") true [] [] false none false)) #[some (Value.ref 28), none, some (Value.str (Str.ofString "NotExact") 209), some (Value.str (Str.ofString "NotExact") 217), some (Value.builtin "Exception.__new__"), some (Value.bool true)],
  Obj.mk (Value.type "super") none (Data.fields #[Value.ref 37, Value.ref 37, Value.ref 37]) #[],
  Obj.mk (Value.type "builtin_function_or_method") none (Data.fields #[Value.builtin "object.__init_subclass__", Value.ref 37]) #[],
  Obj.mk (Value.type "tuple") none (Data.seq #[Value.ref 24]) #[],
  Obj.mk (Value.type "builtin_function_or_method") none (Data.fields #[Value.builtin "type.__prepare__", Value.type "type"]) #[],
  Obj.mk (Value.type "dict") none (Data.dict #[DictEntry.mk (PyData.keyHash P (Str.ofString "__module__")) (Value.str (Str.ofString "__module__") 232) (Value.str (Str.ofString "gmp.limbs") 187), DictEntry.mk (PyData.keyHash P (Str.ofString "__qualname__")) (Value.str (Str.ofString "__qualname__") 234) (Value.str (Str.ofString "OutOfRange") 233), DictEntry.mk (PyData.keyHash P (Str.ofString "__firstlineno__")) (Value.str (Str.ofString "__firstlineno__") 236) (Value.int 6 235), DictEntry.mk (PyData.keyHash P (Str.ofString "__static_attributes__")) (Value.str (Str.ofString "__static_attributes__") 237) (Value.ref 47)] 4) #[],
  Obj.mk (Value.type "tuple") none (Data.seq #[]) #[],
  Obj.mk Value.none none (Data.fields #[]) #[],
  Obj.mk (Value.type "code") none (Data.fields #[Value.str (Str.ofString "OutOfRange") 227, Value.str (Str.ofString "OutOfRange") 228, Value.str (Str.ofString "/claim/cut.py") 229, Value.int 6 0, Value.int 0 0, Value.int 0 0, Value.int 0 0, Value.int 0 0, Value.ref 43, Value.bool false, Value.int 181 0, Value.ref 44, Value.none, Value.none, Value.none, Value.none, Value.int 230 0, Value.int 6 0, Value.str (Str.ofString "/claim/cut.py") 231]) #[],
  Obj.mk (Value.type "frame") none Data.plain #[some (Value.ref 45), some (Value.ref 3), some (Value.ref 42), none, some (Value.str (Str.ofString "gmp.limbs") 187), none, some (Value.ref 0)],
  Obj.mk (Value.type "tuple") none (Data.seq #[]) #[],
  Obj.mk (Value.type "dict") none (Data.dict #[DictEntry.mk (PyData.keyHash P (Str.ofString "__module__")) (Value.str (Str.ofString "__module__") 232) (Value.str (Str.ofString "gmp.limbs") 187), DictEntry.mk (PyData.keyHash P (Str.ofString "__firstlineno__")) (Value.str (Str.ofString "__firstlineno__") 236) (Value.int 6 235), DictEntry.mk (PyData.keyHash P (Str.ofString "__static_attributes__")) (Value.str (Str.ofString "__static_attributes__") 237) (Value.ref 47), DictEntry.mk (PyData.keyHash P (Str.ofString "__doc__")) (Value.str (Str.ofString "__doc__") 238) Value.none] 2) #[],
  Obj.mk (Value.type "type") none (Data.cls (ClassData.mk (Str.ofString "OutOfRange") [Value.ref 24] [Value.ref 49, Value.ref 24, Value.type "Exception", Value.type "BaseException", Value.type "object"] 48 (Str.ofString "OutOfRange") true [] [] false none false)) #[some (Value.ref 40), none, some (Value.str (Str.ofString "OutOfRange") 225), some (Value.str (Str.ofString "OutOfRange") 233), some (Value.builtin "Exception.__new__"), some (Value.bool true)],
  Obj.mk (Value.type "super") none (Data.fields #[Value.ref 49, Value.ref 49, Value.ref 49]) #[],
  Obj.mk (Value.type "builtin_function_or_method") none (Data.fields #[Value.builtin "object.__init_subclass__", Value.ref 49]) #[],
  Obj.mk (Value.type "tuple") none (Data.seq #[]) #[],
  Obj.mk Value.none none (Data.fields #[]) #[],
  Obj.mk (Value.type "tuple") none (Data.seq #[Value.str (Str.ofString "a") 244, Value.str (Str.ofString "end") 245]) #[],
  Obj.mk (Value.type "tuple") none (Data.seq #[]) #[],
  Obj.mk Value.none none (Data.func (FuncData.mk (Str.ofString "normal") (Str.ofString "normal") (prm 4) (FuncBody.stmts (bdy 4)) (scp 4) 0 [] Value.none Value.none Value.none Value.none none Value.none Value.none 0)) #[],
  Obj.mk (Value.type "code") none (Data.fields #[Value.str (Str.ofString "normal") 241, Value.str (Str.ofString "normal") 242, Value.str (Str.ofString "/claim/cut.py") 243, Value.int 8 0, Value.int 1 0, Value.int 0 0, Value.int 0 0, Value.int 3 0, Value.ref 52, Value.bool true, Value.int 181 0, Value.ref 53, Value.none, Value.ref 54, Value.ref 55, Value.ref 56, Value.int 246 0, Value.int 8 0, Value.str (Str.ofString "/claim/cut.py") 247]) #[],
  Obj.mk (Value.type "function") none (Data.func (FuncData.mk (Str.ofString "normal") (Str.ofString "normal") (prm 4) (FuncBody.stmts (bdy 4)) (scp 4) 3 [] Value.none Value.none Value.none (Value.str (Str.ofString "gmp.limbs") 187) none (Value.ref 57) Value.none 0)) #[],
  Obj.mk (Value.type "tuple") none (Data.seq #[]) #[],
  Obj.mk Value.none none (Data.fields #[]) #[],
  Obj.mk (Value.type "tuple") none (Data.seq #[Value.str (Str.ofString "a") 252, Value.str (Str.ofString "b") 253, Value.str (Str.ofString "at") 254]) #[]]
noncomputable def obj2 (_P : Params) : List Obj := [Obj.mk (Value.type "tuple") none (Data.seq #[]) #[],
  Obj.mk Value.none none (Data.func (FuncData.mk (Str.ofString "compare") (Str.ofString "compare") (prm 5) (FuncBody.stmts (bdy 5)) (scp 5) 0 [] Value.none Value.none Value.none Value.none none Value.none Value.none 0)) #[],
  Obj.mk (Value.type "code") none (Data.fields #[Value.str (Str.ofString "compare") 249, Value.str (Str.ofString "compare") 250, Value.str (Str.ofString "/claim/cut.py") 251, Value.int 13 0, Value.int 2 0, Value.int 0 0, Value.int 0 0, Value.int 3 0, Value.ref 59, Value.bool true, Value.int 181 0, Value.ref 60, Value.none, Value.ref 61, Value.ref 62, Value.ref 63, Value.int 255 0, Value.int 13 0, Value.str (Str.ofString "/claim/cut.py") 256]) #[],
  Obj.mk (Value.type "function") none (Data.func (FuncData.mk (Str.ofString "compare") (Str.ofString "compare") (prm 5) (FuncBody.stmts (bdy 5)) (scp 5) 3 [] Value.none Value.none Value.none (Value.str (Str.ofString "gmp.limbs") 187) none (Value.ref 64) Value.none 0)) #[],
  Obj.mk (Value.type "tuple") none (Data.seq #[]) #[],
  Obj.mk Value.none none (Data.fields #[]) #[],
  Obj.mk (Value.type "tuple") none (Data.seq #[Value.str (Str.ofString "a") 261, Value.str (Str.ofString "b") 262, Value.str (Str.ofString "w") 263, Value.str (Str.ofString "found") 264, Value.str (Str.ofString "carry") 265, Value.str (Str.ofString "mask") 266, Value.str (Str.ofString "at") 267]) #[],
  Obj.mk (Value.type "tuple") none (Data.seq #[]) #[],
  Obj.mk Value.none none (Data.func (FuncData.mk (Str.ofString "add") (Str.ofString "add") (prm 6) (FuncBody.stmts (bdy 6)) (scp 6) 0 [] Value.none Value.none Value.none Value.none none Value.none Value.none 0)) #[],
  Obj.mk (Value.type "code") none (Data.fields #[Value.str (Str.ofString "add") 258, Value.str (Str.ofString "add") 259, Value.str (Str.ofString "/claim/cut.py") 260, Value.int 20 0, Value.int 3 0, Value.int 0 0, Value.int 0 0, Value.int 3 0, Value.ref 66, Value.bool true, Value.int 181 0, Value.ref 67, Value.none, Value.ref 68, Value.ref 69, Value.ref 70, Value.int 268 0, Value.int 20 0, Value.str (Str.ofString "/claim/cut.py") 269]) #[],
  Obj.mk (Value.type "function") none (Data.func (FuncData.mk (Str.ofString "add") (Str.ofString "add") (prm 6) (FuncBody.stmts (bdy 6)) (scp 6) 3 [] Value.none Value.none Value.none (Value.str (Str.ofString "gmp.limbs") 187) none (Value.ref 71) Value.none 0)) #[],
  Obj.mk (Value.type "tuple") none (Data.seq #[]) #[],
  Obj.mk Value.none none (Data.fields #[]) #[],
  Obj.mk (Value.type "tuple") none (Data.seq #[Value.str (Str.ofString "a") 274, Value.str (Str.ofString "b") 275, Value.str (Str.ofString "w") 276, Value.str (Str.ofString "found") 277, Value.str (Str.ofString "borrow") 278, Value.str (Str.ofString "base") 279, Value.str (Str.ofString "at") 280, Value.str (Str.ofString "limb") 281]) #[],
  Obj.mk (Value.type "tuple") none (Data.seq #[]) #[],
  Obj.mk Value.none none (Data.func (FuncData.mk (Str.ofString "sub") (Str.ofString "sub") (prm 7) (FuncBody.stmts (bdy 7)) (scp 7) 0 [] Value.none Value.none Value.none Value.none none Value.none Value.none 0)) #[],
  Obj.mk (Value.type "code") none (Data.fields #[Value.str (Str.ofString "sub") 271, Value.str (Str.ofString "sub") 272, Value.str (Str.ofString "/claim/cut.py") 273, Value.int 35 0, Value.int 3 0, Value.int 0 0, Value.int 0 0, Value.int 3 0, Value.ref 73, Value.bool true, Value.int 181 0, Value.ref 74, Value.none, Value.ref 75, Value.ref 76, Value.ref 77, Value.int 282 0, Value.int 35 0, Value.str (Str.ofString "/claim/cut.py") 283]) #[],
  Obj.mk (Value.type "function") none (Data.func (FuncData.mk (Str.ofString "sub") (Str.ofString "sub") (prm 7) (FuncBody.stmts (bdy 7)) (scp 7) 3 [] Value.none Value.none Value.none (Value.str (Str.ofString "gmp.limbs") 187) none (Value.ref 78) Value.none 0)) #[],
  Obj.mk (Value.type "tuple") none (Data.seq #[]) #[],
  Obj.mk Value.none none (Data.fields #[]) #[],
  Obj.mk (Value.type "tuple") none (Data.seq #[Value.str (Str.ofString "a") 288, Value.str (Str.ofString "b") 289, Value.str (Str.ofString "spot") 290, Value.str (Str.ofString "w") 291]) #[],
  Obj.mk (Value.type "tuple") none (Data.seq #[]) #[],
  Obj.mk Value.none none (Data.func (FuncData.mk (Str.ofString "add_at") (Str.ofString "add_at") (prm 8) (FuncBody.stmts (bdy 8)) (scp 8) 0 [] Value.none Value.none Value.none Value.none none Value.none Value.none 0)) #[],
  Obj.mk (Value.type "code") none (Data.fields #[Value.str (Str.ofString "add_at") 285, Value.str (Str.ofString "add_at") 286, Value.str (Str.ofString "/claim/cut.py") 287, Value.int 44 0, Value.int 4 0, Value.int 0 0, Value.int 0 0, Value.int 3 0, Value.ref 80, Value.bool true, Value.int 181 0, Value.ref 81, Value.none, Value.ref 82, Value.ref 83, Value.ref 84, Value.int 292 0, Value.int 44 0, Value.str (Str.ofString "/claim/cut.py") 293]) #[],
  Obj.mk (Value.type "function") none (Data.func (FuncData.mk (Str.ofString "add_at") (Str.ofString "add_at") (prm 8) (FuncBody.stmts (bdy 8)) (scp 8) 3 [] Value.none Value.none Value.none (Value.str (Str.ofString "gmp.limbs") 187) none (Value.ref 85) Value.none 0)) #[],
  Obj.mk (Value.type "tuple") none (Data.seq #[]) #[],
  Obj.mk Value.none none (Data.fields #[]) #[],
  Obj.mk (Value.type "tuple") none (Data.seq #[Value.str (Str.ofString "a") 298, Value.str (Str.ofString "n") 299, Value.str (Str.ofString "w") 300, Value.str (Str.ofString "spots") 301, Value.str (Str.ofString "few") 302, Value.str (Str.ofString "found") 303, Value.str (Str.ofString "carry") 304, Value.str (Str.ofString "mask") 305, Value.str (Str.ofString "one") 306]) #[],
  Obj.mk (Value.type "tuple") none (Data.seq #[]) #[],
  Obj.mk Value.none none (Data.func (FuncData.mk (Str.ofString "shift_left") (Str.ofString "shift_left") (prm 9) (FuncBody.stmts (bdy 9)) (scp 9) 0 [] Value.none Value.none Value.none Value.none none Value.none Value.none 0)) #[],
  Obj.mk (Value.type "code") none (Data.fields #[Value.str (Str.ofString "shift_left") 295, Value.str (Str.ofString "shift_left") 296, Value.str (Str.ofString "/claim/cut.py") 297, Value.int 50 0, Value.int 3 0, Value.int 0 0, Value.int 0 0, Value.int 3 0, Value.ref 87, Value.bool true, Value.int 181 0, Value.ref 88, Value.none, Value.ref 89, Value.ref 90, Value.ref 91, Value.int 307 0, Value.int 50 0, Value.str (Str.ofString "/claim/cut.py") 308]) #[]]
noncomputable def obj3 (_P : Params) : List Obj := [Obj.mk (Value.type "function") none (Data.func (FuncData.mk (Str.ofString "shift_left") (Str.ofString "shift_left") (prm 9) (FuncBody.stmts (bdy 9)) (scp 9) 3 [] Value.none Value.none Value.none (Value.str (Str.ofString "gmp.limbs") 187) none (Value.ref 92) Value.none 0)) #[],
  Obj.mk (Value.type "tuple") none (Data.seq #[]) #[],
  Obj.mk Value.none none (Data.fields #[]) #[],
  Obj.mk (Value.type "tuple") none (Data.seq #[Value.str (Str.ofString "is_below") 315, Value.str (Str.ofString "nat") 316]) #[],
  Obj.mk (Value.type "tuple") none (Data.seq #[]) #[],
  Obj.mk Value.none none (Data.func (FuncData.mk (Str.ofString "signed") (Str.ofString "signed") (prm 11) (FuncBody.stmts (bdy 11)) (scp 11) 0 [] Value.none Value.none Value.none Value.none none Value.none Value.none 0)) #[],
  Obj.mk (Value.type "code") none (Data.fields #[Value.str (Str.ofString "signed") 312, Value.str (Str.ofString "signed") 313, Value.str (Str.ofString "/claim/cut.py") 314, Value.int 63 0, Value.int 2 0, Value.int 0 0, Value.int 0 0, Value.int 3 0, Value.ref 94, Value.bool true, Value.int 181 0, Value.ref 95, Value.none, Value.ref 96, Value.ref 97, Value.ref 98, Value.int 317 0, Value.int 63 0, Value.str (Str.ofString "/claim/cut.py") 318]) #[],
  Obj.mk (Value.type "function") none (Data.func (FuncData.mk (Str.ofString "signed") (Str.ofString "signed") (prm 11) (FuncBody.stmts (bdy 11)) (scp 11) 3 [] Value.none Value.none Value.none (Value.str (Str.ofString "gmp.signed") 310) none (Value.ref 99) Value.none 0)) #[],
  Obj.mk (Value.type "tuple") none (Data.seq #[]) #[],
  Obj.mk Value.none none (Data.fields #[]) #[],
  Obj.mk (Value.type "tuple") none (Data.seq #[Value.str (Str.ofString "x") 323]) #[],
  Obj.mk (Value.type "tuple") none (Data.seq #[]) #[],
  Obj.mk Value.none none (Data.func (FuncData.mk (Str.ofString "s_neg") (Str.ofString "s_neg") (prm 12) (FuncBody.stmts (bdy 12)) (scp 12) 0 [] Value.none Value.none Value.none Value.none none Value.none Value.none 0)) #[],
  Obj.mk (Value.type "code") none (Data.fields #[Value.str (Str.ofString "s_neg") 320, Value.str (Str.ofString "s_neg") 321, Value.str (Str.ofString "/claim/cut.py") 322, Value.int 65 0, Value.int 1 0, Value.int 0 0, Value.int 0 0, Value.int 3 0, Value.ref 101, Value.bool true, Value.int 181 0, Value.ref 102, Value.none, Value.ref 103, Value.ref 104, Value.ref 105, Value.int 324 0, Value.int 65 0, Value.str (Str.ofString "/claim/cut.py") 325]) #[],
  Obj.mk (Value.type "function") none (Data.func (FuncData.mk (Str.ofString "s_neg") (Str.ofString "s_neg") (prm 12) (FuncBody.stmts (bdy 12)) (scp 12) 3 [] Value.none Value.none Value.none (Value.str (Str.ofString "gmp.signed") 310) none (Value.ref 106) Value.none 0)) #[],
  Obj.mk (Value.type "tuple") none (Data.seq #[]) #[],
  Obj.mk Value.none none (Data.fields #[]) #[],
  Obj.mk (Value.type "tuple") none (Data.seq #[Value.str (Str.ofString "x") 330, Value.str (Str.ofString "y") 331, Value.str (Str.ofString "w") 332]) #[],
  Obj.mk (Value.type "tuple") none (Data.seq #[]) #[],
  Obj.mk Value.none none (Data.func (FuncData.mk (Str.ofString "s_add") (Str.ofString "s_add") (prm 13) (FuncBody.stmts (bdy 13)) (scp 13) 0 [] Value.none Value.none Value.none Value.none none Value.none Value.none 0)) #[],
  Obj.mk (Value.type "code") none (Data.fields #[Value.str (Str.ofString "s_add") 327, Value.str (Str.ofString "s_add") 328, Value.str (Str.ofString "/claim/cut.py") 329, Value.int 67 0, Value.int 3 0, Value.int 0 0, Value.int 0 0, Value.int 3 0, Value.ref 108, Value.bool true, Value.int 181 0, Value.ref 109, Value.none, Value.ref 110, Value.ref 111, Value.ref 112, Value.int 333 0, Value.int 67 0, Value.str (Str.ofString "/claim/cut.py") 334]) #[],
  Obj.mk (Value.type "function") none (Data.func (FuncData.mk (Str.ofString "s_add") (Str.ofString "s_add") (prm 13) (FuncBody.stmts (bdy 13)) (scp 13) 3 [] Value.none Value.none Value.none (Value.str (Str.ofString "gmp.signed") 310) none (Value.ref 113) Value.none 0)) #[],
  Obj.mk (Value.type "tuple") none (Data.seq #[]) #[],
  Obj.mk Value.none none (Data.fields #[]) #[],
  Obj.mk (Value.type "tuple") none (Data.seq #[Value.str (Str.ofString "x") 339, Value.str (Str.ofString "y") 340, Value.str (Str.ofString "w") 341]) #[],
  Obj.mk (Value.type "tuple") none (Data.seq #[]) #[],
  Obj.mk Value.none none (Data.func (FuncData.mk (Str.ofString "s_sub") (Str.ofString "s_sub") (prm 14) (FuncBody.stmts (bdy 14)) (scp 14) 0 [] Value.none Value.none Value.none Value.none none Value.none Value.none 0)) #[],
  Obj.mk (Value.type "code") none (Data.fields #[Value.str (Str.ofString "s_sub") 336, Value.str (Str.ofString "s_sub") 337, Value.str (Str.ofString "/claim/cut.py") 338, Value.int 73 0, Value.int 3 0, Value.int 0 0, Value.int 0 0, Value.int 3 0, Value.ref 115, Value.bool true, Value.int 181 0, Value.ref 116, Value.none, Value.ref 117, Value.ref 118, Value.ref 119, Value.int 342 0, Value.int 73 0, Value.str (Str.ofString "/claim/cut.py") 343]) #[],
  Obj.mk (Value.type "function") none (Data.func (FuncData.mk (Str.ofString "s_sub") (Str.ofString "s_sub") (prm 14) (FuncBody.stmts (bdy 14)) (scp 14) 3 [] Value.none Value.none Value.none (Value.str (Str.ofString "gmp.signed") 310) none (Value.ref 120) Value.none 0)) #[],
  Obj.mk (Value.type "tuple") none (Data.seq #[]) #[],
  Obj.mk Value.none none (Data.fields #[]) #[]]
noncomputable def obj4 (_P : Params) : List Obj := [Obj.mk (Value.type "tuple") none (Data.seq #[Value.str (Str.ofString "x") 348, Value.str (Str.ofString "y") 349, Value.str (Str.ofString "w") 350, Value.str (Str.ofString "mul") 351]) #[],
  Obj.mk (Value.type "tuple") none (Data.seq #[]) #[],
  Obj.mk Value.none none (Data.func (FuncData.mk (Str.ofString "s_mul") (Str.ofString "s_mul") (prm 15) (FuncBody.stmts (bdy 15)) (scp 15) 0 [] Value.none Value.none Value.none Value.none none Value.none Value.none 0)) #[],
  Obj.mk (Value.type "code") none (Data.fields #[Value.str (Str.ofString "s_mul") 345, Value.str (Str.ofString "s_mul") 346, Value.str (Str.ofString "/claim/cut.py") 347, Value.int 75 0, Value.int 4 0, Value.int 0 0, Value.int 0 0, Value.int 3 0, Value.ref 122, Value.bool true, Value.int 181 0, Value.ref 123, Value.none, Value.ref 124, Value.ref 125, Value.ref 126, Value.int 352 0, Value.int 75 0, Value.str (Str.ofString "/claim/cut.py") 353]) #[],
  Obj.mk (Value.type "function") none (Data.func (FuncData.mk (Str.ofString "s_mul") (Str.ofString "s_mul") (prm 15) (FuncBody.stmts (bdy 15)) (scp 15) 3 [] Value.none Value.none Value.none (Value.str (Str.ofString "gmp.signed") 310) none (Value.ref 127) Value.none 0)) #[],
  Obj.mk (Value.type "tuple") none (Data.seq #[]) #[],
  Obj.mk Value.none none (Data.fields #[]) #[],
  Obj.mk Value.none none (Data.func (FuncData.mk (Str.ofString "pieces") (Str.ofString "pieces") (prm 17) (FuncBody.stmts (bdy 17)) (scp 17) 0 [] Value.none Value.none Value.none Value.none none Value.none Value.none 0)) #[],
  Obj.mk (Value.type "code") none (Data.fields #[Value.str (Str.ofString "pieces") 357, Value.str (Str.ofString "pieces") 358, Value.str (Str.ofString "/claim/cut.py") 359, Value.int 78 0, Value.int 3 0, Value.int 0 0, Value.int 0 0, Value.int 3 0, Value.ref 129, Value.bool true, Value.int 181 0, Value.ref 130, Value.none, Value.none, Value.none, Value.ref 131, Value.int 360 0, Value.int 78 0, Value.str (Str.ofString "/claim/cut.py") 361]) #[],
  Obj.mk (Value.type "function") none (Data.func (FuncData.mk (Str.ofString "pieces") (Str.ofString "pieces") (prm 17) (FuncBody.stmts (bdy 17)) (scp 17) 3 [] Value.none Value.none Value.none (Value.str (Str.ofString "gmp.points") 355) none (Value.ref 132) Value.none 0)) #[],
  Obj.mk (Value.type "tuple") none (Data.seq #[]) #[],
  Obj.mk Value.none none (Data.fields #[]) #[],
  Obj.mk (Value.type "tuple") none (Data.seq #[Value.str (Str.ofString "length") 366, Value.str (Str.ofString "many") 367]) #[],
  Obj.mk (Value.type "tuple") none (Data.seq #[]) #[],
  Obj.mk Value.none none (Data.func (FuncData.mk (Str.ofString "piece_size") (Str.ofString "piece_size") (prm 18) (FuncBody.stmts (bdy 18)) (scp 18) 0 [] Value.none Value.none Value.none Value.none none Value.none Value.none 0)) #[],
  Obj.mk (Value.type "code") none (Data.fields #[Value.str (Str.ofString "piece_size") 363, Value.str (Str.ofString "piece_size") 364, Value.str (Str.ofString "/claim/cut.py") 365, Value.int 81 0, Value.int 2 0, Value.int 0 0, Value.int 0 0, Value.int 3 0, Value.ref 134, Value.bool true, Value.int 181 0, Value.ref 135, Value.none, Value.ref 136, Value.ref 137, Value.ref 138, Value.int 368 0, Value.int 81 0, Value.str (Str.ofString "/claim/cut.py") 369]) #[],
  Obj.mk (Value.type "function") none (Data.func (FuncData.mk (Str.ofString "piece_size") (Str.ofString "piece_size") (prm 18) (FuncBody.stmts (bdy 18)) (scp 18) 3 [] Value.none Value.none Value.none (Value.str (Str.ofString "gmp.points") 355) none (Value.ref 139) Value.none 0)) #[],
  Obj.mk (Value.type "tuple") none (Data.seq #[]) #[],
  Obj.mk Value.none none (Data.fields #[]) #[],
  Obj.mk (Value.type "tuple") none (Data.seq #[Value.str (Str.ofString "x") 374, Value.str (Str.ofString "n") 375, Value.str (Str.ofString "w") 376]) #[],
  Obj.mk (Value.type "tuple") none (Data.seq #[]) #[],
  Obj.mk Value.none none (Data.func (FuncData.mk (Str.ofString "scaled") (Str.ofString "scaled") (prm 19) (FuncBody.stmts (bdy 19)) (scp 19) 0 [] Value.none Value.none Value.none Value.none none Value.none Value.none 0)) #[],
  Obj.mk (Value.type "code") none (Data.fields #[Value.str (Str.ofString "scaled") 371, Value.str (Str.ofString "scaled") 372, Value.str (Str.ofString "/claim/cut.py") 373, Value.int 83 0, Value.int 3 0, Value.int 0 0, Value.int 0 0, Value.int 3 0, Value.ref 141, Value.bool true, Value.int 181 0, Value.ref 142, Value.none, Value.ref 143, Value.ref 144, Value.ref 145, Value.int 377 0, Value.int 83 0, Value.str (Str.ofString "/claim/cut.py") 378]) #[],
  Obj.mk (Value.type "function") none (Data.func (FuncData.mk (Str.ofString "scaled") (Str.ofString "scaled") (prm 19) (FuncBody.stmts (bdy 19)) (scp 19) 3 [] Value.none Value.none Value.none (Value.str (Str.ofString "gmp.points") 355) none (Value.ref 146) Value.none 0)) #[],
  Obj.mk (Value.type "tuple") none (Data.seq #[]) #[],
  Obj.mk Value.none none (Data.fields #[]) #[],
  Obj.mk (Value.type "tuple") none (Data.seq #[Value.str (Str.ofString "x") 383, Value.str (Str.ofString "d") 384, Value.str (Str.ofString "w") 385, Value.str (Str.ofString "found") 386, Value.str (Str.ofString "rest") 387, Value.str (Str.ofString "limb") 388, Value.str (Str.ofString "whole") 389]) #[],
  Obj.mk (Value.type "tuple") none (Data.seq #[]) #[],
  Obj.mk Value.none none (Data.func (FuncData.mk (Str.ofString "exact_small") (Str.ofString "exact_small") (prm 20) (FuncBody.stmts (bdy 20)) (scp 20) 0 [] Value.none Value.none Value.none Value.none none Value.none Value.none 0)) #[],
  Obj.mk (Value.type "code") none (Data.fields #[Value.str (Str.ofString "exact_small") 380, Value.str (Str.ofString "exact_small") 381, Value.str (Str.ofString "/claim/cut.py") 382, Value.int 85 0, Value.int 3 0, Value.int 0 0, Value.int 0 0, Value.int 3 0, Value.ref 148, Value.bool true, Value.int 181 0, Value.ref 149, Value.none, Value.ref 150, Value.ref 151, Value.ref 152, Value.int 390 0, Value.int 85 0, Value.str (Str.ofString "/claim/cut.py") 391]) #[],
  Obj.mk (Value.type "function") none (Data.func (FuncData.mk (Str.ofString "exact_small") (Str.ofString "exact_small") (prm 20) (FuncBody.stmts (bdy 20)) (scp 20) 3 [] Value.none Value.none Value.none (Value.str (Str.ofString "gmp.points") 355) none (Value.ref 153) Value.none 0)) #[]]
noncomputable def obj5 (_P : Params) : List Obj := [Obj.mk (Value.type "tuple") none (Data.seq #[]) #[],
  Obj.mk Value.none none (Data.fields #[]) #[],
  Obj.mk (Value.type "tuple") none (Data.seq #[Value.str (Str.ofString "parts") 396, Value.str (Str.ofString "power") 397, Value.str (Str.ofString "w") 398, Value.str (Str.ofString "even") 399, Value.str (Str.ofString "odd") 400, Value.str (Str.ofString "at") 401, Value.str (Str.ofString "part") 402, Value.str (Str.ofString "term") 403]) #[],
  Obj.mk (Value.type "tuple") none (Data.seq #[]) #[],
  Obj.mk Value.none none (Data.func (FuncData.mk (Str.ofString "both_values") (Str.ofString "both_values") (prm 21) (FuncBody.stmts (bdy 21)) (scp 21) 0 [] Value.none Value.none Value.none Value.none none Value.none Value.none 0)) #[],
  Obj.mk (Value.type "code") none (Data.fields #[Value.str (Str.ofString "both_values") 393, Value.str (Str.ofString "both_values") 394, Value.str (Str.ofString "/claim/cut.py") 395, Value.int 94 0, Value.int 3 0, Value.int 0 0, Value.int 0 0, Value.int 3 0, Value.ref 155, Value.bool true, Value.int 181 0, Value.ref 156, Value.none, Value.ref 157, Value.ref 158, Value.ref 159, Value.int 404 0, Value.int 94 0, Value.str (Str.ofString "/claim/cut.py") 405]) #[],
  Obj.mk (Value.type "function") none (Data.func (FuncData.mk (Str.ofString "both_values") (Str.ofString "both_values") (prm 21) (FuncBody.stmts (bdy 21)) (scp 21) 3 [] Value.none Value.none Value.none (Value.str (Str.ofString "gmp.points") 355) none (Value.ref 160) Value.none 0)) #[],
  Obj.mk (Value.type "tuple") none (Data.seq #[]) #[],
  Obj.mk Value.none none (Data.fields #[]) #[],
  Obj.mk (Value.type "tuple") none (Data.seq #[Value.str (Str.ofString "parts") 410, Value.str (Str.ofString "w") 411, Value.str (Str.ofString "found") 412, Value.str (Str.ofString "part") 413]) #[],
  Obj.mk (Value.type "tuple") none (Data.seq #[]) #[],
  Obj.mk Value.none none (Data.func (FuncData.mk (Str.ofString "value_at_two") (Str.ofString "value_at_two") (prm 22) (FuncBody.stmts (bdy 22)) (scp 22) 0 [] Value.none Value.none Value.none Value.none none Value.none Value.none 0)) #[],
  Obj.mk (Value.type "code") none (Data.fields #[Value.str (Str.ofString "value_at_two") 407, Value.str (Str.ofString "value_at_two") 408, Value.str (Str.ofString "/claim/cut.py") 409, Value.int 103 0, Value.int 2 0, Value.int 0 0, Value.int 0 0, Value.int 3 0, Value.ref 162, Value.bool true, Value.int 181 0, Value.ref 163, Value.none, Value.ref 164, Value.ref 165, Value.ref 166, Value.int 414 0, Value.int 103 0, Value.str (Str.ofString "/claim/cut.py") 415]) #[],
  Obj.mk (Value.type "function") none (Data.func (FuncData.mk (Str.ofString "value_at_two") (Str.ofString "value_at_two") (prm 22) (FuncBody.stmts (bdy 22)) (scp 22) 3 [] Value.none Value.none Value.none (Value.str (Str.ofString "gmp.points") 355) none (Value.ref 167) Value.none 0)) #[],
  Obj.mk (Value.type "tuple") none (Data.seq #[]) #[],
  Obj.mk Value.none none (Data.fields #[]) #[],
  Obj.mk (Value.type "tuple") none (Data.seq #[Value.str (Str.ofString "parts") 420, Value.str (Str.ofString "w") 421, Value.str (Str.ofString "found") 422, Value.str (Str.ofString "part") 423]) #[],
  Obj.mk (Value.type "tuple") none (Data.seq #[]) #[],
  Obj.mk Value.none none (Data.func (FuncData.mk (Str.ofString "value_at_half") (Str.ofString "value_at_half") (prm 23) (FuncBody.stmts (bdy 23)) (scp 23) 0 [] Value.none Value.none Value.none Value.none none Value.none Value.none 0)) #[],
  Obj.mk (Value.type "code") none (Data.fields #[Value.str (Str.ofString "value_at_half") 417, Value.str (Str.ofString "value_at_half") 418, Value.str (Str.ofString "/claim/cut.py") 419, Value.int 108 0, Value.int 2 0, Value.int 0 0, Value.int 0 0, Value.int 3 0, Value.ref 169, Value.bool true, Value.int 181 0, Value.ref 170, Value.none, Value.ref 171, Value.ref 172, Value.ref 173, Value.int 424 0, Value.int 108 0, Value.str (Str.ofString "/claim/cut.py") 425]) #[],
  Obj.mk (Value.type "function") none (Data.func (FuncData.mk (Str.ofString "value_at_half") (Str.ofString "value_at_half") (prm 23) (FuncBody.stmts (bdy 23)) (scp 23) 3 [] Value.none Value.none Value.none (Value.str (Str.ofString "gmp.points") 355) none (Value.ref 174) Value.none 0)) #[],
  Obj.mk (Value.type "tuple") none (Data.seq #[]) #[],
  Obj.mk Value.none none (Data.fields #[]) #[],
  Obj.mk (Value.type "tuple") none (Data.seq #[Value.str (Str.ofString "plus") 430, Value.str (Str.ofString "minus") 431, Value.str (Str.ofString "w") 432]) #[],
  Obj.mk (Value.type "tuple") none (Data.seq #[]) #[],
  Obj.mk Value.none none (Data.func (FuncData.mk (Str.ofString "halves_of") (Str.ofString "halves_of") (prm 24) (FuncBody.stmts (bdy 24)) (scp 24) 0 [] Value.none Value.none Value.none Value.none none Value.none Value.none 0)) #[],
  Obj.mk (Value.type "code") none (Data.fields #[Value.str (Str.ofString "halves_of") 427, Value.str (Str.ofString "halves_of") 428, Value.str (Str.ofString "/claim/cut.py") 429, Value.int 113 0, Value.int 3 0, Value.int 0 0, Value.int 0 0, Value.int 3 0, Value.ref 176, Value.bool true, Value.int 181 0, Value.ref 177, Value.none, Value.ref 178, Value.ref 179, Value.ref 180, Value.int 433 0, Value.int 113 0, Value.str (Str.ofString "/claim/cut.py") 434]) #[],
  Obj.mk (Value.type "function") none (Data.func (FuncData.mk (Str.ofString "halves_of") (Str.ofString "halves_of") (prm 24) (FuncBody.stmts (bdy 24)) (scp 24) 3 [] Value.none Value.none Value.none (Value.str (Str.ofString "gmp.points") 355) none (Value.ref 181) Value.none 0)) #[],
  Obj.mk (Value.type "tuple") none (Data.seq #[]) #[],
  Obj.mk Value.none none (Data.fields #[]) #[],
  Obj.mk (Value.type "tuple") none (Data.seq #[Value.str (Str.ofString "x") 439]) #[]]
noncomputable def obj6 (_P : Params) : List Obj := [Obj.mk (Value.type "tuple") none (Data.seq #[]) #[],
  Obj.mk Value.none none (Data.func (FuncData.mk (Str.ofString "natural") (Str.ofString "natural") (prm 25) (FuncBody.stmts (bdy 25)) (scp 25) 0 [] Value.none Value.none Value.none Value.none none Value.none Value.none 0)) #[],
  Obj.mk (Value.type "code") none (Data.fields #[Value.str (Str.ofString "natural") 436, Value.str (Str.ofString "natural") 437, Value.str (Str.ofString "/claim/cut.py") 438, Value.int 115 0, Value.int 1 0, Value.int 0 0, Value.int 0 0, Value.int 3 0, Value.ref 183, Value.bool true, Value.int 181 0, Value.ref 184, Value.none, Value.ref 185, Value.ref 186, Value.ref 187, Value.int 440 0, Value.int 115 0, Value.str (Str.ofString "/claim/cut.py") 441]) #[],
  Obj.mk (Value.type "function") none (Data.func (FuncData.mk (Str.ofString "natural") (Str.ofString "natural") (prm 25) (FuncBody.stmts (bdy 25)) (scp 25) 3 [] Value.none Value.none Value.none (Value.str (Str.ofString "gmp.points") 355) none (Value.ref 188) Value.none 0)) #[],
  Obj.mk (Value.type "tuple") none (Data.seq #[]) #[],
  Obj.mk Value.none none (Data.fields #[]) #[],
  Obj.mk Value.none none (Data.func (FuncData.mk (Str.ofString "from_four") (Str.ofString "from_four") (prm 26) (FuncBody.stmts (bdy 26)) (scp 26) 0 [] Value.none Value.none Value.none Value.none none Value.none Value.none 0)) #[],
  Obj.mk (Value.type "code") none (Data.fields #[Value.str (Str.ofString "from_four") 443, Value.str (Str.ofString "from_four") 444, Value.str (Str.ofString "/claim/cut.py") 445, Value.int 119 0, Value.int 5 0, Value.int 0 0, Value.int 0 0, Value.int 3 0, Value.ref 190, Value.bool true, Value.int 181 0, Value.ref 191, Value.none, Value.none, Value.none, Value.ref 192, Value.int 446 0, Value.int 119 0, Value.str (Str.ofString "/claim/cut.py") 447]) #[],
  Obj.mk (Value.type "function") none (Data.func (FuncData.mk (Str.ofString "from_four") (Str.ofString "from_four") (prm 26) (FuncBody.stmts (bdy 26)) (scp 26) 3 [] Value.none Value.none Value.none (Value.str (Str.ofString "gmp.points") 355) none (Value.ref 193) Value.none 0)) #[],
  Obj.mk (Value.type "tuple") none (Data.seq #[]) #[],
  Obj.mk Value.none none (Data.fields #[]) #[],
  Obj.mk Value.none none (Data.func (FuncData.mk (Str.ofString "from_five") (Str.ofString "from_five") (prm 27) (FuncBody.stmts (bdy 27)) (scp 27) 0 [] Value.none Value.none Value.none Value.none none Value.none Value.none 0)) #[],
  Obj.mk (Value.type "code") none (Data.fields #[Value.str (Str.ofString "from_five") 449, Value.str (Str.ofString "from_five") 450, Value.str (Str.ofString "/claim/cut.py") 451, Value.int 124 0, Value.int 6 0, Value.int 0 0, Value.int 0 0, Value.int 3 0, Value.ref 195, Value.bool true, Value.int 181 0, Value.ref 196, Value.none, Value.none, Value.none, Value.ref 197, Value.int 452 0, Value.int 124 0, Value.str (Str.ofString "/claim/cut.py") 453]) #[],
  Obj.mk (Value.type "function") none (Data.func (FuncData.mk (Str.ofString "from_five") (Str.ofString "from_five") (prm 27) (FuncBody.stmts (bdy 27)) (scp 27) 3 [] Value.none Value.none Value.none (Value.str (Str.ofString "gmp.points") 355) none (Value.ref 198) Value.none 0)) #[],
  Obj.mk (Value.type "tuple") none (Data.seq #[]) #[],
  Obj.mk Value.none none (Data.fields #[]) #[],
  Obj.mk (Value.type "tuple") none (Data.seq #[Value.str (Str.ofString "even_one") 458, Value.str (Str.ofString "even_two") 459, Value.str (Str.ofString "at_zero") 460, Value.str (Str.ofString "at_far") 461, Value.str (Str.ofString "w") 462, Value.str (Str.ofString "one") 463, Value.str (Str.ofString "two") 464, Value.str (Str.ofString "fourth") 465]) #[],
  Obj.mk (Value.type "tuple") none (Data.seq #[]) #[],
  Obj.mk Value.none none (Data.func (FuncData.mk (Str.ofString "even_coefficients") (Str.ofString "even_coefficients") (prm 28) (FuncBody.stmts (bdy 28)) (scp 28) 0 [] Value.none Value.none Value.none Value.none none Value.none Value.none 0)) #[],
  Obj.mk (Value.type "code") none (Data.fields #[Value.str (Str.ofString "even_coefficients") 455, Value.str (Str.ofString "even_coefficients") 456, Value.str (Str.ofString "/claim/cut.py") 457, Value.int 133 0, Value.int 5 0, Value.int 0 0, Value.int 0 0, Value.int 3 0, Value.ref 200, Value.bool true, Value.int 181 0, Value.ref 201, Value.none, Value.ref 202, Value.ref 203, Value.ref 204, Value.int 466 0, Value.int 133 0, Value.str (Str.ofString "/claim/cut.py") 467]) #[],
  Obj.mk (Value.type "function") none (Data.func (FuncData.mk (Str.ofString "even_coefficients") (Str.ofString "even_coefficients") (prm 28) (FuncBody.stmts (bdy 28)) (scp 28) 3 [] Value.none Value.none Value.none (Value.str (Str.ofString "gmp.points") 355) none (Value.ref 205) Value.none 0)) #[],
  Obj.mk (Value.type "tuple") none (Data.seq #[]) #[],
  Obj.mk Value.none none (Data.fields #[]) #[],
  Obj.mk (Value.type "tuple") none (Data.seq #[Value.str (Str.ofString "odd_one") 472, Value.str (Str.ofString "odd_two") 473, Value.str (Str.ofString "odd_half") 474, Value.str (Str.ofString "w") 475, Value.str (Str.ofString "low") 476, Value.str (Str.ofString "high") 477, Value.str (Str.ofString "third") 478, Value.str (Str.ofString "fifth") 479]) #[],
  Obj.mk (Value.type "tuple") none (Data.seq #[]) #[],
  Obj.mk Value.none none (Data.func (FuncData.mk (Str.ofString "odd_coefficients") (Str.ofString "odd_coefficients") (prm 29) (FuncBody.stmts (bdy 29)) (scp 29) 0 [] Value.none Value.none Value.none Value.none none Value.none Value.none 0)) #[],
  Obj.mk (Value.type "code") none (Data.fields #[Value.str (Str.ofString "odd_coefficients") 469, Value.str (Str.ofString "odd_coefficients") 470, Value.str (Str.ofString "/claim/cut.py") 471, Value.int 138 0, Value.int 4 0, Value.int 0 0, Value.int 0 0, Value.int 3 0, Value.ref 207, Value.bool true, Value.int 181 0, Value.ref 208, Value.none, Value.ref 209, Value.ref 210, Value.ref 211, Value.int 480 0, Value.int 138 0, Value.str (Str.ofString "/claim/cut.py") 481]) #[],
  Obj.mk (Value.type "function") none (Data.func (FuncData.mk (Str.ofString "odd_coefficients") (Str.ofString "odd_coefficients") (prm 29) (FuncBody.stmts (bdy 29)) (scp 29) 3 [] Value.none Value.none Value.none (Value.str (Str.ofString "gmp.points") 355) none (Value.ref 212) Value.none 0)) #[],
  Obj.mk (Value.type "tuple") none (Data.seq #[]) #[],
  Obj.mk Value.none none (Data.fields #[]) #[],
  Obj.mk Value.none none (Data.func (FuncData.mk (Str.ofString "from_seven") (Str.ofString "from_seven") (prm 30) (FuncBody.stmts (bdy 30)) (scp 30) 0 [] Value.none Value.none Value.none Value.none none Value.none Value.none 0)) #[]]
noncomputable def obj7 (_P : Params) : List Obj := [Obj.mk (Value.type "code") none (Data.fields #[Value.str (Str.ofString "from_seven") 483, Value.str (Str.ofString "from_seven") 484, Value.str (Str.ofString "/claim/cut.py") 485, Value.int 144 0, Value.int 6 0, Value.int 0 0, Value.int 0 0, Value.int 3 0, Value.ref 214, Value.bool true, Value.int 181 0, Value.ref 215, Value.none, Value.none, Value.none, Value.ref 216, Value.int 486 0, Value.int 144 0, Value.str (Str.ofString "/claim/cut.py") 487]) #[],
  Obj.mk (Value.type "function") none (Data.func (FuncData.mk (Str.ofString "from_seven") (Str.ofString "from_seven") (prm 30) (FuncBody.stmts (bdy 30)) (scp 30) 3 [] Value.none Value.none Value.none (Value.str (Str.ofString "gmp.points") 355) none (Value.ref 217) Value.none 0)) #[],
  Obj.mk (Value.type "tuple") none (Data.seq #[]) #[],
  Obj.mk Value.none none (Data.fields #[]) #[],
  Obj.mk (Value.type "tuple") none (Data.seq #[Value.str (Str.ofString "coefficients") 492, Value.str (Str.ofString "size") 493, Value.str (Str.ofString "w") 494, Value.str (Str.ofString "found") 495, Value.str (Str.ofString "at") 496, Value.str (Str.ofString "one") 497]) #[],
  Obj.mk (Value.type "tuple") none (Data.seq #[]) #[],
  Obj.mk Value.none none (Data.func (FuncData.mk (Str.ofString "recomposed") (Str.ofString "recomposed") (prm 31) (FuncBody.stmts (bdy 31)) (scp 31) 0 [] Value.none Value.none Value.none Value.none none Value.none Value.none 0)) #[],
  Obj.mk (Value.type "code") none (Data.fields #[Value.str (Str.ofString "recomposed") 489, Value.str (Str.ofString "recomposed") 490, Value.str (Str.ofString "/claim/cut.py") 491, Value.int 152 0, Value.int 3 0, Value.int 0 0, Value.int 0 0, Value.int 3 0, Value.ref 219, Value.bool true, Value.int 181 0, Value.ref 220, Value.none, Value.ref 221, Value.ref 222, Value.ref 223, Value.int 498 0, Value.int 152 0, Value.str (Str.ofString "/claim/cut.py") 499]) #[],
  Obj.mk (Value.type "function") none (Data.func (FuncData.mk (Str.ofString "recomposed") (Str.ofString "recomposed") (prm 31) (FuncBody.stmts (bdy 31)) (scp 31) 3 [] Value.none Value.none Value.none (Value.str (Str.ofString "gmp.points") 355) none (Value.ref 224) Value.none 0)) #[],
  Obj.mk (Value.type "tuple") none (Data.seq #[]) #[],
  Obj.mk Value.none none (Data.fields #[]) #[],
  Obj.mk Value.none none (Data.func (FuncData.mk (Str.ofString "products_of") (Str.ofString "products_of") (prm 33) (FuncBody.stmts (bdy 33)) (scp 33) 0 [] Value.none Value.none Value.none Value.none none Value.none Value.none 0)) #[],
  Obj.mk (Value.type "code") none (Data.fields #[Value.str (Str.ofString "products_of") 503, Value.str (Str.ofString "products_of") 504, Value.str (Str.ofString "/claim/cut.py") 505, Value.int 158 0, Value.int 4 0, Value.int 0 0, Value.int 0 0, Value.int 3 0, Value.ref 226, Value.bool true, Value.int 181 0, Value.ref 227, Value.none, Value.none, Value.none, Value.ref 228, Value.int 506 0, Value.int 158 0, Value.str (Str.ofString "/claim/cut.py") 507]) #[],
  Obj.mk (Value.type "function") none (Data.func (FuncData.mk (Str.ofString "products_of") (Str.ofString "products_of") (prm 33) (FuncBody.stmts (bdy 33)) (scp 33) 3 [] Value.none Value.none Value.none (Value.str (Str.ofString "gmp.toom") 501) none (Value.ref 229) Value.none 0)) #[],
  Obj.mk (Value.type "tuple") none (Data.seq #[]) #[],
  Obj.mk Value.none none (Data.fields #[]) #[],
  Obj.mk (Value.type "tuple") none (Data.seq #[Value.str (Str.ofString "parts") 512]) #[],
  Obj.mk (Value.type "tuple") none (Data.seq #[]) #[],
  Obj.mk Value.none none (Data.func (FuncData.mk (Str.ofString "ends_of") (Str.ofString "ends_of") (prm 34) (FuncBody.stmts (bdy 34)) (scp 34) 0 [] Value.none Value.none Value.none Value.none none Value.none Value.none 0)) #[],
  Obj.mk (Value.type "code") none (Data.fields #[Value.str (Str.ofString "ends_of") 509, Value.str (Str.ofString "ends_of") 510, Value.str (Str.ofString "/claim/cut.py") 511, Value.int 160 0, Value.int 1 0, Value.int 0 0, Value.int 0 0, Value.int 3 0, Value.ref 231, Value.bool true, Value.int 181 0, Value.ref 232, Value.none, Value.ref 233, Value.ref 234, Value.ref 235, Value.int 513 0, Value.int 160 0, Value.str (Str.ofString "/claim/cut.py") 514]) #[],
  Obj.mk (Value.type "function") none (Data.func (FuncData.mk (Str.ofString "ends_of") (Str.ofString "ends_of") (prm 34) (FuncBody.stmts (bdy 34)) (scp 34) 3 [] Value.none Value.none Value.none (Value.str (Str.ofString "gmp.toom") 501) none (Value.ref 236) Value.none 0)) #[],
  Obj.mk (Value.type "tuple") none (Data.seq #[]) #[],
  Obj.mk Value.none none (Data.fields #[]) #[],
  Obj.mk (Value.type "tuple") none (Data.seq #[Value.str (Str.ofString "parts") 519, Value.str (Str.ofString "w") 520]) #[],
  Obj.mk (Value.type "tuple") none (Data.seq #[]) #[],
  Obj.mk Value.none none (Data.func (FuncData.mk (Str.ofString "values_four") (Str.ofString "values_four") (prm 35) (FuncBody.stmts (bdy 35)) (scp 35) 0 [] Value.none Value.none Value.none Value.none none Value.none Value.none 0)) #[],
  Obj.mk (Value.type "code") none (Data.fields #[Value.str (Str.ofString "values_four") 516, Value.str (Str.ofString "values_four") 517, Value.str (Str.ofString "/claim/cut.py") 518, Value.int 162 0, Value.int 2 0, Value.int 0 0, Value.int 0 0, Value.int 3 0, Value.ref 238, Value.bool true, Value.int 181 0, Value.ref 239, Value.none, Value.ref 240, Value.ref 241, Value.ref 242, Value.int 521 0, Value.int 162 0, Value.str (Str.ofString "/claim/cut.py") 522]) #[],
  Obj.mk (Value.type "function") none (Data.func (FuncData.mk (Str.ofString "values_four") (Str.ofString "values_four") (prm 35) (FuncBody.stmts (bdy 35)) (scp 35) 3 [] Value.none Value.none Value.none (Value.str (Str.ofString "gmp.toom") 501) none (Value.ref 243) Value.none 0)) #[],
  Obj.mk (Value.type "tuple") none (Data.seq #[]) #[],
  Obj.mk Value.none none (Data.fields #[]) #[],
  Obj.mk (Value.type "tuple") none (Data.seq #[Value.str (Str.ofString "parts") 527, Value.str (Str.ofString "w") 528]) #[]]
noncomputable def obj8 (_P : Params) : List Obj := [Obj.mk (Value.type "tuple") none (Data.seq #[]) #[],
  Obj.mk Value.none none (Data.func (FuncData.mk (Str.ofString "values_five") (Str.ofString "values_five") (prm 36) (FuncBody.stmts (bdy 36)) (scp 36) 0 [] Value.none Value.none Value.none Value.none none Value.none Value.none 0)) #[],
  Obj.mk (Value.type "code") none (Data.fields #[Value.str (Str.ofString "values_five") 524, Value.str (Str.ofString "values_five") 525, Value.str (Str.ofString "/claim/cut.py") 526, Value.int 164 0, Value.int 2 0, Value.int 0 0, Value.int 0 0, Value.int 3 0, Value.ref 245, Value.bool true, Value.int 181 0, Value.ref 246, Value.none, Value.ref 247, Value.ref 248, Value.ref 249, Value.int 529 0, Value.int 164 0, Value.str (Str.ofString "/claim/cut.py") 530]) #[],
  Obj.mk (Value.type "function") none (Data.func (FuncData.mk (Str.ofString "values_five") (Str.ofString "values_five") (prm 36) (FuncBody.stmts (bdy 36)) (scp 36) 3 [] Value.none Value.none Value.none (Value.str (Str.ofString "gmp.toom") 501) none (Value.ref 250) Value.none 0)) #[],
  Obj.mk (Value.type "tuple") none (Data.seq #[]) #[],
  Obj.mk Value.none none (Data.fields #[]) #[],
  Obj.mk (Value.type "tuple") none (Data.seq #[Value.str (Str.ofString "parts") 535, Value.str (Str.ofString "w") 536]) #[],
  Obj.mk (Value.type "tuple") none (Data.seq #[]) #[],
  Obj.mk Value.none none (Data.func (FuncData.mk (Str.ofString "values_seven") (Str.ofString "values_seven") (prm 37) (FuncBody.stmts (bdy 37)) (scp 37) 0 [] Value.none Value.none Value.none Value.none none Value.none Value.none 0)) #[],
  Obj.mk (Value.type "code") none (Data.fields #[Value.str (Str.ofString "values_seven") 532, Value.str (Str.ofString "values_seven") 533, Value.str (Str.ofString "/claim/cut.py") 534, Value.int 166 0, Value.int 2 0, Value.int 0 0, Value.int 0 0, Value.int 3 0, Value.ref 252, Value.bool true, Value.int 181 0, Value.ref 253, Value.none, Value.ref 254, Value.ref 255, Value.ref 256, Value.int 537 0, Value.int 166 0, Value.str (Str.ofString "/claim/cut.py") 538]) #[],
  Obj.mk (Value.type "function") none (Data.func (FuncData.mk (Str.ofString "values_seven") (Str.ofString "values_seven") (prm 37) (FuncBody.stmts (bdy 37)) (scp 37) 3 [] Value.none Value.none Value.none (Value.str (Str.ofString "gmp.toom") 501) none (Value.ref 257) Value.none 0)) #[],
  Obj.mk (Value.type "tuple") none (Data.seq #[]) #[],
  Obj.mk Value.none none (Data.fields #[]) #[],
  Obj.mk (Value.type "tuple") none (Data.seq #[Value.str (Str.ofString "values") 543, Value.str (Str.ofString "size") 544, Value.str (Str.ofString "w") 545]) #[],
  Obj.mk (Value.type "tuple") none (Data.seq #[]) #[],
  Obj.mk Value.none none (Data.func (FuncData.mk (Str.ofString "joined_five") (Str.ofString "joined_five") (prm 38) (FuncBody.stmts (bdy 38)) (scp 38) 0 [] Value.none Value.none Value.none Value.none none Value.none Value.none 0)) #[],
  Obj.mk (Value.type "code") none (Data.fields #[Value.str (Str.ofString "joined_five") 540, Value.str (Str.ofString "joined_five") 541, Value.str (Str.ofString "/claim/cut.py") 542, Value.int 168 0, Value.int 3 0, Value.int 0 0, Value.int 0 0, Value.int 3 0, Value.ref 259, Value.bool true, Value.int 181 0, Value.ref 260, Value.none, Value.ref 261, Value.ref 262, Value.ref 263, Value.int 546 0, Value.int 168 0, Value.str (Str.ofString "/claim/cut.py") 547]) #[],
  Obj.mk (Value.type "function") none (Data.func (FuncData.mk (Str.ofString "joined_five") (Str.ofString "joined_five") (prm 38) (FuncBody.stmts (bdy 38)) (scp 38) 3 [] Value.none Value.none Value.none (Value.str (Str.ofString "gmp.toom") 501) none (Value.ref 264) Value.none 0)) #[],
  Obj.mk (Value.type "tuple") none (Data.seq #[]) #[],
  Obj.mk Value.none none (Data.fields #[]) #[],
  Obj.mk (Value.type "tuple") none (Data.seq #[Value.str (Str.ofString "values") 552, Value.str (Str.ofString "size") 553, Value.str (Str.ofString "w") 554, Value.str (Str.ofString "found") 555]) #[],
  Obj.mk (Value.type "tuple") none (Data.seq #[]) #[],
  Obj.mk Value.none none (Data.func (FuncData.mk (Str.ofString "joined_seven") (Str.ofString "joined_seven") (prm 39) (FuncBody.stmts (bdy 39)) (scp 39) 0 [] Value.none Value.none Value.none Value.none none Value.none Value.none 0)) #[],
  Obj.mk (Value.type "code") none (Data.fields #[Value.str (Str.ofString "joined_seven") 549, Value.str (Str.ofString "joined_seven") 550, Value.str (Str.ofString "/claim/cut.py") 551, Value.int 170 0, Value.int 3 0, Value.int 0 0, Value.int 0 0, Value.int 3 0, Value.ref 266, Value.bool true, Value.int 181 0, Value.ref 267, Value.none, Value.ref 268, Value.ref 269, Value.ref 270, Value.int 556 0, Value.int 170 0, Value.str (Str.ofString "/claim/cut.py") 557]) #[],
  Obj.mk (Value.type "function") none (Data.func (FuncData.mk (Str.ofString "joined_seven") (Str.ofString "joined_seven") (prm 39) (FuncBody.stmts (bdy 39)) (scp 39) 3 [] Value.none Value.none Value.none (Value.str (Str.ofString "gmp.toom") 501) none (Value.ref 271) Value.none 0)) #[],
  Obj.mk (Value.type "tuple") none (Data.seq #[]) #[],
  Obj.mk Value.none none (Data.fields #[]) #[],
  Obj.mk (Value.type "tuple") none (Data.seq #[Value.str (Str.ofString "a") 562, Value.str (Str.ofString "b") 563, Value.str (Str.ofString "first") 564, Value.str (Str.ofString "second") 565]) #[],
  Obj.mk (Value.type "tuple") none (Data.seq #[]) #[],
  Obj.mk Value.none none (Data.func (FuncData.mk (Str.ofString "common_size") (Str.ofString "common_size") (prm 40) (FuncBody.stmts (bdy 40)) (scp 40) 0 [] Value.none Value.none Value.none Value.none none Value.none Value.none 0)) #[],
  Obj.mk (Value.type "code") none (Data.fields #[Value.str (Str.ofString "common_size") 559, Value.str (Str.ofString "common_size") 560, Value.str (Str.ofString "/claim/cut.py") 561, Value.int 173 0, Value.int 4 0, Value.int 0 0, Value.int 0 0, Value.int 3 0, Value.ref 273, Value.bool true, Value.int 181 0, Value.ref 274, Value.none, Value.ref 275, Value.ref 276, Value.ref 277, Value.int 566 0, Value.int 173 0, Value.str (Str.ofString "/claim/cut.py") 567]) #[]]
noncomputable def obj9 (_P : Params) : List Obj := [Obj.mk (Value.type "function") none (Data.func (FuncData.mk (Str.ofString "common_size") (Str.ofString "common_size") (prm 40) (FuncBody.stmts (bdy 40)) (scp 40) 3 [] Value.none Value.none Value.none (Value.str (Str.ofString "gmp.toom") 501) none (Value.ref 278) Value.none 0)) #[],
  Obj.mk (Value.type "tuple") none (Data.seq #[]) #[],
  Obj.mk Value.none none (Data.fields #[]) #[],
  Obj.mk (Value.type "tuple") none (Data.seq #[Value.str (Str.ofString "a") 572, Value.str (Str.ofString "b") 573, Value.str (Str.ofString "w") 574, Value.str (Str.ofString "mul") 575, Value.str (Str.ofString "size") 576, Value.str (Str.ofString "some") 577, Value.str (Str.ofString "others") 578]) #[],
  Obj.mk (Value.type "tuple") none (Data.seq #[]) #[],
  Obj.mk Value.none none (Data.func (FuncData.mk (Str.ofString "toom3") (Str.ofString "toom3") (prm 41) (FuncBody.stmts (bdy 41)) (scp 41) 0 [] Value.none Value.none Value.none Value.none none Value.none Value.none 0)) #[],
  Obj.mk (Value.type "code") none (Data.fields #[Value.str (Str.ofString "toom3") 569, Value.str (Str.ofString "toom3") 570, Value.str (Str.ofString "/claim/cut.py") 571, Value.int 175 0, Value.int 4 0, Value.int 0 0, Value.int 0 0, Value.int 3 0, Value.ref 280, Value.bool true, Value.int 181 0, Value.ref 281, Value.none, Value.ref 282, Value.ref 283, Value.ref 284, Value.int 579 0, Value.int 175 0, Value.str (Str.ofString "/claim/cut.py") 580]) #[],
  Obj.mk (Value.type "function") none (Data.func (FuncData.mk (Str.ofString "toom3") (Str.ofString "toom3") (prm 41) (FuncBody.stmts (bdy 41)) (scp 41) 3 [] Value.none Value.none Value.none (Value.str (Str.ofString "gmp.toom") 501) none (Value.ref 285) Value.none 0)) #[],
  Obj.mk (Value.type "tuple") none (Data.seq #[]) #[],
  Obj.mk Value.none none (Data.fields #[]) #[],
  Obj.mk (Value.type "tuple") none (Data.seq #[Value.str (Str.ofString "a") 585, Value.str (Str.ofString "b") 586, Value.str (Str.ofString "w") 587, Value.str (Str.ofString "mul") 588, Value.str (Str.ofString "size") 589, Value.str (Str.ofString "some") 590, Value.str (Str.ofString "others") 591]) #[],
  Obj.mk (Value.type "tuple") none (Data.seq #[]) #[],
  Obj.mk Value.none none (Data.func (FuncData.mk (Str.ofString "toom4") (Str.ofString "toom4") (prm 42) (FuncBody.stmts (bdy 42)) (scp 42) 0 [] Value.none Value.none Value.none Value.none none Value.none Value.none 0)) #[],
  Obj.mk (Value.type "code") none (Data.fields #[Value.str (Str.ofString "toom4") 582, Value.str (Str.ofString "toom4") 583, Value.str (Str.ofString "/claim/cut.py") 584, Value.int 179 0, Value.int 4 0, Value.int 0 0, Value.int 0 0, Value.int 3 0, Value.ref 287, Value.bool true, Value.int 181 0, Value.ref 288, Value.none, Value.ref 289, Value.ref 290, Value.ref 291, Value.int 592 0, Value.int 179 0, Value.str (Str.ofString "/claim/cut.py") 593]) #[],
  Obj.mk (Value.type "function") none (Data.func (FuncData.mk (Str.ofString "toom4") (Str.ofString "toom4") (prm 42) (FuncBody.stmts (bdy 42)) (scp 42) 3 [] Value.none Value.none Value.none (Value.str (Str.ofString "gmp.toom") 501) none (Value.ref 292) Value.none 0)) #[],
  Obj.mk (Value.type "tuple") none (Data.seq #[]) #[],
  Obj.mk Value.none none (Data.fields #[]) #[],
  Obj.mk Value.none none (Data.func (FuncData.mk (Str.ofString "squares_of") (Str.ofString "squares_of") (prm 43) (FuncBody.stmts (bdy 43)) (scp 43) 0 [] Value.none Value.none Value.none Value.none none Value.none Value.none 0)) #[],
  Obj.mk (Value.type "code") none (Data.fields #[Value.str (Str.ofString "squares_of") 595, Value.str (Str.ofString "squares_of") 596, Value.str (Str.ofString "/claim/cut.py") 597, Value.int 183 0, Value.int 3 0, Value.int 0 0, Value.int 0 0, Value.int 3 0, Value.ref 294, Value.bool true, Value.int 181 0, Value.ref 295, Value.none, Value.none, Value.none, Value.ref 296, Value.int 598 0, Value.int 183 0, Value.str (Str.ofString "/claim/cut.py") 599]) #[],
  Obj.mk (Value.type "function") none (Data.func (FuncData.mk (Str.ofString "squares_of") (Str.ofString "squares_of") (prm 43) (FuncBody.stmts (bdy 43)) (scp 43) 3 [] Value.none Value.none Value.none (Value.str (Str.ofString "gmp.toom") 501) none (Value.ref 297) Value.none 0)) #[],
  Obj.mk (Value.type "tuple") none (Data.seq #[]) #[],
  Obj.mk Value.none none (Data.fields #[]) #[],
  Obj.mk (Value.type "tuple") none (Data.seq #[Value.str (Str.ofString "a") 604, Value.str (Str.ofString "w") 605, Value.str (Str.ofString "sqr") 606, Value.str (Str.ofString "size") 607]) #[],
  Obj.mk (Value.type "tuple") none (Data.seq #[]) #[],
  Obj.mk Value.none none (Data.func (FuncData.mk (Str.ofString "toom_sqr3") (Str.ofString "toom_sqr3") (prm 44) (FuncBody.stmts (bdy 44)) (scp 44) 0 [] Value.none Value.none Value.none Value.none none Value.none Value.none 0)) #[],
  Obj.mk (Value.type "code") none (Data.fields #[Value.str (Str.ofString "toom_sqr3") 601, Value.str (Str.ofString "toom_sqr3") 602, Value.str (Str.ofString "/claim/cut.py") 603, Value.int 185 0, Value.int 3 0, Value.int 0 0, Value.int 0 0, Value.int 3 0, Value.ref 299, Value.bool true, Value.int 181 0, Value.ref 300, Value.none, Value.ref 301, Value.ref 302, Value.ref 303, Value.int 608 0, Value.int 185 0, Value.str (Str.ofString "/claim/cut.py") 609]) #[],
  Obj.mk (Value.type "function") none (Data.func (FuncData.mk (Str.ofString "toom_sqr3") (Str.ofString "toom_sqr3") (prm 44) (FuncBody.stmts (bdy 44)) (scp 44) 3 [] Value.none Value.none Value.none (Value.str (Str.ofString "gmp.toom") 501) none (Value.ref 304) Value.none 0)) #[],
  Obj.mk (Value.type "tuple") none (Data.seq #[]) #[],
  Obj.mk Value.none none (Data.fields #[]) #[],
  Obj.mk (Value.type "tuple") none (Data.seq #[Value.str (Str.ofString "a") 614, Value.str (Str.ofString "w") 615, Value.str (Str.ofString "sqr") 616, Value.str (Str.ofString "size") 617]) #[],
  Obj.mk (Value.type "tuple") none (Data.seq #[]) #[]]
noncomputable def obj10 (_P : Params) : List Obj := [Obj.mk Value.none none (Data.func (FuncData.mk (Str.ofString "toom_sqr4") (Str.ofString "toom_sqr4") (prm 45) (FuncBody.stmts (bdy 45)) (scp 45) 0 [] Value.none Value.none Value.none Value.none none Value.none Value.none 0)) #[],
  Obj.mk (Value.type "code") none (Data.fields #[Value.str (Str.ofString "toom_sqr4") 611, Value.str (Str.ofString "toom_sqr4") 612, Value.str (Str.ofString "/claim/cut.py") 613, Value.int 188 0, Value.int 3 0, Value.int 0 0, Value.int 0 0, Value.int 3 0, Value.ref 306, Value.bool true, Value.int 181 0, Value.ref 307, Value.none, Value.ref 308, Value.ref 309, Value.ref 310, Value.int 618 0, Value.int 188 0, Value.str (Str.ofString "/claim/cut.py") 619]) #[],
  Obj.mk (Value.type "function") none (Data.func (FuncData.mk (Str.ofString "toom_sqr4") (Str.ofString "toom_sqr4") (prm 45) (FuncBody.stmts (bdy 45)) (scp 45) 3 [] Value.none Value.none Value.none (Value.str (Str.ofString "gmp.toom") 501) none (Value.ref 311) Value.none 0)) #[],
  Obj.mk (Value.type "tuple") none (Data.seq #[]) #[],
  Obj.mk Value.none none (Data.fields #[]) #[],
  Obj.mk (Value.type "tuple") none (Data.seq #[Value.str (Str.ofString "number") 626, Value.str (Str.ofString "w") 627, Value.str (Str.ofString "found") 628]) #[],
  Obj.mk (Value.type "tuple") none (Data.seq #[]) #[],
  Obj.mk Value.none none (Data.func (FuncData.mk (Str.ofString "_law_nat") (Str.ofString "_law_nat") (prm 47) (FuncBody.stmts (bdy 47)) (scp 47) 0 [] Value.none Value.none Value.none Value.none none Value.none Value.none 0)) #[],
  Obj.mk (Value.type "code") none (Data.fields #[Value.str (Str.ofString "_law_nat") 623, Value.str (Str.ofString "_law_nat") 624, Value.str (Str.ofString "/claim/cut.py") 625, Value.int 192 0, Value.int 2 0, Value.int 0 0, Value.int 0 0, Value.int 3 0, Value.ref 313, Value.bool true, Value.int 181 0, Value.ref 314, Value.none, Value.ref 315, Value.ref 316, Value.ref 317, Value.int 629 0, Value.int 192 0, Value.str (Str.ofString "/claim/cut.py") 630]) #[],
  Obj.mk (Value.type "function") none (Data.func (FuncData.mk (Str.ofString "_law_nat") (Str.ofString "_law_nat") (prm 47) (FuncBody.stmts (bdy 47)) (scp 47) 3 [] Value.none Value.none Value.none (Value.str (Str.ofString "law_nn0027_01") 621) none (Value.ref 318) Value.none 0)) #[],
  Obj.mk (Value.type "tuple") none (Data.seq #[]) #[],
  Obj.mk Value.none none (Data.fields #[]) #[],
  Obj.mk (Value.type "tuple") none (Data.seq #[Value.str (Str.ofString "limbs") 635, Value.str (Str.ofString "w") 636, Value.str (Str.ofString "found") 637, Value.str (Str.ofString "limb") 638]) #[],
  Obj.mk (Value.type "tuple") none (Data.seq #[]) #[],
  Obj.mk Value.none none (Data.func (FuncData.mk (Str.ofString "_law_value") (Str.ofString "_law_value") (prm 48) (FuncBody.stmts (bdy 48)) (scp 48) 0 [] Value.none Value.none Value.none Value.none none Value.none Value.none 0)) #[],
  Obj.mk (Value.type "code") none (Data.fields #[Value.str (Str.ofString "_law_value") 632, Value.str (Str.ofString "_law_value") 633, Value.str (Str.ofString "/claim/cut.py") 634, Value.int 198 0, Value.int 2 0, Value.int 0 0, Value.int 0 0, Value.int 3 0, Value.ref 320, Value.bool true, Value.int 181 0, Value.ref 321, Value.none, Value.ref 322, Value.ref 323, Value.ref 324, Value.int 639 0, Value.int 198 0, Value.str (Str.ofString "/claim/cut.py") 640]) #[],
  Obj.mk (Value.type "function") none (Data.func (FuncData.mk (Str.ofString "_law_value") (Str.ofString "_law_value") (prm 48) (FuncBody.stmts (bdy 48)) (scp 48) 3 [] Value.none Value.none Value.none (Value.str (Str.ofString "law_nn0027_01") 621) none (Value.ref 325) Value.none 0)) #[],
  Obj.mk (Value.type "tuple") none (Data.seq #[]) #[],
  Obj.mk Value.none none (Data.fields #[]) #[],
  Obj.mk (Value.type "tuple") none (Data.seq #[Value.str (Str.ofString "a") 645, Value.str (Str.ofString "b") 646, Value.str (Str.ofString "w") 647, Value.str (Str.ofString "found") 648, Value.str (Str.ofString "at") 649, Value.str (Str.ofString "one") 650, Value.str (Str.ofString "carry") 651, Value.str (Str.ofString "spot") 652, Value.str (Str.ofString "other") 653]) #[],
  Obj.mk (Value.type "tuple") none (Data.seq #[]) #[],
  Obj.mk Value.none none (Data.func (FuncData.mk (Str.ofString "_law_mul") (Str.ofString "_law_mul") (prm 49) (FuncBody.stmts (bdy 49)) (scp 49) 0 [] Value.none Value.none Value.none Value.none none Value.none Value.none 0)) #[],
  Obj.mk (Value.type "code") none (Data.fields #[Value.str (Str.ofString "_law_mul") 642, Value.str (Str.ofString "_law_mul") 643, Value.str (Str.ofString "/claim/cut.py") 644, Value.int 205 0, Value.int 3 0, Value.int 0 0, Value.int 0 0, Value.int 3 0, Value.ref 327, Value.bool true, Value.int 181 0, Value.ref 328, Value.none, Value.ref 329, Value.ref 330, Value.ref 331, Value.int 654 0, Value.int 205 0, Value.str (Str.ofString "/claim/cut.py") 655]) #[],
  Obj.mk (Value.type "function") none (Data.func (FuncData.mk (Str.ofString "_law_mul") (Str.ofString "_law_mul") (prm 49) (FuncBody.stmts (bdy 49)) (scp 49) 3 [] Value.none Value.none Value.none (Value.str (Str.ofString "law_nn0027_01") 621) none (Value.ref 332) Value.none 0)) #[],
  Obj.mk (Value.type "tuple") none (Data.seq #[]) #[],
  Obj.mk Value.none none (Data.fields #[]) #[],
  Obj.mk (Value.type "tuple") none (Data.seq #[Value.str (Str.ofString "a") 660, Value.str (Str.ofString "w") 661]) #[],
  Obj.mk (Value.type "tuple") none (Data.seq #[]) #[],
  Obj.mk Value.none none (Data.func (FuncData.mk (Str.ofString "_law_sqr") (Str.ofString "_law_sqr") (prm 50) (FuncBody.stmts (bdy 50)) (scp 50) 0 [] Value.none Value.none Value.none Value.none none Value.none Value.none 0)) #[],
  Obj.mk (Value.type "code") none (Data.fields #[Value.str (Str.ofString "_law_sqr") 657, Value.str (Str.ofString "_law_sqr") 658, Value.str (Str.ofString "/claim/cut.py") 659, Value.int 217 0, Value.int 2 0, Value.int 0 0, Value.int 0 0, Value.int 3 0, Value.ref 334, Value.bool true, Value.int 181 0, Value.ref 335, Value.none, Value.ref 336, Value.ref 337, Value.ref 338, Value.int 662 0, Value.int 217 0, Value.str (Str.ofString "/claim/cut.py") 663]) #[],
  Obj.mk (Value.type "function") none (Data.func (FuncData.mk (Str.ofString "_law_sqr") (Str.ofString "_law_sqr") (prm 50) (FuncBody.stmts (bdy 50)) (scp 50) 3 [] Value.none Value.none Value.none (Value.str (Str.ofString "law_nn0027_01") 621) none (Value.ref 339) Value.none 0)) #[]]
noncomputable def obj11 (_P : Params) : List Obj := [Obj.mk (Value.type "tuple") none (Data.seq #[]) #[],
  Obj.mk Value.none none (Data.fields #[]) #[],
  Obj.mk (Value.type "tuple") none (Data.seq #[Value.str (Str.ofString "some") 668, Value.str (Str.ofString "begin_at") 669, Value.str (Str.ofString "w") 670, Value.str (Str.ofString "found") 671, Value.str (Str.ofString "at") 672, Value.str (Str.ofString "number") 673, Value.str (Str.ofString "limb") 674]) #[],
  Obj.mk (Value.type "tuple") none (Data.seq #[]) #[],
  Obj.mk Value.none none (Data.func (FuncData.mk (Str.ofString "_law_number") (Str.ofString "_law_number") (prm 51) (FuncBody.stmts (bdy 51)) (scp 51) 0 [] Value.none Value.none Value.none Value.none none Value.none Value.none 0)) #[],
  Obj.mk (Value.type "code") none (Data.fields #[Value.str (Str.ofString "_law_number") 665, Value.str (Str.ofString "_law_number") 666, Value.str (Str.ofString "/claim/cut.py") 667, Value.int 219 0, Value.int 3 0, Value.int 0 0, Value.int 0 0, Value.int 3 0, Value.ref 341, Value.bool true, Value.int 181 0, Value.ref 342, Value.none, Value.ref 343, Value.ref 344, Value.ref 345, Value.int 675 0, Value.int 219 0, Value.str (Str.ofString "/claim/cut.py") 676]) #[],
  Obj.mk (Value.type "function") none (Data.func (FuncData.mk (Str.ofString "_law_number") (Str.ofString "_law_number") (prm 51) (FuncBody.stmts (bdy 51)) (scp 51) 3 [] Value.none Value.none Value.none (Value.str (Str.ofString "law_nn0027_01") 621) none (Value.ref 346) Value.none 0)) #[],
  Obj.mk (Value.type "tuple") none (Data.seq #[]) #[],
  Obj.mk Value.none none (Data.fields #[]) #[],
  Obj.mk (Value.type "tuple") none (Data.seq #[Value.str (Str.ofString "number") 681, Value.str (Str.ofString "w") 682]) #[],
  Obj.mk (Value.type "tuple") none (Data.seq #[]) #[],
  Obj.mk Value.none none (Data.func (FuncData.mk (Str.ofString "_law_signed") (Str.ofString "_law_signed") (prm 52) (FuncBody.stmts (bdy 52)) (scp 52) 0 [] Value.none Value.none Value.none Value.none none Value.none Value.none 0)) #[],
  Obj.mk (Value.type "code") none (Data.fields #[Value.str (Str.ofString "_law_signed") 678, Value.str (Str.ofString "_law_signed") 679, Value.str (Str.ofString "/claim/cut.py") 680, Value.int 226 0, Value.int 2 0, Value.int 0 0, Value.int 0 0, Value.int 3 0, Value.ref 348, Value.bool true, Value.int 181 0, Value.ref 349, Value.none, Value.ref 350, Value.ref 351, Value.ref 352, Value.int 683 0, Value.int 226 0, Value.str (Str.ofString "/claim/cut.py") 684]) #[],
  Obj.mk (Value.type "function") none (Data.func (FuncData.mk (Str.ofString "_law_signed") (Str.ofString "_law_signed") (prm 52) (FuncBody.stmts (bdy 52)) (scp 52) 3 [] Value.none Value.none Value.none (Value.str (Str.ofString "law_nn0027_01") 621) none (Value.ref 353) Value.none 0)) #[],
  Obj.mk (Value.type "tuple") none (Data.seq #[]) #[],
  Obj.mk Value.none none (Data.fields #[]) #[],
  Obj.mk (Value.type "tuple") none (Data.seq #[Value.str (Str.ofString "row") 689, Value.str (Str.ofString "point") 690, Value.str (Str.ofString "found") 691, Value.str (Str.ofString "one") 692]) #[],
  Obj.mk (Value.type "tuple") none (Data.seq #[]) #[],
  Obj.mk Value.none none (Data.func (FuncData.mk (Str.ofString "_law_at") (Str.ofString "_law_at") (prm 53) (FuncBody.stmts (bdy 53)) (scp 53) 0 [] Value.none Value.none Value.none Value.none none Value.none Value.none 0)) #[],
  Obj.mk (Value.type "code") none (Data.fields #[Value.str (Str.ofString "_law_at") 686, Value.str (Str.ofString "_law_at") 687, Value.str (Str.ofString "/claim/cut.py") 688, Value.int 228 0, Value.int 2 0, Value.int 0 0, Value.int 0 0, Value.int 3 0, Value.ref 355, Value.bool true, Value.int 181 0, Value.ref 356, Value.none, Value.ref 357, Value.ref 358, Value.ref 359, Value.int 693 0, Value.int 228 0, Value.str (Str.ofString "/claim/cut.py") 694]) #[],
  Obj.mk (Value.type "function") none (Data.func (FuncData.mk (Str.ofString "_law_at") (Str.ofString "_law_at") (prm 53) (FuncBody.stmts (bdy 53)) (scp 53) 3 [] Value.none Value.none Value.none (Value.str (Str.ofString "law_nn0027_01") 621) none (Value.ref 360) Value.none 0)) #[],
  Obj.mk (Value.type "tuple") none (Data.seq #[]) #[],
  Obj.mk Value.none none (Data.fields #[]) #[],
  Obj.mk Value.none none (Data.func (FuncData.mk (Str.ofString "_law_points_right") (Str.ofString "_law_points_right") (prm 54) (FuncBody.stmts (bdy 54)) (scp 54) 0 [] Value.none Value.none Value.none Value.none none Value.none Value.none 0)) #[],
  Obj.mk (Value.type "code") none (Data.fields #[Value.str (Str.ofString "_law_points_right") 696, Value.str (Str.ofString "_law_points_right") 697, Value.str (Str.ofString "/claim/cut.py") 698, Value.int 233 0, Value.int 2 0, Value.int 0 0, Value.int 0 0, Value.int 3 0, Value.ref 362, Value.bool true, Value.int 181 0, Value.ref 363, Value.none, Value.none, Value.none, Value.ref 364, Value.int 699 0, Value.int 233 0, Value.str (Str.ofString "/claim/cut.py") 700]) #[],
  Obj.mk (Value.type "function") none (Data.func (FuncData.mk (Str.ofString "_law_points_right") (Str.ofString "_law_points_right") (prm 54) (FuncBody.stmts (bdy 54)) (scp 54) 3 [] Value.none Value.none Value.none (Value.str (Str.ofString "law_nn0027_01") 621) none (Value.ref 365) Value.none 0)) #[],
  Obj.mk (Value.type "tuple") none (Data.seq #[]) #[],
  Obj.mk Value.none none (Data.fields #[]) #[],
  Obj.mk Value.none none (Data.func (FuncData.mk (Str.ofString "law") (Str.ofString "law") (prm 55) (FuncBody.stmts (bdy 55)) (scp 55) 0 [] Value.none Value.none Value.none Value.none none Value.none Value.none 0)) #[],
  Obj.mk (Value.type "code") none (Data.fields #[Value.str (Str.ofString "law") 702, Value.str (Str.ofString "law") 703, Value.str (Str.ofString "/claim/cut.py") 704, Value.int 250 0, Value.int 1 0, Value.int 0 0, Value.int 0 0, Value.int 3 0, Value.ref 367, Value.bool true, Value.int 181 0, Value.ref 368, Value.none, Value.none, Value.none, Value.ref 369, Value.int 705 0, Value.int 250 0, Value.str (Str.ofString "/claim/cut.py") 706]) #[],
  Obj.mk (Value.type "function") none (Data.func (FuncData.mk (Str.ofString "law") (Str.ofString "law") (prm 55) (FuncBody.stmts (bdy 55)) (scp 55) 3 [] Value.none Value.none Value.none (Value.str (Str.ofString "law_nn0027_01") 621) none (Value.ref 370) Value.none 0)) #[]]
noncomputable def objs (P : Params) : List Obj := obj0 P ++ (obj1 P ++ (obj2 P ++ (obj3 P ++ (obj4 P ++ (obj5 P ++ (obj6 P ++ (obj7 P ++ (obj8 P ++ (obj9 P ++ (obj10 P ++ (obj11 P)))))))))))
def life1 : Life := (Life.mk [] [] [] 0 [] [] false #[] [] 0 false false false 0 [2000, 10, 10] false 0 true [] [] 0 false)
noncomputable def tree0 (P : Params) : BT := (treeFrom (boot_heap P).objs.toList 0 .nil).getD .nil
noncomputable def tree1 (P : Params) : BT := (treeFrom (objs P) 0 .nil).getD .nil
noncomputable def heap1 (P : Params) : Heap := ⟨(objs P).toArray, life1⟩
theorem tree0_ok (P : Params) : treeFrom (boot_heap P).objs.toList 0 .nil = some (tree0 P) := by kernel_rfl
theorem tree1_ok (P : Params) : treeFrom (objs P) 0 .nil = some (tree1 P) := by kernel_rfl
theorem len0 (P : Params) : (boot_heap P).objs.toList.length = 11 := by kernel_rfl
theorem len1 (P : Params) : (objs P).length = 372 := by kernel_rfl
theorem abs_nil (life : Life) : (absHeap .nil 0 life).objs = #[] := by simp [absHeap, BT.list]
theorem abs_of {l : List Obj} {t : BT} {n : Nat} (life : Life) (h : treeFrom l 0 .nil = some t) (hn : l.length = n) : absHeap t n life = ⟨l.toArray, life⟩ := by
  have := treeFrom_abs life l 0 .nil t h
  rw [Nat.zero_add, hn, abs_nil, Array.empty_append] at this
  exact this
noncomputable def mid0 (P : Params) : List Obj := (objs P).take 15
  |>.set 2 (boot_o_2 P)
  |>.set 3 (boot_o_3 P)
  |>.set 12 (Obj.mk Value.none none (Data.fields #[]) #[])
noncomputable abbrev S0 (w : World) (os : OsState) : SharedT := ⟨(treeFrom (mid0 w.params) 0 .nil).getD .nil, 15, life1, Array.mk [], {}, 187, os⟩
noncomputable def mid1 (P : Params) : List Obj := (objs P).take 28
  |>.set 3 (Obj.mk (Value.type "dict") none (Data.dict #[DictEntry.mk (PyData.keyHash P (Str.ofString "__name__")) (Value.str (Str.ofString "__name__") 165) (Value.str (Str.ofString "gmp.limbs") 187), DictEntry.mk (PyData.keyHash P (Str.ofString "__doc__")) (Value.str (Str.ofString "__doc__") 166) Value.none, DictEntry.mk (PyData.keyHash P (Str.ofString "__package__")) (Value.str (Str.ofString "__package__") 167) Value.none, DictEntry.mk (PyData.keyHash P (Str.ofString "__loader__")) (Value.str (Str.ofString "__loader__") 168) (Value.builtin "__main__.__loader__#opaque"), DictEntry.mk (PyData.keyHash P (Str.ofString "__spec__")) (Value.str (Str.ofString "__spec__") 169) Value.none, DictEntry.mk (PyData.keyHash P (Str.ofString "__annotations__")) (Value.str (Str.ofString "__annotations__") 170) (Value.ref 6), DictEntry.mk (PyData.keyHash P (Str.ofString "__builtins__")) (Value.str (Str.ofString "__builtins__") 171) (Value.ref 4), DictEntry.mk (PyData.keyHash P (Str.ofString "__file__")) (Value.str (Str.ofString "__file__") 173) (Value.str (Str.ofString "/claim/cut.py") 172), DictEntry.mk (PyData.keyHash P (Str.ofString "__cached__")) (Value.str (Str.ofString "__cached__") 174) Value.none, DictEntry.mk (PyData.keyHash P (Str.ofString "GmpError")) (Value.str (Str.ofString "GmpError") 208) (Value.ref 24)] 10) #[])
  |>.set 12 (Obj.mk Value.none none (Data.fields #[Value.int 2 0, Value.int 0 0, Value.ref 20]) #[])
  |>.set 24 (Obj.mk (Value.type "type") none (Data.cls (ClassData.mk (Str.ofString "GmpError") [Value.type "Exception"] [Value.ref 24, Value.type "Exception", Value.type "BaseException", Value.type "object"] 23 (Str.ofString "GmpError") true [] [] false none false)) #[some (Value.ref 15), none, some (Value.str (Str.ofString "GmpError") 189), some (Value.str (Str.ofString "GmpError") 197), some (Value.builtin "Exception.__new__"), some (Value.bool true)])
noncomputable abbrev S1 (w : World) (os : OsState) : SharedT := ⟨(treeFrom (mid1 w.params) 0 .nil).getD .nil, 28, life1, Array.mk [], {}, 209, os⟩
noncomputable def mid2 (P : Params) : List Obj := (objs P).take 40
  |>.set 3 (Obj.mk (Value.type "dict") none (Data.dict #[DictEntry.mk (PyData.keyHash P (Str.ofString "__name__")) (Value.str (Str.ofString "__name__") 165) (Value.str (Str.ofString "gmp.limbs") 187), DictEntry.mk (PyData.keyHash P (Str.ofString "__doc__")) (Value.str (Str.ofString "__doc__") 166) Value.none, DictEntry.mk (PyData.keyHash P (Str.ofString "__package__")) (Value.str (Str.ofString "__package__") 167) Value.none, DictEntry.mk (PyData.keyHash P (Str.ofString "__loader__")) (Value.str (Str.ofString "__loader__") 168) (Value.builtin "__main__.__loader__#opaque"), DictEntry.mk (PyData.keyHash P (Str.ofString "__spec__")) (Value.str (Str.ofString "__spec__") 169) Value.none, DictEntry.mk (PyData.keyHash P (Str.ofString "__annotations__")) (Value.str (Str.ofString "__annotations__") 170) (Value.ref 6), DictEntry.mk (PyData.keyHash P (Str.ofString "__builtins__")) (Value.str (Str.ofString "__builtins__") 171) (Value.ref 4), DictEntry.mk (PyData.keyHash P (Str.ofString "__file__")) (Value.str (Str.ofString "__file__") 173) (Value.str (Str.ofString "/claim/cut.py") 172), DictEntry.mk (PyData.keyHash P (Str.ofString "__cached__")) (Value.str (Str.ofString "__cached__") 174) Value.none, DictEntry.mk (PyData.keyHash P (Str.ofString "GmpError")) (Value.str (Str.ofString "GmpError") 208) (Value.ref 24), DictEntry.mk (PyData.keyHash P (Str.ofString "NotExact")) (Value.str (Str.ofString "NotExact") 224) (Value.ref 37)] 11) #[])
  |>.set 12 (Obj.mk Value.none none (Data.fields #[Value.int 2 0, Value.int 0 0, Value.ref 20, Value.int 4 0, Value.int 0 0, Value.ref 33]) #[])
  |>.set 24 (Obj.mk (Value.type "type") none (Data.cls (ClassData.mk (Str.ofString "GmpError") [Value.type "Exception"] [Value.ref 24, Value.type "Exception", Value.type "BaseException", Value.type "object"] 23 (Str.ofString "GmpError") true [] [Value.ref 37] false none false)) #[some (Value.ref 15), none, some (Value.str (Str.ofString "GmpError") 189), some (Value.str (Str.ofString "GmpError") 197), some (Value.builtin "Exception.__new__"), some (Value.bool true)])
noncomputable abbrev S2 (w : World) (os : OsState) : SharedT := ⟨(treeFrom (mid2 w.params) 0 .nil).getD .nil, 40, life1, Array.mk [], {}, 225, os⟩
noncomputable def mid3 (P : Params) : List Obj := (objs P).take 169
  |>.set 3 (Obj.mk (Value.type "dict") none (Data.dict #[DictEntry.mk (PyData.keyHash P (Str.ofString "__name__")) (Value.str (Str.ofString "__name__") 165) (Value.str (Str.ofString "gmp.points") 355), DictEntry.mk (PyData.keyHash P (Str.ofString "__doc__")) (Value.str (Str.ofString "__doc__") 166) Value.none, DictEntry.mk (PyData.keyHash P (Str.ofString "__package__")) (Value.str (Str.ofString "__package__") 167) Value.none, DictEntry.mk (PyData.keyHash P (Str.ofString "__loader__")) (Value.str (Str.ofString "__loader__") 168) (Value.builtin "__main__.__loader__#opaque"), DictEntry.mk (PyData.keyHash P (Str.ofString "__spec__")) (Value.str (Str.ofString "__spec__") 169) Value.none, DictEntry.mk (PyData.keyHash P (Str.ofString "__annotations__")) (Value.str (Str.ofString "__annotations__") 170) (Value.ref 6), DictEntry.mk (PyData.keyHash P (Str.ofString "__builtins__")) (Value.str (Str.ofString "__builtins__") 171) (Value.ref 4), DictEntry.mk (PyData.keyHash P (Str.ofString "__file__")) (Value.str (Str.ofString "__file__") 173) (Value.str (Str.ofString "/claim/cut.py") 172), DictEntry.mk (PyData.keyHash P (Str.ofString "__cached__")) (Value.str (Str.ofString "__cached__") 174) Value.none, DictEntry.mk (PyData.keyHash P (Str.ofString "GmpError")) (Value.str (Str.ofString "GmpError") 208) (Value.ref 24), DictEntry.mk (PyData.keyHash P (Str.ofString "NotExact")) (Value.str (Str.ofString "NotExact") 224) (Value.ref 37), DictEntry.mk (PyData.keyHash P (Str.ofString "OutOfRange")) (Value.str (Str.ofString "OutOfRange") 240) (Value.ref 49), DictEntry.mk (PyData.keyHash P (Str.ofString "normal")) (Value.str (Str.ofString "normal") 248) (Value.ref 58), DictEntry.mk (PyData.keyHash P (Str.ofString "compare")) (Value.str (Str.ofString "compare") 257) (Value.ref 65), DictEntry.mk (PyData.keyHash P (Str.ofString "add")) (Value.str (Str.ofString "add") 270) (Value.ref 72), DictEntry.mk (PyData.keyHash P (Str.ofString "sub")) (Value.str (Str.ofString "sub") 284) (Value.ref 79), DictEntry.mk (PyData.keyHash P (Str.ofString "add_at")) (Value.str (Str.ofString "add_at") 294) (Value.ref 86), DictEntry.mk (PyData.keyHash P (Str.ofString "shift_left")) (Value.str (Str.ofString "shift_left") 309) (Value.ref 93), DictEntry.mk (PyData.keyHash P (Str.ofString "signed")) (Value.str (Str.ofString "signed") 319) (Value.ref 100), DictEntry.mk (PyData.keyHash P (Str.ofString "s_neg")) (Value.str (Str.ofString "s_neg") 326) (Value.ref 107), DictEntry.mk (PyData.keyHash P (Str.ofString "s_add")) (Value.str (Str.ofString "s_add") 335) (Value.ref 114), DictEntry.mk (PyData.keyHash P (Str.ofString "s_sub")) (Value.str (Str.ofString "s_sub") 344) (Value.ref 121), DictEntry.mk (PyData.keyHash P (Str.ofString "s_mul")) (Value.str (Str.ofString "s_mul") 354) (Value.ref 128), DictEntry.mk (PyData.keyHash P (Str.ofString "pieces")) (Value.str (Str.ofString "pieces") 362) (Value.ref 133), DictEntry.mk (PyData.keyHash P (Str.ofString "piece_size")) (Value.str (Str.ofString "piece_size") 370) (Value.ref 140), DictEntry.mk (PyData.keyHash P (Str.ofString "scaled")) (Value.str (Str.ofString "scaled") 379) (Value.ref 147), DictEntry.mk (PyData.keyHash P (Str.ofString "exact_small")) (Value.str (Str.ofString "exact_small") 392) (Value.ref 154), DictEntry.mk (PyData.keyHash P (Str.ofString "both_values")) (Value.str (Str.ofString "both_values") 406) (Value.ref 161), DictEntry.mk (PyData.keyHash P (Str.ofString "value_at_two")) (Value.str (Str.ofString "value_at_two") 416) (Value.ref 168)] 29) #[])
  |>.set 12 (Obj.mk Value.none none (Data.fields #[Value.int 2 0, Value.int 0 0, Value.ref 20, Value.int 4 0, Value.int 0 0, Value.ref 33, Value.int 6 0, Value.int 0 0, Value.ref 45, Value.int 8 0, Value.int 0 0, Value.ref 57, Value.int 13 0, Value.int 0 0, Value.ref 64, Value.int 20 0, Value.int 0 0, Value.ref 71, Value.int 35 0, Value.int 0 0, Value.ref 78, Value.int 44 0, Value.int 0 0, Value.ref 85, Value.int 50 0, Value.int 0 0, Value.ref 92, Value.int 63 0, Value.int 0 0, Value.ref 99, Value.int 65 0, Value.int 0 0, Value.ref 106, Value.int 67 0, Value.int 0 0, Value.ref 113, Value.int 73 0, Value.int 0 0, Value.ref 120, Value.int 75 0, Value.int 0 0, Value.ref 127, Value.int 78 0, Value.int 0 0, Value.ref 132, Value.int 81 0, Value.int 0 0, Value.ref 139, Value.int 83 0, Value.int 0 0, Value.ref 146, Value.int 85 0, Value.int 0 0, Value.ref 153, Value.int 94 0, Value.int 0 0, Value.ref 160, Value.int 103 0, Value.int 0 0, Value.ref 167]) #[])
noncomputable abbrev S3 (w : World) (os : OsState) : SharedT := ⟨(treeFrom (mid3 w.params) 0 .nil).getD .nil, 169, life1, Array.mk [], {}, 417, os⟩
noncomputable abbrev S4 (w : World) (os : OsState) : SharedT := ⟨tree1 w.params, 372, life1, Array.mk [], {}, 708, os⟩
noncomputable abbrev env2 : Env := Env.mk PySem.Challenge.pw_nn0027_01.main.scope mainNs mainNs [] Str.empty none (Value.ref 13) (some 14) 0
noncomputable abbrev cB : Code := .body (behindTheImports PySem.Challenge.pw_nn0027_01) env2
noncomputable def grp (a n : Nat) : List Stmt := ((behindTheImports PySem.Challenge.pw_nn0027_01).drop a).take n
abbrev q0 : Pos := Pos.mk 0 0 0 0
noncomputable abbrev B2 : List Stmt := grp 0 2 ++ (grp 2 1 ++ (grp 3 20 ++ (grp 23 33 ++ [])))
section
variable (w : World) (os : OsState)
theorem r0 : topGo treeTable PySem.Challenge.pw_nn0027_01 w 11 (some (Value.ref 6)) 12 ⟨boot_heap w.params, Array.mk [], boot_drawn, boot_toks, os⟩ (topStub PySem.Challenge.pw_nn0027_01) = some ((S0 w os).abs, ⟨denote treeTable (.body B2 env2), cB, q0, [topFrame q0]⟩) := by kernel_rfl
theorem r1 : segRun treeTable PySem.Challenge.pw_nn0027_01 w 11 (some (Value.ref 6)) 1 1 (S0 w os).abs (blockOf B2 env2 cB q0 [topFrame q0]) = some (.next, (S0 w os).abs, cB, q0) := by kernel_rfl
theorem rA : segRunT treeTable PySem.Challenge.pw_nn0027_01 w 11 (some (Value.ref 6)) 1 206 (S0 w os) (piecesOf (grp 0 2) env2 cB q0 [topFrame q0]) = some (.next, S1 w os, cB, Pos.mk 2 0 3 8) := by kernel_rfl
theorem rB : segRunT treeTable PySem.Challenge.pw_nn0027_01 w 11 (some (Value.ref 6)) 1 214 (S1 w os) (piecesOf (grp 2 1) env2 cB (Pos.mk 2 0 3 8) [topFrame q0]) = some (.next, S2 w os, cB, Pos.mk 4 0 5 8) := by kernel_rfl
theorem rC : segRunT treeTable PySem.Challenge.pw_nn0027_01 w 11 (some (Value.ref 6)) 1 777 (S2 w os) (piecesOf (grp 3 20) env2 cB (Pos.mk 4 0 5 8) [topFrame q0]) = some (.next, S3 w os, cB, Pos.mk 103 0 107 25) := by kernel_rfl
theorem rD : segRunT treeTable PySem.Challenge.pw_nn0027_01 w 11 (some (Value.ref 6)) 1 976 (S3 w os) (piecesOf (grp 23 33) env2 cB (Pos.mk 103 0 107 25) [topFrame q0]) = some (.next, S4 w os, cB, Pos.mk 250 0 263 101) := by kernel_rfl
theorem rE : topRun treeTable PySem.Challenge.pw_nn0027_01 w 11 (some (Value.ref 6)) 2 (S4 w os).abs (restOf [] env2 cB (Pos.mk 250 0 263 101) [topFrame q0]) = some (S4 w os).abs := by kernel_rfl
theorem runP : topRun treeTable PySem.Challenge.pw_nn0027_01 w 11 (some (Value.ref 6)) (12 + (1 + (206 + (214 + (777 + (976 + 2)))))) ⟨boot_heap w.params, Array.mk [], boot_drawn, boot_toks, os⟩ (topStub PySem.Challenge.pw_nn0027_01) = some (S4 w os).abs :=
  go_top (r0 w os) (piece_block (r1 w os) (piece_app (segRun_of (rA w os)) (piece_app (segRun_of (rB w os)) (piece_app (segRun_of (rC w os)) (piece_app (segRun_of (rD w os)) (rE w os))))))
end
theorem open0 (w : World) : (fencedOpening treeTable PySem.Challenge.pw_nn0027_01 w 4458).map (fun s => (s.heap, s.gens, s.drawn, s.toks)) = some (boot_heap w.params, Array.mk [], boot_drawn, boot_toks) := by kernel_rfl
theorem size0 (w : World) : ((boot_heap w.params).isNs mainGlobals && (Array.mk [] : Array GenState).size == 0, (boot_heap w.params).objs.size, (boot_heap w.params).nsMap mainGlobals "__annotations__") = (true, 11, some (Value.ref 6)) := by kernel_rfl
theorem abs_eq {T : BT} {n : Nat} {life : Life} {H : Heap} {g : Array GenState} {d : Drawn} {k : Nat} {os : OsState} (h : absHeap T n life = H) : (⟨T, n, life, g, d, k, os⟩ : SharedT).abs = ⟨H, g, d, k, os⟩ := by
  subst h
  rfl
theorem heap1_ok (P : Params) : absHeap (tree1 P) 372 life1 = heap1 P := abs_of life1 (tree1_ok P) (len1 P)
theorem run0 (w : World) (os : OsState) : topRun treeTable PySem.Challenge.pw_nn0027_01 w 11 (some (Value.ref 6)) (12 + (1 + (206 + (214 + (777 + (976 + 2)))))) ⟨boot_heap w.params, Array.mk [], boot_drawn, boot_toks, os⟩ (topStub PySem.Challenge.pw_nn0027_01) = some ⟨heap1 w.params, Array.mk [], {}, 708, os⟩ :=
  (runP w os).trans (congrArg some (abs_eq (heap1_ok w.params)))
noncomputable abbrev sF (w : World) (os : OsState) : Shared := ⟨heap1 w.params, Array.mk [], {}, 708, os⟩
theorem pr9 {α β γ δ ε ζ η θ κ : Type} {a a' : α} {b b' : β} {c c' : γ} {d d' : δ} {e e' : ε} {f f' : ζ} {g g' : η} {h h' : θ} {i i' : κ} (h1 : a = a') (h2 : b = b') (h3 : c = c') (h4 : d = d') (h5 : e = e') (h6 : f = f') (h7 : g = g') (h8 : h = h') (h9 : i = i') :
    (a, b, c, d, e, f, g, h, i) = (a', b', c', d', e', f', g', h', i') := by
  subst h1 h2 h3 h4 h5 h6 h7 h8 h9
  rfl
theorem pr3 {α β γ : Type} {a a' : α} {b b' : β} {c c' : γ} (h1 : a = a') (h2 : b = b') (h3 : c = c') : (a, b, c) = (a', b', c') := by
  subst h1 h2 h3
  rfl
section
variable (w : World) (os : OsState)
theorem k0 : (staticsOk (importedModules PySem.Challenge.pw_nn0027_01.main.body) (boot_heap w.params) (heap1 w.params) && namesBound PySem.Challenge.pw_nn0027_01 (heap1 w.params) && gensDone (sF w os) && laidKept (boot_heap w.params) (heap1 w.params)) = true := by kernel_rfl
theorem k1 : seen ((recsOf Q).map (·.name)) (ownsOf Q) [] { sF w os with gens := #[] } = expectedOf Q := by kernel_rfl
theorem k2 : (sF w os).heap.bltView = bltViewBooted := by kernel_rfl
theorem k3 : ((sF w os).heap.keysOk (looseW Q []) ((recsOf Q).map (·.name)) ((litsOf Q).map (·.1)) ((clssOf Q (looseW Q [])).map (·.name)) && (sF w os).heap.accountedOkI (importedModules PySem.Challenge.pw_nn0027_01.main.body) && (sF w os).heap.isNs mainGlobals && (sF w os).heap.isNs builtinsNs && tablesOk Q (sF w os).heap && (xlAt Q [] (sF w os) && recOk (RowW.records PySem.Challenge.rw_nn0027_01.row.toRowW) (sF w os)) && (sF w os).gens.size == 0) = true := by kernel_rfl
theorem k4 : tabsOk Q (sF w os) = true := by kernel_rfl
theorem k5 : pinSeenD Q (drecsOf Q) (sF w os) = pinGoodD (drecsOf Q) := by kernel_rfl
theorem k6 : plainSeenE Q (looseW Q []) (sF w os) = plainGoodE Q (looseW Q []) := by kernel_rfl
theorem k7 : plainSeenD Q [] (sF w os) = plainGoodD Q [] := by kernel_rfl
theorem k8 : wideSeen Q (sF w os) = wideGood Q := by kernel_rfl
theorem k9 : clsSeenW Q [] (sF w os) = clsGoodW Q [] := by kernel_rfl
theorem k10 : Hook.none.obs (sF w os) = Hook.none.val w := by kernel_rfl
theorem k11a : openSeen Q [] (importedModules PySem.Challenge.pw_nn0027_01.main.body) (fun s => xlAt Q [] s && recOk (RowW.records PySem.Challenge.rw_nn0027_01.row.toRowW) s) true (sF w os) = (seen ((recsOf Q).map (·.name)) (ownsOf Q) [] { sF w os with gens := #[] }, (sF w os).heap.bltView, ((sF w os).heap.keysOk (looseW Q []) ((recsOf Q).map (·.name)) ((litsOf Q).map (·.1)) ((clssOf Q (looseW Q [])).map (·.name)) && (sF w os).heap.accountedOkI (importedModules PySem.Challenge.pw_nn0027_01.main.body) && (sF w os).heap.isNs mainGlobals && (sF w os).heap.isNs builtinsNs && tablesOk Q (sF w os).heap && (xlAt Q [] (sF w os) && recOk (RowW.records PySem.Challenge.rw_nn0027_01.row.toRowW) (sF w os)) && (sF w os).gens.size == 0), tabsOk Q (sF w os), pinSeenD Q (drecsOf Q) (sF w os), plainSeenE Q (looseW Q []) (sF w os), plainSeenD Q [] (sF w os), wideSeen Q (sF w os), clsSeenW Q [] (sF w os)) := by kernel_rfl
theorem k11b : openGood Q [] = (expectedOf Q, bltViewBooted, true, true, pinGoodD (drecsOf Q), plainGoodE Q (looseW Q []), plainGoodD Q [], wideGood Q, clsGoodW Q []) := by kernel_rfl
theorem k11 : openSeen Q [] (importedModules PySem.Challenge.pw_nn0027_01.main.body) (fun s => xlAt Q [] s && recOk (RowW.records PySem.Challenge.rw_nn0027_01.row.toRowW) s) true (sF w os) = openGood Q [] :=
  (k11a w os).trans ((pr9 (k1 w os) (k2 w os) (k3 w os) (k4 w os) (k5 w os) (k6 w os) (k7 w os) (k8 w os) (k9 w os)).trans k11b.symm)
end
theorem lookX : LeftO PySem.Challenge.pw_nn0027_01 Q [] (fun s => xlAt Q [] s && recOk (RowW.records PySem.Challenge.rw_nn0027_01.row.toRowW) s) Hook.none.obs Hook.none.val 4458 :=
  LeftO.of_pieces (H₁ := heap1) (gs₀ := Array.mk []) (M := 12 + (1 + (206 + (214 + (777 + (976 + 2)))))) open0 size0 run0 (by decide) fun w => funext fun os => pr3 (k0 w os) (k11 w os) (k10 w os)
-- TH
def lawD : DefRec := match defOf Q (Str.ofString "law") with | some (d, _) => d | none => ⟨Str.ofString "", ⟨[], [], none, [], [], none, []⟩, [], { kind := .function, names := [], isGenerator := false, isCoroutine := false }, ⟨0, 0, 0, 0⟩⟩
theorem wl : OpenLaw.wellSaid PySem.Challenge.rw_nn0027_01 = true := by
  delta OpenLaw.wellSaid
  repeat' (with_reducible refine look_both ?_ ?_)
  · delta OpenRow.wellSaid
    repeat' (with_reducible refine look_both ?_ ?_)
    · delta OpenRow.partSaid
      repeat' (with_reducible refine look_both ?_ ?_)
      · delta looksOpen
        repeat' (with_reducible refine look_both ?_ ?_)
        all_goals decide +kernel
      all_goals decide +kernel
    all_goals decide +kernel
  all_goals decide +kernel
theorem hd2 (h : WalkO Q [] (XL Q []) (Hook.says Hook.none) PySem.Challenge.rw_nn0027_01.row.toRowW lawD [] fun f vs => PySem.call f vs) : PySem.Challenge.rw_nn0027_01.Holds := by
  w_on
  refine holds_law wl fun said => ?_
  refine PySem.W.holds_open (q := Q) (loose := []) (Xt := fun s => xlAt Q [] s && recOk (RowW.records PySem.Challenge.rw_nn0027_01.row.toRowW) s) (XP := XL Q []) (Yf := Hook.obs Hook.none) (Ya := Hook.val Hook.none) (YP := Hook.says Hook.none) (d := lawD) (kwd := []) (N := 4458) lookX (Hook.of Hook.none) (Hook.keeps Hook.none) (fun s e => xl_of s (Bool.and_eq_true_iff.mp e).1) XL.keeps (by kernel_rfl) (by kernel_rfl) (by kernel_rfl) (fun s e => recFacts_of (Bool.and_eq_true_iff.mp e).2) (by rfl) (by first | assumption | decide +kernel) (by decide +kernel) ⟨rfl, rfl, rfl, rfl, rfl, by decide +kernel⟩ ?hw h
  case hw => w_witness2
-- PL1

inductive V where
  | none
  | bool (b : Bool)
  | int (i : Int)
  | list (l : List V)
  | tup (l : List V)
  | fn (a : Addr)
  | bi (id : String)
  | ty (n : String)

mutual
inductive Rep (ow : List Addr) (h : Heap) : Value → V → Prop
  | none : Rep ow h .none .none
  | bool (b : Bool) : Rep ow h (.bool b) (.bool b)
  | int (i : Int) (t : Tok) : Rep ow h (.int i t) (.int i)
  | list {a : Addr} {vs : List Value} {n : Nat} {ds : List V} : h.get? a = some { cls := .type "list", data := .seq vs.toArray n } → a ∉ ow → Reps ow h vs ds → Rep ow h (.ref a) (.list ds)
  | tup {a : Addr} {vs : List Value} {n : Nat} {ds : List V} : h.get? a = some { cls := .type "tuple", data := .seq vs.toArray n } → a ∉ ow → Reps ow h vs ds → Rep ow h (.ref a) (.tup ds)
  | fn (a : Addr) : Rep ow h (.ref a) (.fn a)
  | bi (id : String) : Rep ow h (.builtin id) (.bi id)
  | ty (n : String) : Rep ow h (.type n) (.ty n)
inductive Reps (ow : List Addr) (h : Heap) : List Value → List V → Prop
  | nil : Reps ow h [] []
  | cons {v : Value} {vs : List Value} {d : V} {ds : List V} : Rep ow h v d → Reps ow h vs ds → Reps ow h (v :: vs) (d :: ds)
end

/-- what a value's tree hangs on is kept -/
structure SeqKeep (ow : List Addr) (h h' : Heap) : Prop where
  seq : ∀ b c vs n, b ∉ ow → h.get? b = some { cls := .type c, data := .seq vs n } → h'.get? b = some { cls := .type c, data := .seq vs n }

abbrev Keeps (h h' : Heap) : Prop := ∀ b o, h.get? b = some o → h'.get? b = some o

theorem Keeps.refl (h : Heap) : Keeps h h := fun _ _ e => e
theorem Keeps.trans {h h' h'' : Heap} (a : Keeps h h') (b : Keeps h' h'') : Keeps h h'' := fun x o e => b x o (a x o e)
theorem Keeps.seq {ow : List Addr} {h h' : Heap} (k : Keeps h h') : SeqKeep ow h h' := ⟨fun _ _ _ _ _ e => k _ _ e⟩

mutual
theorem Rep.mono {ow ow' : List Addr} {h h' : Heap} (k : SeqKeep ow h h') (ho : ∀ b o, h.get? b = some o → b ∉ ow → b ∉ ow') : ∀ {v d}, Rep ow h v d → Rep ow' h' v d
  | _, _, .none => .none
  | _, _, .bool b => .bool b
  | _, _, .int i t => .int i t
  | _, _, .list e hn r => .list (k.seq _ _ _ _ hn e) (ho _ _ e hn) (r.mono k ho)
  | _, _, .tup e hn r => .tup (k.seq _ _ _ _ hn e) (ho _ _ e hn) (r.mono k ho)
  | _, _, .fn a => .fn a
  | _, _, .bi id => .bi id
  | _, _, .ty n => .ty n
theorem Reps.mono {ow ow' : List Addr} {h h' : Heap} (k : SeqKeep ow h h') (ho : ∀ b o, h.get? b = some o → b ∉ ow → b ∉ ow') : ∀ {v d}, Reps ow h v d → Reps ow' h' v d
  | _, _, .nil => .nil
  | _, _, .cons a r => .cons (a.mono k ho) (r.mono k ho)
end
theorem Rep.keeps {ow : List Addr} {h h' : Heap} {v : Value} {d : V} (r : Rep ow h v d) (k : Keeps h h') : Rep ow h' v d := r.mono k.seq fun _ _ _ x => x
theorem Reps.keeps {ow : List Addr} {h h' : Heap} {v : List Value} {d : List V} (r : Reps ow h v d) (k : Keeps h h') : Reps ow h' v d := r.mono k.seq fun _ _ _ x => x
theorem Rep.drop {ow : List Addr} {h : Heap} {v : Value} {d : V} (r : Rep ow h v d) : Rep [] h v d := r.mono (Keeps.refl h).seq fun _ _ _ _ => List.not_mem_nil
theorem Reps.length {ow : List Addr} {h : Heap} : ∀ {vs : List Value} {ds : List V}, Reps ow h vs ds → vs.length = ds.length
  | _, _, .nil => rfl
  | _, _, .cons _ r => by simp [r.length]
theorem Reps.append {ow : List Addr} {h : Heap} : ∀ {vs vs' : List Value} {ds ds' : List V}, Reps ow h vs ds → Reps ow h vs' ds' → Reps ow h (vs ++ vs') (ds ++ ds')
  | _, _, _, _, .nil, x => x
  | _, _, _, _, .cons a r, x => .cons a (r.append x)
theorem Reps.get {ow : List Addr} {h : Heap} : ∀ {vs : List Value} {ds : List V}, Reps ow h vs ds → ∀ {i : Nat} {d : V}, ds[i]? = some d → ∃ v, vs[i]? = some v ∧ Rep ow h v d
  | _, _, .nil, _, _, e => by simp at e
  | _, _, .cons a r, 0, _, e => ⟨_, rfl, by simpa using (Option.some.inj e) ▸ a⟩
  | _, _, .cons a r, i + 1, d, e => r.get (i := i) (by simpa using e)
theorem Reps.getV {ow : List Addr} {h : Heap} : ∀ {vs : List Value} {ds : List V}, Reps ow h vs ds → ∀ {i : Nat} {v : Value}, vs[i]? = some v → ∃ d, ds[i]? = some d ∧ Rep ow h v d
  | _, _, .nil, _, _, e => by simp at e
  | _, _, .cons a r, 0, _, e => ⟨_, rfl, by simpa using (Option.some.inj e) ▸ a⟩
  | _, _, .cons a r, i + 1, d, e => r.getV (i := i) (by simpa using e)
theorem Reps.take {ow : List Addr} {h : Heap} : ∀ {vs : List Value} {ds : List V} (n : Nat), Reps ow h vs ds → Reps ow h (vs.take n) (ds.take n)
  | _, _, 0, _ => .nil
  | _, _, _ + 1, .nil => .nil
  | _, _, n + 1, .cons a r => .cons a (r.take n)
theorem Reps.dropN {ow : List Addr} {h : Heap} : ∀ {vs : List Value} {ds : List V} (n : Nat), Reps ow h vs ds → Reps ow h (vs.drop n) (ds.drop n)
  | _, _, 0, r => r
  | _, _, _ + 1, .nil => .nil
  | _, _, n + 1, .cons _ r => r.dropN n
theorem Reps.reverse {ow : List Addr} {h : Heap} : ∀ {vs : List Value} {ds : List V}, Reps ow h vs ds → Reps ow h vs.reverse ds.reverse
  | _, _, .nil => .nil
  | _, _, .cons a r => by rw [List.reverse_cons, List.reverse_cons]; exact r.reverse.append (.cons a .nil)

/-- the fixed things: program, world, and what is known of every heap -/
structure Cx where
  prog : Program
  w : World
  K : Frag
  mg : Str → Option Value
  mb : Str → Option Value
  G : Heap → Prop
structure Cx.Ok (C : Cx) : Prop where
  mono : ∀ {h h'}, Keeps h h' → C.G h → C.G h'
  inK : ∀ {h}, C.G h → C.K.In h
  g : ∀ {h}, C.G h → h.Ns mainGlobals C.mg
  b : ∀ {h}, C.G h → h.Ns builtinsNs C.mb
  nl : ∀ {h}, C.G h → h.NoLimit
  bu : ∀ x : Str, x ≠ "__name__" → C.mb x = bootBuiltins x

abbrev Cx.M (C : Cx) : Model := model C.prog C.w

structure Room (A : Around) (n : Nat) : Prop where
  hh : A.handled = none
  dp : A.depth + n < 900
  un : A.units + 40 * n < 9000
theorem Room.le {A : Around} {n k : Nat} (r : Room A n) (h : k ≤ n) : Room A k := ⟨r.hh, by have := r.dp; lia, by have := r.un; lia⟩
theorem Room.deeper {A : Around} {n : Nat} {env : Env} (r : Room A (n + 1)) : Room (A.deeper env) n := ⟨r.hh, by have := r.dp; simp only [Around.deeper]; lia, by have := r.un; simp only [Around.deeper]; lia⟩
theorem Room.room {A : Around} {n : Nat} (r : Room A n) : A.depth < recursionLimit := by have := r.dp; simp only [recursionLimit]; lia
theorem Room.units {A : Around} {n : Nat} (r : Room A n) : A.units < cLine := by have := r.un; have := cLine_is; lia
theorem Room.in1 {A : Around} {n : Nat} (r : Room A (n + 1)) : Room A.in1 n := ⟨r.hh, by have := r.dp; simp only [Around.in1_depth]; lia, by have := r.un; simp only [Around.in1_units]; lia⟩

abbrev Names := List (Str × NameKind)
abbrev Sto := List (Str × V)

structure EnvFor (sc : Names) (env : Env) : Prop where
  kind : env.scope.kind = .function
  names : env.scope.names = sc
  glob : env.globals = mainGlobals
  blt : env.builtins = builtinsNs
  cells : ∀ x, sc.lookup x = some .cell → (env.cells.lookup x).isSome = true

theorem EnvFor.kindOf {sc : Names} {env : Env} (e : EnvFor sc env) (x : Str) : env.kindOf x = sc.lookup x := by unfold Env.kindOf; rw [e.names]

def VarIs (sc : Names) (env : Env) (h : Heap) (x : Str) (v : Value) : Prop :=
  (sc.lookup x = some .local ∧ ∃ m, h.Ns env.locals m ∧ m x = some v) ∨
  ((sc.lookup x = some .cell ∨ sc.lookup x = some .free) ∧ ∃ c, env.cells.lookup x = some c ∧ h.IsCell c (some v))
theorem VarIs.keeps {sc : Names} {env : Env} {h h' : Heap} {x : Str} {v : Value} (r : VarIs sc env h x v) (k : Keeps h h') : VarIs sc env h' x v := by
  rcases r with ⟨a, m, b, c⟩ | ⟨a, c, b, d⟩
  · exact .inl ⟨a, m, b.keeps k, c⟩
  · exact .inr ⟨a, c, b, d.keeps k⟩

def SRep (sc : Names) (σ : Sto) (ow : List Addr) (env : Env) (h : Heap) : Prop := ∀ x d, σ.lookup x = some d → ∃ v, VarIs sc env h x v ∧ Rep ow h v d
theorem SRep.keeps {sc : Names} {σ : Sto} {ow : List Addr} {env : Env} {h h' : Heap} (r : SRep sc σ ow env h) (k : Keeps h h') : SRep sc σ ow env h' := fun x d e =>
  let ⟨v, a, b⟩ := r x d e; ⟨v, a.keeps k, b.keeps k⟩

def OwOk (ow : List Addr) (h : Heap) : Prop := ∀ a ∈ ow, ∃ o, h.get? a = some o
theorem OwOk.keeps {ow : List Addr} {h h' : Heap} (r : OwOk ow h) (k : Keeps h h') : OwOk ow h' := fun a ha => let ⟨o, e⟩ := r a ha; ⟨o, k _ _ e⟩
theorem OwOk.fresh {ow : List Addr} {h : Heap} (r : OwOk ow h) {a : Addr} (e : h.get? a = none) : a ∉ ow := fun ha => by obtain ⟨o, e'⟩ := r a ha; rw [e] at e'; cases e'
theorem OwOk.size {ow : List Addr} {h : Heap} (r : OwOk ow h) : h.objs.size ∉ ow := fun ha => by obtain ⟨o, e'⟩ := r _ ha; exact absurd (Heap.lt_size e') (Nat.lt_irrefl _)

/-- the expression's value -/
def EvB (C : Cx) (n : Nat) (sc : Names) (σ : Sto) (e : Expr) (d : V) : Prop :=
  ∀ (A : Around) (env : Env) (s : Shared) (ow : List Addr), Room A n → EnvFor sc env → C.G s.heap → OwOk ow s.heap → SRep sc σ ow env s.heap →
    ∀ Q : Value → Shared → Prop, (∀ v h' tk, Keeps s.heap h' → Rep ow h' v d → Q v { s with heap := h', toks := tk }) → wpAny C.M A (eval e env) Q (fun _ _ => False) s
@[irreducible] def Ev (C : Cx) (n : Nat) (sc : Names) (σ : Sto) (e : Expr) (d : V) : Prop := EvB C n sc σ e d
theorem Ev.run {C : Cx} {n : Nat} {sc : Names} {σ : Sto} {e : Expr} {d : V} (h : Ev C n sc σ e d) : EvB C n sc σ e d := by unfold Ev at h; exact h
/-- the truth of a test -/
def EtB (C : Cx) (n : Nat) (sc : Names) (σ : Sto) (e : Expr) (b : Bool) : Prop :=
  ∀ (A : Around) (env : Env) (s : Shared) (ow : List Addr), Room A n → EnvFor sc env → C.G s.heap → OwOk ow s.heap → SRep sc σ ow env s.heap →
    ∀ Q : Bool → Shared → Prop, (∀ h' tk, Keeps s.heap h' → Q b { s with heap := h', toks := tk }) → wpAny C.M A (isTrue e env (eval e env)) Q (fun _ _ => False) s
@[irreducible] def Et (C : Cx) (n : Nat) (sc : Names) (σ : Sto) (e : Expr) (b : Bool) : Prop := EtB C n sc σ e b
theorem Et.run {C : Cx} {n : Nat} {sc : Names} {σ : Sto} {e : Expr} {b : Bool} (h : Et C n sc σ e b) : EtB C n sc σ e b := by unfold Et at h; exact h
/-- a row of expressions -/
def EvsB (C : Cx) (n : Nat) (sc : Names) (σ : Sto) (es : List Expr) (ds : List V) : Prop :=
  ∀ (A : Around) (env : Env) (s : Shared) (ow : List Addr) (pos : Pos), Room A n → EnvFor sc env → C.G s.heap → OwOk ow s.heap → SRep sc σ ow env s.heap →
    ∀ Q : List Value → Shared → Prop, (∀ vs h' tk, Keeps s.heap h' → Reps ow h' vs ds → Q vs { s with heap := h', toks := tk }) → wpAny C.M A (spliced (backTo pos (starEach es env))) Q (fun _ _ => False) s
@[irreducible] def Evs (C : Cx) (n : Nat) (sc : Names) (σ : Sto) (es : List Expr) (ds : List V) : Prop := EvsB C n sc σ es ds
theorem Evs.run {C : Cx} {n : Nat} {sc : Names} {σ : Sto} {es : List Expr} {ds : List V} (h : Evs C n sc σ es ds) : EvsB C n sc σ es ds := by unfold Evs at h; exact h
/-- what may be called: a def that stands in every heap, or the machine's -/
def FnObj (C : Cx) : V → Prop
  | .fn a => ∀ h, C.G h → ∃ o fd, h.get? a = some o ∧ o.data = .func fd
  | .bi _ => True
  | .ty _ => True
  | _ => False
/-- a callable -/
def Fn (C : Cx) (n : Nat) (f : V) (ds : List V) (r : V) : Prop := FnObj C f ∧
  ∀ (A : Around) (s : Shared) (ow : List Addr) (fv : Value) (vs : List Value), Room A n → C.G s.heap → OwOk ow s.heap → Rep ow s.heap fv f → Reps ow s.heap vs ds →
    ∀ Q : Value → Shared → Prop, (∀ v h' tk, Keeps s.heap h' → Rep ow h' v r → Q v { s with heap := h', toks := tk }) → wpAny C.M A (call fv vs) Q (fun _ _ => False) s
/-- a binary operator on values -/
def BopB (C : Cx) (n : Nat) (op : Operator) (a b r : V) : Prop :=
  ∀ (A : Around) (s : Shared) (ow : List Addr) (va vb : Value), Room A n → C.G s.heap → OwOk ow s.heap → Rep ow s.heap va a → Rep ow s.heap vb b →
    ∀ Q : Value → Shared → Prop, (∀ v h' tk, Keeps s.heap h' → Rep ow h' v r → Q v { s with heap := h', toks := tk }) → wpAny C.M A (binaryOp op va vb) Q (fun _ _ => False) s
@[irreducible] def Bop (C : Cx) (n : Nat) (op : Operator) (a b r : V) : Prop := BopB C n op a b r
theorem Bop.run {C : Cx} {n : Nat} {op : Operator} {a b r : V} (h : Bop C n op a b r) : BopB C n op a b r := by unfold Bop at h; exact h
def IopB (C : Cx) (n : Nat) (op : Operator) (a b r : V) : Prop :=
  ∀ (A : Around) (s : Shared) (ow : List Addr) (va vb : Value), Room A n → C.G s.heap → OwOk ow s.heap → Rep ow s.heap va a → Rep ow s.heap vb b →
    ∀ Q : Value → Shared → Prop, (∀ v h' tk, Keeps s.heap h' → Rep ow h' v r → Q v { s with heap := h', toks := tk }) → wpAny C.M A (inplaceOp op va vb) Q (fun _ _ => False) s
@[irreducible] def Iop (C : Cx) (n : Nat) (op : Operator) (a b r : V) : Prop := IopB C n op a b r
theorem Iop.run {C : Cx} {n : Nat} {op : Operator} {a b r : V} (h : Iop C n op a b r) : IopB C n op a b r := by unfold Iop at h; exact h
def CopB (C : Cx) (n : Nat) (op : CmpOp) (a b : V) (r : Bool) : Prop :=
  ∀ (A : Around) (s : Shared) (ow : List Addr) (va vb : Value), Room A n → C.G s.heap → OwOk ow s.heap → Rep ow s.heap va a → Rep ow s.heap vb b →
    ∀ Q : Value → Shared → Prop, (∀ h' tk, Keeps s.heap h' → Q (.bool r) { s with heap := h', toks := tk }) → wpAny C.M A (compareOp op va vb) Q (fun _ _ => False) s
@[irreducible] def Cop (C : Cx) (n : Nat) (op : CmpOp) (a b : V) (r : Bool) : Prop := CopB C n op a b r
theorem Cop.run {C : Cx} {n : Nat} {op : CmpOp} {a b : V} {r : Bool} (h : Cop C n op a b r) : CopB C n op a b r := by unfold Cop at h; exact h
def TruB (C : Cx) (n : Nat) (a : V) (r : Bool) : Prop :=
  ∀ (A : Around) (s : Shared) (ow : List Addr) (va : Value), Room A n → C.G s.heap → Rep ow s.heap va a →
    ∀ Q : Bool → Shared → Prop, (∀ h' tk, Keeps s.heap h' → Q r { s with heap := h', toks := tk }) → wpAny C.M A (truthy va) Q (fun _ _ => False) s
@[irreducible] def Tru (C : Cx) (n : Nat) (a : V) (r : Bool) : Prop := TruB C n a r
theorem Tru.run {C : Cx} {n : Nat} {a : V} {r : Bool} (h : Tru C n a r) : TruB C n a r := by unfold Tru at h; exact h

section
variable {C : Cx} {n : Nat} {sc : Names} {σ : Sto}

theorem Ev.cast {e : Expr} {d d' : V} (h : Ev C n sc σ e d) (hd : d = d') : Ev C n sc σ e d' := hd ▸ h
theorem Ev.le {k : Nat} {e : Expr} {d : V} (h : Ev C k sc σ e d) (hk : k ≤ n) : Ev C n sc σ e d := by with_unfolding_all exact fun A env s ow r => h.run A env s ow (r.le hk)
theorem Fn.le {k : Nat} {f : V} {ds : List V} {d : V} (h : Fn C k f ds d) (hk : k ≤ n) : Fn C n f ds d := ⟨h.1, fun A s ow fv vs r => h.2 A s ow fv vs (r.le hk)⟩
theorem Fn.cast {f : V} {ds : List V} {d d' : V} (h : Fn C n f ds d) (hd : d = d') : Fn C n f ds d' := hd ▸ h

theorem Ev.name {x : Str} {pos : Pos} {d : V} (hl : σ.lookup x = some d) (hd : (x == ("__debug__" : Str)) = false := by decide +kernel) (hc : (x == ("__classdict__" : Str)) = false := by decide +kernel) : Ev C n sc σ (.Name x pos) d := by
  with_unfolding_all intro A env s ow r he g o hs Q hQ
  obtain ⟨v, hv, hr⟩ := hs _ _ hl
  refine wpAny_Name ?_ hd
  have fin := hQ v s.heap s.toks (Keeps.refl _) hr
  rcases hv with ⟨a, m, b, c⟩ | ⟨a | a, c, b, d⟩
  · exact wpAny_loadName_local he.kind (by rw [he.kindOf]; exact a) b c fin
  · exact wpAny_loadName_cell he.kind (by rw [he.kindOf]; exact a) b d fin
  · exact wpAny_loadName_free he.kind (by rw [he.kindOf]; exact a) b d fin hc

theorem Ev.glob {x : Str} {pos : Pos} {a : Addr} (ok : C.Ok) (hx : sc.lookup x = some .globalImplicit) (e : nsIn C.K mainGlobals x = some (some (.ref a)))
    (hd : (x == ("__debug__" : Str)) = false := by decide +kernel) : Ev C n sc σ (.Name x pos) (.fn a) := by
  with_unfolding_all intro A env s ow r he g _ hs Q hQ
  refine Name_function_global he.kind (by rw [he.kindOf]; exact hx) (loadGlobal_global (by rw [he.glob]; exact ok.g g) (mg_of (ok.inK g) (ok.g g) e) ?_) hd
  exact hQ _ s.heap s.toks (Keeps.refl _) (.fn a)

theorem Ev.builtin {x : Str} {pos : Pos} {id : String} (ok : C.Ok) (hx : sc.lookup x = some .globalImplicit) (e : nsIn C.K mainGlobals x = some none) (hv : bootBuiltins x = some (.builtin id)) (hn : x ≠ "__name__")
    (hd : (x == ("__debug__" : Str)) = false := by decide +kernel) : Ev C n sc σ (.Name x pos) (.bi id) := by
  with_unfolding_all intro A env s ow r he g _ hs Q hQ
  refine Name_function_global he.kind (by rw [he.kindOf]; exact hx) (loadGlobal_builtin (by rw [he.glob]; exact ok.g g) (mg_none_of (ok.inK g) (ok.g g) e) (by rw [he.blt]; exact ok.b g) ((ok.bu x hn).trans hv) ?_) hd
  exact hQ _ s.heap s.toks (Keeps.refl _) (.bi id)
theorem Ev.type {x : Str} {pos : Pos} {id : String} (ok : C.Ok) (hx : sc.lookup x = some .globalImplicit) (e : nsIn C.K mainGlobals x = some none) (hv : bootBuiltins x = some (.type id)) (hn : x ≠ "__name__")
    (hd : (x == ("__debug__" : Str)) = false := by decide +kernel) : Ev C n sc σ (.Name x pos) (.ty id) := by
  with_unfolding_all intro A env s ow r he g _ hs Q hQ
  refine Name_function_global he.kind (by rw [he.kindOf]; exact hx) (loadGlobal_builtin (by rw [he.glob]; exact ok.g g) (mg_none_of (ok.inK g) (ok.g g) e) (by rw [he.blt]; exact ok.b g) ((ok.bu x hn).trans hv) ?_) hd
  exact hQ _ s.heap s.toks (Keeps.refl _) (.ty id)

theorem Ev.cint {i : Int} {k : Nat} {pos : Pos} : Ev C n sc σ (.Constant (.int i) k pos) (.int i) := by
  with_unfolding_all intro A env s ow r he g _ hs Q hQ
  exact wpAny_Constant_int (hQ _ s.heap _ (Keeps.refl _) (.int _ _))
theorem Ev.cbool {i : Bool} {k : Nat} {pos : Pos} : Ev C n sc σ (.Constant (.bool i) k pos) (.bool i) := by
  with_unfolding_all intro A env s ow r he g _ hs Q hQ
  exact Constant_bool (hQ _ s.heap _ (Keeps.refl _) (.bool _))
theorem Ev.cnone {k : Nat} {pos : Pos} : Ev C n sc σ (.Constant .none k pos) .none := by
  with_unfolding_all intro A env s ow r he g _ hs Q hQ
  exact Constant_none (hQ _ s.heap _ (Keeps.refl _) .none)

theorem Ev.bin {l r : Expr} {op : Operator} {pos : Pos} {a b d : V} (ok : C.Ok) (hl : Ev C n sc σ l a) (hr : Ev C n sc σ r b) (hb : Bop C n op a b d) : Ev C n sc σ (.BinOp l op r pos) d := by
  with_unfolding_all intro A env s ow rm he g o hs Q hQ
  refine wpAny_BinOp (hl.run A env s ow rm he g o hs _ fun v h' tk k rv => ?_)
  refine hr.run A env _ ow rm he (ok.mono k g) (o.keeps k) (hs.keeps k) _ fun v2 h2 tk2 k2 rv2 => ?_
  refine hb.run A _ ow _ _ rm (ok.mono k2 (ok.mono k g)) ((o.keeps k).keeps k2) (rv.keeps k2) rv2 _ fun v3 h3 tk3 k3 rv3 => ?_
  exact hQ v3 h3 tk3 (k.trans (Keeps.trans k2 k3)) rv3

theorem Ev.cmp {l r : Expr} {op : CmpOp} {pos : Pos} {a b : V} {d : Bool} (ok : C.Ok) (hl : Ev C n sc σ l a) (hr : Ev C n sc σ r b) (hb : Cop C n op a b d) (hm : behindInMarks op r = false := by with_unfolding_all rfl) :
    Ev C n sc σ (.Compare l [op] [r] pos) (.bool d) := by
  with_unfolding_all intro A env s ow rm he g o hs Q hQ
  refine wpAny_Compare1 (hl.run A env s ow rm he g o hs _ fun v h' tk k rv => ?_) hm
  refine hr.run A env _ ow rm he (ok.mono k g) (o.keeps k) (hs.keeps k) _ fun v2 h2 tk2 k2 rv2 => ?_
  refine hb.run A _ ow _ _ rm (ok.mono k2 (ok.mono k g)) ((o.keeps k).keeps k2) (rv.keeps k2) rv2 _ fun h3 tk3 k3 => ?_
  exact hQ _ h3 tk3 (k.trans (Keeps.trans k2 k3)) (.bool _)

theorem Et.cmp {l r : Expr} {op : CmpOp} {pos : Pos} {a b : V} {d : Bool} (ok : C.Ok) (hl : Ev C n sc σ l a) (hr : Ev C n sc σ r b) (hb : Cop C n op a b d) (hm : behindInMarks op r = false := by with_unfolding_all rfl) :
    Et C n sc σ (.Compare l [op] [r] pos) d := by
  with_unfolding_all intro A env s ow rm he g o hs Q hQ
  refine wpAny_isTrue_Compare1 (hl.run A env s ow rm he g o hs _ fun v h' tk k rv => ?_) hm
  refine hr.run A env _ ow rm he (ok.mono k g) (o.keeps k) (hs.keeps k) _ fun v2 h2 tk2 k2 rv2 => ?_
  refine hb.run A _ ow _ _ rm (ok.mono k2 (ok.mono k g)) ((o.keeps k).keeps k2) (rv.keeps k2) rv2 _ fun h3 tk3 k3 => ?_
  exact wpAny_truthy_bool (hQ h3 tk3 (k.trans (Keeps.trans k2 k3)))

theorem Et.cmp2 {l r₁ r₂ : Expr} {op₁ op₂ : CmpOp} {pos : Pos} {a b c : V} {d₁ d₂ : Bool} (ok : C.Ok) (hl : Ev C n sc σ l a) (hr : Ev C n sc σ r₁ b) (hb : Cop C n op₁ a b d₁) (hr2 : Ev C n sc σ r₂ c) (hb2 : Cop C n op₂ b c d₂)
    (hm : lastMarks [op₁, op₂] [r₁, r₂] = false := by with_unfolding_all rfl) : Et C n sc σ (.Compare l [op₁, op₂] [r₁, r₂] pos) (d₁ && d₂) := by
  with_unfolding_all intro A env s ow rm he g o hs Q hQ
  refine isTrue_chain (hl.run A env s ow rm he g o hs _ fun v h' tk k rv => ?_) hm
  unfold testChain
  have g1 := ok.mono k g
  refine wpAny_bind (wpAny_holding (hr.run A env _ ow rm he g1 (o.keeps k) (hs.keeps k) _ fun v2 h2 tk2 k2 rv2 => ?_))
  have g2 := ok.mono k2 g1
  have hs2 := (hs.keeps k).keeps k2
  have o2 := (o.keeps k).keeps k2
  refine wpAny_bind (wpAny_standAt (wpAny_bind (wpAny_holding (hb.run A _ ow _ _ rm g2 o2 (rv.keeps k2) rv2 _ fun h3 tk3 k3 => ?_))))
  refine wpAny_bind (wpAny_release (wpAny_bind (wpAny_holding (wpAny_truthy_bool ?_))))
  cases d₁ with
  | false => exact wpAny_pure (hQ _ _ (k.trans (Keeps.trans k2 k3)))
  | true =>
    rw [if_pos rfl]
    unfold testChain
    refine wpAny_bind (wpAny_holding (hr2.run A env _ ow rm he (ok.mono k3 g2) (o2.keeps k3) (hs2.keeps k3) _ fun v4 h4 tk4 k4 rv4 => ?_))
    refine wpAny_bind (wpAny_standAt (wpAny_bind ?_))
    refine wpAny_operateT (hb2.run A _ ow _ _ rm (ok.mono k4 (ok.mono k3 g2)) ((o2.keeps k3).keeps k4) ((rv2.keeps k3).keeps k4) rv4 _ fun h5 tk5 k5 => ?_)
    exact wpAny_holding (wpAny_truthy_bool (hQ h5 tk5 (k.trans (Keeps.trans k2 (Keeps.trans k3 (Keeps.trans k4 k5))))))

end
-- PL2

section
variable {C : Cx} {n : Nat} {sc : Names} {σ : Sto}

def notStar : Expr → Bool
  | .Starred .. => false
  | _ => true
theorem starEach_cons {e : Expr} {rest : List Expr} {env : Env} (h : notStar e = true) : starEach (e :: rest) env = (false, eval e env) :: starEach rest env := by
  cases e <;> first | rfl | cases h

theorem Evs.nil : Evs C n sc σ [] [] := by
  with_unfolding_all intro A env s ow pos rm he g o hs Q hQ
  exact spliced_none (hQ [] s.heap s.toks (Keeps.refl _) .nil)
theorem Evs.cons {e : Expr} {es : List Expr} {d : V} {ds : List V} (ok : C.Ok) (h : Ev C n sc σ e d) (hr : Evs C n sc σ es ds) (hn : notStar e = true := by with_unfolding_all rfl) : Evs C n sc σ (e :: es) (d :: ds) := by
  with_unfolding_all intro A env s ow pos rm he g o hs Q hQ
  refine spliced_more (h.run A env s ow rm he g o hs _ fun v h' tk k rv => ?_) (starEach_cons hn)
  refine hr.run A env _ ow pos rm he (ok.mono k g) (o.keeps k) (hs.keeps k) _ fun vs h2 tk2 k2 rvs => ?_
  exact hQ _ h2 tk2 (k.trans k2) (.cons (rv.keeps k2) rvs)

theorem keeps_push (h : Heap) (o : Obj) : Keeps h (h.push o) := fun _ _ e => Heap.get?_push_of_some _ e

theorem Ev.tup {es : List Expr} {k : Nat} {pos : Pos} {ds : List V} (h : Evs C n sc σ es ds) (hl : ds.length ≤ 1000 := by exact Nat.le_of_ble_eq_true rfl) : Ev C n sc σ (.Tuple es k pos) (.tup ds) := by
  with_unfolding_all intro A env s ow rm he g o hs Q hQ
  refine Tuple_ (h.run A env s ow pos rm he g o hs _ fun vs h' tk k rv => ?_)
  refine wpAny_newTuple (hQ _ _ _ (k.trans (keeps_push _ _)) ?_) (by rw [rv.length, sizeLine_eq]; omega)
  exact .tup (Heap.get?_push_size _ rfl) ((o.keeps k).size) (rv.keeps (keeps_push _ _))
theorem Ev.list {es : List Expr} {pos : Pos} {ds : List V} (h : Evs C n sc σ es ds) (hl : ds.length ≤ 1000 := by exact Nat.le_of_ble_eq_true rfl) : Ev C n sc σ (.List es pos) (.list ds) := by
  with_unfolding_all intro A env s ow rm he g o hs Q hQ
  refine List_ (h.run A env s ow pos rm he g o hs _ fun vs h' tk k rv => ?_)
  refine wpAny_newList (hQ _ _ _ (k.trans (keeps_push _ _)) ?_) (by rw [rv.length, sizeLine_eq]; omega)
  exact .list (Heap.get?_push_size _ rfl) ((o.keeps k).size) (rv.keeps (keeps_push _ _))

theorem keeper_of {C : Cx} {h : Heap} {ow : List Addr} {fv : Value} {f : V} (r : Rep ow h fv f) (g : C.G h) (hf : FnObj C f) (M : Model) :
    ∃ k, (k = Keeper.frame ∨ k = Keeper.machine ∨ k = Keeper.boundFrame) ∧ Looks M h (keeperOf fv) k := by
  cases r with
  | fn a =>
    obtain ⟨o, fd, e, hd⟩ := hf h g
    refine ⟨.frame, .inl rfl, (Looks.ld (part := none) e).andThen ?_⟩
    rw [hd]
    exact .now
  | bi i => exact ⟨.machine, .inr (.inl rfl), .now⟩
  | ty i => exact ⟨.machine, .inr (.inl rfl), .now⟩
  | none => exact hf.elim
  | bool => exact hf.elim
  | int => exact hf.elim
  | list => exact hf.elim
  | tup => exact hf.elim

theorem any_backTo {es : List Expr} {env : Env} {pos : Pos} (h : es.all notStar = true) : (backTo pos (starEach es env)).any (·.1) = false := by
  induction es with
  | nil => rfl
  | cons e es ih =>
    simp only [List.all_cons, Bool.and_eq_true] at h
    rw [starEach_cons h.1]
    simp only [backTo, List.map_cons, List.any_cons] at *
    rw [ih h.2]; rfl

theorem Ev.call {f a0 : Expr} {rest : List Expr} {pos : Pos} {fv d : V} {ds : List V} {k : Nat} (ok : C.Ok) (hf : Ev C n sc σ f fv) (ha : Evs C n sc σ (a0 :: rest) ds) (hc : Fn C k fv ds d) (hk : k ≤ n)
    (hst : (a0 :: rest).all notStar = true := by with_unfolding_all rfl)
    (he : ∀ env, eval (.Call f (a0 :: rest) [] pos) env = (do callWith pos (← eval f env) [] (backTo pos (starEach (a0 :: rest) env)) (backToKw pos (keywordEach [] env))) := by intro _; with_unfolding_all rfl) :
    Ev C n sc σ (.Call f (a0 :: rest) [] pos) d := by
  with_unfolding_all intro A env s ow rm hen g o hs Q hQ
  refine Call_ (hf.run A env s ow rm hen g o hs _ fun v h' tk k1 rv => ?_) (he env)
  have g1 := ok.mono k1 g
  have o1 := o.keeps k1
  have hs1 := hs.keeps k1
  have fin : ∀ vs h2 tk2, Keeps h' h2 → Reps ow h2 vs ds → wpAny C.M A (PySem.call v ([] ++ vs)) Q (fun _ _ => False) { s with heap := h2, toks := tk2 } := fun vs h2 tk2 k2 rvs => by
    refine hc.2 A _ ow v vs (rm.le hk) (ok.mono k2 g1) (o1.keeps k2) (rv.keeps k2) rvs _ fun v3 h3 tk3 k3 rv3 => ?_
    exact hQ v3 h3 tk3 (k1.trans (Keeps.trans k2 k3)) rv3
  simp only [List.all_cons, Bool.and_eq_true] at hst
  refine callWith_of (P := fun h => Keeps h' h) ?_ (fun h hk2 => keeper_of (rv.keeps hk2) (ok.mono hk2 g1) hc.1 _) ?_
  · rw [any_backTo (by simp [hst.1, hst.2])]; rfl
  have h1 : backTo pos (starEach (a0 :: rest) env) = (false, eval a0 env) :: backTo pos (starEach rest env) := by rw [starEach_cons hst.1]; rfl
  have key := ha.run A env { s with heap := h', toks := tk } ow pos rm hen g1 o1 hs1 (fun vs s₁ => Keeps h' s₁.heap ∧ wpAny C.M A (PySem.call v ([] ++ vs)) Q (fun _ _ => False) s₁) (fun vs h2 tk2 k2 rvs => ⟨k2, fin vs h2 tk2 k2 rvs⟩)
  rw [h1] at key ⊢
  exact evalArgs_plain key

-- tests
theorem Et.not {x : Expr} {pos : Pos} {b : Bool} (h : Et C n sc σ x b) : Et C n sc σ (.UnaryOp .Not x pos) (!b) := by
  with_unfolding_all intro A env s ow rm he g o hs Q hQ
  exact isTrue_not (h.run A env s ow rm he g o hs _ fun h' tk k => hQ h' tk k)
theorem Et.and1 {x : Expr} {pos : Pos} {b : Bool} (h : Et C n sc σ x b) : Et C n sc σ (.BoolOp .And [x] pos) b := by
  with_unfolding_all intro A env s ow rm he g o hs Q hQ
  refine isTrue_and (h.run A env s ow rm he g o hs _ fun h' tk k => ?_)
  cases b with
  | true => exact isTrue_and_nil (hQ h' tk k)
  | false => exact hQ h' tk k
theorem Et.and {x y : Expr} {rest : List Expr} {pos : Pos} {b c : Bool} (ok : C.Ok) (h : Et C n sc σ x b) (h2 : b = true → Et C n sc σ (.BoolOp .And (y :: rest) pos) c) : Et C n sc σ (.BoolOp .And (x :: y :: rest) pos) (b && c) := by
  with_unfolding_all intro A env s ow rm he g o hs Q hQ
  refine isTrue_and (h.run A env s ow rm he g o hs _ fun h' tk k => ?_)
  cases b with
  | true => exact (h2 rfl).run A env _ ow rm he (ok.mono k g) (o.keeps k) (hs.keeps k) _ fun h3 tk3 k3 => hQ h3 tk3 (k.trans k3)
  | false => exact hQ h' tk k
theorem Et.or1 {x : Expr} {pos : Pos} {b : Bool} (h : Et C n sc σ x b) : Et C n sc σ (.BoolOp .Or [x] pos) b := by
  with_unfolding_all intro A env s ow rm he g o hs Q hQ
  refine isTrue_or (h.run A env s ow rm he g o hs _ fun h' tk k => ?_)
  cases b with
  | false => exact isTrue_or_nil (hQ h' tk k)
  | true => exact hQ h' tk k
theorem Et.or {x y : Expr} {rest : List Expr} {pos : Pos} {b c : Bool} (ok : C.Ok) (h : Et C n sc σ x b) (h2 : b = false → Et C n sc σ (.BoolOp .Or (y :: rest) pos) c) : Et C n sc σ (.BoolOp .Or (x :: y :: rest) pos) (b || c) := by
  with_unfolding_all intro A env s ow rm he g o hs Q hQ
  refine isTrue_or (h.run A env s ow rm he g o hs _ fun h' tk k => ?_)
  cases b with
  | false => exact (h2 rfl).run A env _ ow rm he (ok.mono k g) (o.keeps k) (hs.keeps k) _ fun h3 tk3 k3 => hQ h3 tk3 (k.trans k3)
  | true => exact hQ h' tk k
theorem Et.plain {x : Expr} {d : V} {b : Bool} (ok : C.Ok) (h : Ev C n sc σ x d) (ht : Tru C n d b) (he : ∀ env whole, isTrue x env whole = (do let v ← whole; standAt x.pos; holding [v] (truthy v)) := by intro _ _; with_unfolding_all rfl) : Et C n sc σ x b := by
  with_unfolding_all intro A env s ow rm hen g o hs Q hQ
  refine isTrue_plain (h.run A env s ow rm hen g o hs _ fun v h' tk k rv => ?_) (he _ _)
  exact ht.run A _ ow _ rm (ok.mono k g) rv _ fun h2 tk2 k2 => hQ h2 tk2 (k.trans k2)
theorem Et.cast {x : Expr} {b c : Bool} (h : Et C n sc σ x b) (e : b = c) : Et C n sc σ x c := e ▸ h

theorem Ev.ite {t x y : Expr} {pos : Pos} {b : Bool} {d : V} (ok : C.Ok) (ht : Et C n sc σ t b) (hx : b = true → Ev C n sc σ x d) (hy : b = false → Ev C n sc σ y d) : Ev C n sc σ (.IfExp t x y pos) d := by
  with_unfolding_all intro A env s ow rm he g o hs Q hQ
  refine IfExp_ (ht.run A env s ow rm he g o hs _ fun h' tk k => ?_)
  cases b with
  | true => exact (hx rfl).run A env _ ow rm he (ok.mono k g) (o.keeps k) (hs.keeps k) _ fun v h3 tk3 k3 rv => hQ v h3 tk3 (k.trans k3) rv
  | false => exact (hy rfl).run A env _ ow rm he (ok.mono k g) (o.keeps k) (hs.keeps k) _ fun v h3 tk3 k3 rv => hQ v h3 tk3 (k.trans k3) rv
theorem Ev.and {x y : Expr} {pos : Pos} {d d2 r : V} {b : Bool} (ok : C.Ok) (h : Ev C n sc σ x d) (ht : Tru C n d b) (h0 : b = false → r = d) (h2 : b = true → Ev C n sc σ y d2 ∧ r = d2) : Ev C n sc σ (.BoolOp .And [x, y] pos) r := by
  with_unfolding_all intro A env s ow rm he g o hs Q hQ
  refine BoolOp_and (h.run A env s ow rm he g o hs _ fun v h' tk k rv => ?_)
  refine ht.run A _ ow _ rm (ok.mono k g) rv _ fun h3 tk3 k3 => ?_
  cases b with
  | true =>
    obtain ⟨h2, rfl⟩ := h2 rfl
    exact BoolOp_one (h2.run A env _ ow rm he (ok.mono k3 (ok.mono k g)) ((o.keeps k).keeps k3) ((hs.keeps k).keeps k3) _ fun v2 h4 tk4 k4 rv4 => hQ v2 h4 tk4 (k.trans (Keeps.trans k3 k4)) rv4)
  | false =>
    rw [h0 rfl] at hQ
    exact hQ v h3 tk3 (k.trans k3) (rv.keeps k3)

theorem Ev.neg {x : Expr} {pos : Pos} {a : Int} (h : Ev C n sc σ x (.int a)) : Ev C n sc σ (.UnaryOp .USub x pos) (.int (-a)) := by
  with_unfolding_all intro A env s ow rm he g o hs Q hQ
  refine UnaryOp_ (h.run A env s ow rm he g o hs _ fun v h' tk k rv => ?_)
  cases rv with
  | int i t => exact P.neg_int (hQ _ _ _ k (.int _ _))

-- operators on ints
theorem Bop.int {op : Operator} {a b r : Int} (h : ∀ (A : Around) (s : Shared) (t u : Tok) (Q : Value → Shared → Prop), Room A n → C.G s.heap → Q (.int r s.toks) { s with toks := s.toks + 1 } → wpAny C.M A (binaryOp op (.int a t) (.int b u)) Q (fun _ _ => False) s) : Bop C n op (.int a) (.int b) (.int r) := by
  with_unfolding_all intro A s ow va vb rm g o ra rb Q hQ
  cases ra with
  | int _ t => cases rb with
    | int _ u => exact h A s t u Q rm g (hQ _ s.heap _ (Keeps.refl _) (.int _ _))
theorem Iop.int {op : Operator} {a b r : Int} (h : ∀ (A : Around) (s : Shared) (t u : Tok) (Q : Value → Shared → Prop), Room A n → C.G s.heap → Q (.int r s.toks) { s with toks := s.toks + 1 } → wpAny C.M A (inplaceOp op (.int a t) (.int b u)) Q (fun _ _ => False) s) : Iop C n op (.int a) (.int b) (.int r) := by
  with_unfolding_all intro A s ow va vb rm g o ra rb Q hQ
  cases ra with
  | int _ t => cases rb with
    | int _ u => exact h A s t u Q rm g (hQ _ s.heap _ (Keeps.refl _) (.int _ _))
theorem Bop.add {a b : Int} : Bop C n .Add (.int a) (.int b) (.int (a + b)) := .int fun _ _ _ _ _ _ _ h => P.add_int h
theorem Bop.sub {a b : Int} : Bop C n .Sub (.int a) (.int b) (.int (a - b)) := .int fun _ _ _ _ _ _ _ h => P.sub_int h
theorem Bop.mul {a b : Int} (hm : IntMulOk a b) : Bop C n .Mult (.int a) (.int b) (.int (a * b)) := .int fun _ _ _ _ _ _ _ h => P.mul_int h hm
theorem Bop.mod {a b : Int} (hb : 0 < b) : Bop C n .Mod (.int a) (.int b) (.int (a % b)) := .int fun _ _ _ _ _ _ _ h => mod_int' (by omega) (by rw [Int.fmod_eq_emod_of_nonneg _ (by omega)]; exact h)
theorem Bop.div {a b : Int} (hb : 0 < b) (hs : b < 1000000000) : Bop C n .FloorDiv (.int a) (.int b) (.int (a / b)) := .int fun _ _ _ _ _ _ _ h => floordiv_int (by omega) (by rw [Int.fdiv_eq_ediv_of_nonneg _ (by omega)]; exact h) (.inl (PyProof.noPylong_small (by omega)))
theorem Bop.shl {a k : Int} (hk : 0 ≤ k) (hs : (Builtin.Int.intBits a : Int) + k ≤ 2 ^ 27) : Bop C n .LShift (.int a) (.int k) (.int (a * 2 ^ k.toNat)) := .int fun _ _ _ _ _ _ _ h => lshift_int hk hs h
theorem Bop.shr {a k : Int} (hk : 0 ≤ k) : Bop C n .RShift (.int a) (.int k) (.int (a / 2 ^ k.toNat)) := .int fun _ _ _ _ _ _ _ h => rshift_int hk (by rw [Int.fdiv_eq_ediv_of_nonneg _ (Int.le_of_lt (Int.pow_pos (by decide)))]; exact h)
theorem Bop.band {a b : Int} : Bop C n .BitAnd (.int a) (.int b) (.int (Builtin.bitAnd a b)) := .int fun _ _ _ _ _ _ _ h => and_int h
theorem Iop.add {a b : Int} : Iop C n .Add (.int a) (.int b) (.int (a + b)) := .int fun _ _ _ _ _ _ _ h => P.iadd_int h
theorem Iop.sub {a b : Int} : Iop C n .Sub (.int a) (.int b) (.int (a - b)) := .int fun _ _ _ _ _ _ _ h => P.isub_int h
theorem Iop.shr {a k : Int} (hk : 0 ≤ k) : Iop C n .RShift (.int a) (.int k) (.int (a / 2 ^ k.toNat)) := .int fun _ _ _ _ _ _ _ h => irshift_int hk (by rw [Int.fdiv_eq_ediv_of_nonneg _ (Int.le_of_lt (Int.pow_pos (by decide)))]; exact h)
theorem Iop.bor {a b : Int} : Iop C n .BitOr (.int a) (.int b) (.int (Builtin.bitOr a b)) := .int fun _ _ _ _ _ _ _ h => ior_int h

theorem Cop.int {op : CmpOp} {a b : Int} {r : Bool} (h : ∀ (A : Around) (s : Shared) (t u : Tok) (Q : Value → Shared → Prop), Q (.bool r) s → wpAny C.M A (compareOp op (.int a t) (.int b u)) Q (fun _ _ => False) s) : Cop C n op (.int a) (.int b) r := by
  with_unfolding_all intro A s ow va vb rm g o ra rb Q hQ
  cases ra with
  | int _ t => cases rb with
    | int _ u => exact h A s t u Q (hQ s.heap s.toks (Keeps.refl _))
theorem Cop.eq {a b : Int} : Cop C n .Eq (.int a) (.int b) (a == b) := .int fun _ _ _ _ _ h => P.eq_int h
theorem Cop.ne {a b : Int} : Cop C n .NotEq (.int a) (.int b) (a != b) := .int fun _ _ _ _ _ h => P.ne_int h
theorem Cop.lt {a b : Int} : Cop C n .Lt (.int a) (.int b) (decide (a < b)) := .int fun _ _ _ _ _ h => P.lt_int h
theorem Cop.le {a b : Int} : Cop C n .LtE (.int a) (.int b) (decide (a ≤ b)) := .int fun _ _ _ _ _ h => P.le_int h
theorem Cop.gt {a b : Int} : Cop C n .Gt (.int a) (.int b) (decide (a > b)) := .int fun _ _ _ _ _ h => P.gt_int h
theorem Cop.ge {a b : Int} : Cop C n .GtE (.int a) (.int b) (decide (a ≥ b)) := .int fun _ _ _ _ _ h => P.ge_int h

theorem Tru.int {a : Int} : Tru C n (.int a) (a != 0) := by
  with_unfolding_all intro A s ow va rm g ra Q hQ
  cases ra with
  | int _ t => exact P.truthy_int (hQ s.heap s.toks (Keeps.refl _))
theorem Tru.bool {a : Bool} : Tru C n (.bool a) a := by
  with_unfolding_all intro A s ow va rm g ra Q hQ
  cases ra with
  | bool => exact wpAny_truthy_bool (hQ s.heap s.toks (Keeps.refl _))
end
-- PL3

section
variable {C : Cx} {n : Nat} {sc : Names} {σ : Sto}

abbrev V.ints (ns : List Int) : V := .list (ns.map V.int)
abbrev rawL (vs : List Value) (n : Nat) : Obj := { cls := .type "list", data := .seq vs.toArray n }

theorem isList_of {h : Heap} {a : Addr} {vs : List Value} {n : Nat} (e : h.get? a = some { cls := .type "list", data := .seq vs.toArray n }) : h.IsList a vs.toArray := ⟨_, e, rfl, n, rfl⟩
theorem isTup_of {h : Heap} {a : Addr} {vs : List Value} {n : Nat} (e : h.get? a = some { cls := .type "tuple", data := .seq vs.toArray n }) : IsTup h a vs.toArray := ⟨_, e, rfl, n, rfl⟩

-- items
theorem seqIndex_of {k : Int} {l : Nat} (h0 : 0 ≤ k) (h1 : k.toNat < l) : seqIndex? k l = some k.toNat := by
  unfold seqIndex?
  have h2 : ¬ k < 0 := by lia
  simp only [h2, ↓reduceIte]
  rw [if_pos]
  simp only [Bool.and_eq_true, decide_eq_true_eq]
  lia
theorem Ev.item {o i : Expr} {pos : Pos} {ds : List V} {k : Int} {d : V} (ok : C.Ok) (ho : Ev C n sc σ o (.list ds)) (hi : Ev C n sc σ i (.int k)) (h0 : 0 ≤ k) (hk : k < 2 ^ 63) (hd : ds[k.toNat]? = some d)
    (hs : ∀ o v, subscripted i false o v = operate [o, v] (getItem o v) := by intro _ _; with_unfolding_all rfl) : Ev C n sc σ (.Subscript o i pos) d := by
  with_unfolding_all intro A env s ow rm he g oo hs' Q hQ
  refine Subscript_ (ho.run A env s ow rm he g oo hs' _ fun v h' tk k1 rv => ?_)
  refine hi.run A env _ ow rm he (ok.mono k1 g) (oo.keeps k1) (hs'.keeps k1) _ fun v2 h2 tk2 k2 rv2 => ?_
  cases rv2 with
  | int _ t =>
    cases rv.keeps k2 with
    | list e hn r =>
      obtain ⟨x, hx, rx⟩ := r.get hd
      refine tail_any (isList_of e).typeIs slot_list_getitem.lookup (wpAny_getItem_list (isList_of e) h0 hk (by simpa using hx) ?_) (hs _ _)
      exact hQ _ _ _ (k1.trans k2) rx

theorem Ev.itemT {o i : Expr} {pos : Pos} {ds : List V} {k : Int} {d : V} (ok : C.Ok) (ho : Ev C n sc σ o (.tup ds)) (hi : Ev C n sc σ i (.int k)) (h0 : 0 ≤ k) (hk : k < 2 ^ 63) (hd : ds[k.toNat]? = some d)
    (hs : ∀ o v, subscripted i false o v = operate [o, v] (getItem o v) := by intro _ _; with_unfolding_all rfl) : Ev C n sc σ (.Subscript o i pos) d := by
  with_unfolding_all intro A env s ow rm he g oo hs' Q hQ
  refine Subscript_ (ho.run A env s ow rm he g oo hs' _ fun v h' tk k1 rv => ?_)
  refine hi.run A env _ ow rm he (ok.mono k1 g) (oo.keeps k1) (hs'.keeps k1) _ fun v2 h2 tk2 k2 rv2 => ?_
  cases rv2 with
  | int _ t =>
    cases rv.keeps k2 with
    | tup e hn r =>
      obtain ⟨x, hx, rx⟩ := r.get hd
      have hlt : k.toNat < ds.length := by
        rcases Nat.lt_or_ge k.toNat ds.length with h | h
        · exact h
        · rw [List.getElem?_eq_none h] at hd; cases hd
      have hlen := r.length
      refine item_tupleT (j := k.toNat) (isTup_of e) (by lia) hk (seqIndex_of h0 (by lia)) hx ?_ (hs _ _)
      exact hQ _ _ _ (k1.trans k2) rx

-- slices
theorem keeps_push2 (h : Heap) (o o' : Obj) : Keeps h ((h.push o).push o') := Keeps.trans (keeps_push _ _) (keeps_push _ _)

theorem drop_min {α : Type} (l : List α) (a : Nat) : l.drop (min a l.length) = l.drop a := by
  by_cases h : a ≤ l.length
  · rw [Nat.min_eq_left h]
  · rw [Nat.min_eq_right (by lia), List.drop_of_length_le (Nat.le_refl _), List.drop_of_length_le (by lia)]
theorem take_min {α : Type} (l : List α) (b : Nat) : l.take (min b l.length) = l.take b := by
  by_cases h : b ≤ l.length
  · rw [Nat.min_eq_left h]
  · rw [Nat.min_eq_right (by lia), List.take_of_length_le (Nat.le_refl _), List.take_of_length_le (by lia)]
theorem pick_nat (vs : List Value) {lo hi : Option Int} {a b : Nat} (e : sliceBounds lo hi none vs.toArray.size = ((a : Int), (b : Int), 1)) : slicePick vs.toArray lo hi none = ((vs.drop a).take (b - a)).toArray := by
  unfold slicePick
  rw [e]
  simp only [sliceRange_one, pick_run]
theorem clamp (a s : Nat) : max (0 : Int) (min (a : Int) (s : Int)) = ((min a s : Nat) : Int) := by
  rcases Nat.le_total a s with h | h
  · rw [Nat.min_eq_left h, Int.min_eq_left (Int.ofNat_le.mpr h), Int.max_eq_right (Int.natCast_nonneg a)]
  · rw [Nat.min_eq_right h, Int.min_eq_right (Int.ofNat_le.mpr h), Int.max_eq_right (Int.natCast_nonneg s)]
theorem pick_upto (vs : List Value) {y : Int} (h : 0 ≤ y) : slicePick vs.toArray none (some y) none = (vs.take y.toNat).toArray := by
  obtain ⟨b, rfl⟩ := Int.eq_ofNat_of_zero_le h
  have e : sliceBounds none (some (b : Int)) none vs.toArray.size = (((0 : Nat) : Int), ((min b vs.toArray.size : Nat) : Int), 1) := by
    simp only [sliceBounds, Option.getD_none, show (1 : Int) > 0 by decide, if_true, if_neg (show ¬ ((b : Int) < 0) from Int.not_lt.mpr h), clamp]
    rfl
  rw [pick_nat _ e, List.drop_zero, Nat.sub_zero, List.size_toArray, take_min, Int.toNat_natCast]
theorem pick_from (vs : List Value) {x : Int} (h : 0 ≤ x) : slicePick vs.toArray (some x) none none = (vs.drop x.toNat).toArray := by
  obtain ⟨a, rfl⟩ := Int.eq_ofNat_of_zero_le h
  have e : sliceBounds (some (a : Int)) none none vs.toArray.size = (((min a vs.toArray.size : Nat) : Int), ((vs.toArray.size : Nat) : Int), 1) := by
    simp only [sliceBounds, Option.getD_none, show (1 : Int) > 0 by decide, if_true, if_neg (show ¬ ((a : Int) < 0) from Int.not_lt.mpr h), clamp]
  rw [pick_nat _ e, List.size_toArray, drop_min, List.take_of_length_le (by rw [List.length_drop]; exact Nat.sub_le_sub_left (Nat.min_le_left ..) _), Int.toNat_natCast]
theorem pick_run2 (vs : List Value) {x y : Int} (h : 0 ≤ x) (h2 : 0 ≤ y) : slicePick vs.toArray (some x) (some y) none = ((vs.drop x.toNat).take (y.toNat - x.toNat)).toArray := by
  obtain ⟨a, rfl⟩ := Int.eq_ofNat_of_zero_le h
  obtain ⟨b, rfl⟩ := Int.eq_ofNat_of_zero_le h2
  have e : sliceBounds (some (a : Int)) (some (b : Int)) none vs.toArray.size = (((min a vs.toArray.size : Nat) : Int), ((min b vs.toArray.size : Nat) : Int), 1) := by
    simp only [sliceBounds, Option.getD_none, show (1 : Int) > 0 by decide, if_true, if_neg (show ¬ ((a : Int) < 0) from Int.not_lt.mpr h), if_neg (show ¬ ((b : Int) < 0) from Int.not_lt.mpr h2), clamp]
  rw [pick_nat _ e, List.size_toArray, drop_min, Int.toNat_natCast, Int.toNat_natCast]
  congr 1
  rcases Nat.le_total a vs.length with q | q
  · rw [Nat.min_eq_left q, ← Nat.sub_min_sub_right, ← List.length_drop, take_min]
  · rw [List.drop_of_length_le q, List.take_nil, List.take_nil]
theorem pick_all (vs : List Value) : slicePick vs.toArray none none none = vs.toArray := by
  have e : sliceBounds none none none vs.toArray.size = (((0 : Nat) : Int), ((vs.toArray.size : Nat) : Int), 1) := by
    simp only [sliceBounds, Option.getD_none, show (1 : Int) > 0 by decide, if_true]
    rfl
  rw [pick_nat _ e, List.drop_zero, Nat.sub_zero, List.size_toArray, List.take_length]

/-- the parts of a slice: left out, or an int -/
inductive Part (C : Cx) (n : Nat) (sc : Names) (σ : Sto) : Option Expr → Option Int → Prop
  | none : Part C n sc σ none none
  | int {e : Expr} {i : Int} : Ev C n sc σ e (.int i) → Part C n sc σ (some e) (some i)
theorem Part.ev {x : Option Expr} {i : Option Int} (h : Part C n sc σ x i) (A : Around) (env : Env) (s : Shared) (ow : List Addr) (rm : Room A n) (he : EnvFor sc env) (g : C.G s.heap) (o : OwOk ow s.heap) (hs : SRep sc σ ow env s.heap)
    (Q : Value → Shared → Prop) (hQ : ∀ v h' tk, Keeps s.heap h' → IsPart v i → Q v { s with heap := h', toks := tk }) : wpAny C.M A (evalPart x env) Q (fun _ _ => False) s := by
  cases h with
  | none => exact wpAny_evalPart_none (hQ _ s.heap s.toks (Keeps.refl _) .none)
  | int h =>
    refine wpAny_evalPart_some (h.run A env s ow rm he g o hs _ fun v h' tk k rv => hQ v h' tk k ?_)
    cases rv with
    | int => exact .int _ _

theorem Ev.slice {o : Expr} {lo hi : Option Expr} {p pos : Pos} {ds ds' : List V} {x y : Option Int} (ok : C.Ok) (ho : Ev C n sc σ o (.list ds)) (hl : Part C n sc σ lo x) (hu : Part C n sc σ hi y) (hz : ds.length ≤ 1000000)
    (hp : ∀ vs : List Value, ∃ ws, slicePick vs.toArray x y none = ws.toArray ∧ ∀ ow h, Reps ow h vs ds → Reps ow h ws ds') : Ev C n sc σ (.Subscript o (.Slice lo hi none p) pos) (.list ds') := by
  with_unfolding_all intro A env s ow rm he g oo hs' Q hQ
  refine Subscript_ (ho.run A env s ow rm he g oo hs' _ fun v h' tk k1 rv => ?_)
  refine wpAny_Slice (hl.ev A env _ ow rm he (ok.mono k1 g) (oo.keeps k1) (hs'.keeps k1) _ fun vl h2 tk2 k2 pl => ?_)
  refine hu.ev A env _ ow rm he (ok.mono k2 (ok.mono k1 g)) ((oo.keeps k1).keeps k2) ((hs'.keeps k1).keeps k2) _ fun vu h3 tk3 k3 pu => ?_
  refine wpAny_evalPart_none ?_
  cases (rv.keeps k2).keeps k3 with
  | list e hn r =>
    rename_i a vs nn
    have hsz : vs.toArray.size ≤ sizeLine := by rw [List.size_toArray, r.length, sizeLine_eq]; lia
    have hl := isList_of e
    obtain ⟨ws, hw, hr⟩ := hp vs
    refine tail_any (Heap.IsList.typeIs (hl.push _)) slot_list_getitem.lookup ?_ rfl
    refine wpAny_getItem_list_slice (hl.push _) (Heap.IsSliceOf.new ..) pl pu .none (by simp) ?_ hsz
    rw [hw]
    refine hQ _ _ _ (k1.trans (Keeps.trans k2 (Keeps.trans k3 (keeps_push2 _ _ _)))) (.list (Heap.get?_push_size _ rfl) ?_ ((hr _ _ r).keeps (keeps_push2 _ _ _)))
    exact ((((oo.keeps k1).keeps k2).keeps k3).keeps (keeps_push _ _)).size

theorem Ev.sliceTo {o e : Expr} {p pos : Pos} {ds : List V} {y : Int} (ok : C.Ok) (ho : Ev C n sc σ o (.list ds)) (hu : Ev C n sc σ e (.int y)) (h0 : 0 ≤ y) (hz : ds.length ≤ 1000000) : Ev C n sc σ (.Subscript o (.Slice none (some e) none p) pos) (.list (ds.take y.toNat)) :=
  .slice ok ho .none (.int hu) hz fun vs => ⟨_, pick_upto vs h0, fun _ _ r => r.take _⟩
theorem Ev.sliceFrom {o e : Expr} {p pos : Pos} {ds : List V} {y : Int} (ok : C.Ok) (ho : Ev C n sc σ o (.list ds)) (hu : Ev C n sc σ e (.int y)) (h0 : 0 ≤ y) (hz : ds.length ≤ 1000000) : Ev C n sc σ (.Subscript o (.Slice (some e) none none p) pos) (.list (ds.drop y.toNat)) :=
  .slice ok ho (.int hu) .none hz fun vs => ⟨_, pick_from vs h0, fun _ _ r => r.dropN _⟩
theorem Ev.slice2 {o e e2 : Expr} {p pos : Pos} {ds : List V} {x y : Int} (ok : C.Ok) (ho : Ev C n sc σ o (.list ds)) (hl : Ev C n sc σ e (.int x)) (hu : Ev C n sc σ e2 (.int y)) (h0 : 0 ≤ x) (h1 : 0 ≤ y) (hz : ds.length ≤ 1000000) :
    Ev C n sc σ (.Subscript o (.Slice (some e) (some e2) none p) pos) (.list ((ds.drop x.toNat).take (y.toNat - x.toNat))) :=
  .slice ok ho (.int hl) (.int hu) hz fun vs => ⟨_, pick_run2 vs h0 h1, fun _ _ r => (r.dropN _).take _⟩
theorem Ev.sliceAll {o : Expr} {p pos : Pos} {ds : List V} (ok : C.Ok) (ho : Ev C n sc σ o (.list ds)) (hz : ds.length ≤ 1000000) : Ev C n sc σ (.Subscript o (.Slice none none none p) pos) (.list ds) :=
  .slice ok ho .none .none hz fun vs => ⟨_, pick_all vs, fun _ _ r => r⟩

theorem Ev.sliceRev {o e : Expr} {p pos : Pos} {ds : List V} {y : Int} (ok : C.Ok) (ho : Ev C n sc σ o (.list ds)) (hu : Ev C n sc σ e (.int y)) (h0 : y = -1) (hz : ds.length ≤ 1000000) :
    Ev C n sc σ (.Subscript o (.Slice none none (some e) p) pos) (.list ds.reverse) := by
  subst h0
  with_unfolding_all intro A env s ow rm he g oo hs' Q hQ
  refine Subscript_ (ho.run A env s ow rm he g oo hs' _ fun v h' tk k1 rv => ?_)
  refine wpAny_Slice (wpAny_evalPart_none (wpAny_evalPart_none (wpAny_evalPart_some (hu.run A env _ ow rm he (ok.mono k1 g) (oo.keeps k1) (hs'.keeps k1) _ fun v2 h2 tk2 k2 rv2 => ?_))))
  cases rv2 with
  | int _ t =>
  cases rv.keeps k2 with
  | list e hn r =>
    rename_i a vs nn
    have hsz : vs.toArray.size ≤ sizeLine := by rw [List.size_toArray, r.length, sizeLine_eq]; lia
    have hl := isList_of e
    refine tail_any (ops := [.ref a, .ref h2.objs.size]) (Heap.IsList.typeIs (hl.push _)) slot_list_getitem.lookup ?_ rfl
    refine wpAny_getItem_list_slice (hl.push _) (Heap.IsSliceOf.new ..) .none .none (.int _ _) (by simp) ?_ hsz
    rw [krv_pick]
    refine hQ _ _ _ (k1.trans (Keeps.trans k2 (keeps_push2 _ _ _))) (.list (Heap.get?_push_size _ rfl) ?_ ((r.reverse).keeps (keeps_push2 _ _ _)))
    exact (((oo.keeps k1).keeps k2).keeps (keeps_push _ _)).size

-- + and * of lists
theorem Bop.cat {a b : List V} (hz : a.length + b.length ≤ 1000000) : Bop C n .Add (.list a) (.list b) (.list (a ++ b)) := by
  with_unfolding_all intro A s ow va vb rm g o ra rb Q hQ
  cases ra with
  | list e hn r =>
    cases rb with
    | list e2 hn2 r2 =>
      rename_i l vs k l2 ws k2
      have hc := r.length
      have hc2 := r2.length
      refine concat_meets ⟨_, e, rfl⟩ ⟨_, e2, rfl⟩ noFill_list_add seq_list_add PySem.F.slot_list_add PySem.F.entry_list_add (PySem.F.args_list_add_2 _ _)
        (list_addW l l2 vs.toArray ws.toArray k k2 none none #[] #[] (by rw [List.size_toArray, List.size_toArray, sizeLine_eq]; lia)) ⟨e, e2, ?_⟩
      rw [show vs.toArray ++ ws.toArray = (vs ++ ws).toArray by simp]
      exact hQ _ _ _ (keeps_push _ _) (.list (Heap.get?_push_size _ rfl) o.size ((r.append r2).keeps (keeps_push _ _)))

theorem foldl_rep (v : Value) : ∀ (m : Nat) (acc : Array Value), List.foldl (fun x1 x2 => x1 ++ x2) acc (List.replicate m #[v]) = (acc.toList ++ List.replicate m v).toArray
  | 0, acc => by simp
  | m + 1, acc => by
    rw [List.replicate_succ, List.foldl_cons, foldl_rep v m]
    simp [List.replicate_succ]
theorem Bop.rep {d : V} {x : Int} (h0 : 0 ≤ x) (hz : x ≤ 1000000) : Bop C n .Mult (.list [d]) (.int x) (.list (List.replicate x.toNat d)) := by
  with_unfolding_all intro A s ow va vb rm g o ra rb Q hQ
  cases ra with
  | list e hn r =>
    cases rb with
    | int _ u =>
      cases r with
      | cons rv r' =>
        cases r' with
        | nil =>
          rename_i l k v
          refine wpAny_binaryOp_repeat_ref (T := "list") (U := "int") (by decide) ⟨_, e, rfl⟩ (fun s' => typeIs_int s' x u) noFill_list_mul F.fills_int_mul F.slot_int_rmul repeat_list F.slot_int_index.lookup
            (call_meets F.slot_int_rmul (typeIs_int s x u) F.entry_int_rmul (F.args_int_rmul_2 _ _) (int___rmul___int_list x u l [v].toArray k)
              ⟨e, rfl, ⟨_, e, rfl⟩, call_meets F.slot_list_mul ⟨_, e, rfl⟩ F.entry_list_mul (F.args_list_mul_2 _ _)
                (AutoListH.list___mul___list_int_3 l [v].toArray k x u (by simp [Builtin.List.listFitsIndex]; lia) (by simp; lia) (by simp [Builtin.List.listTooLong, sizeLine]; lia))
                ⟨e, ?_⟩⟩)
          have e1 : List.foldl (fun x1 x2 => x1 ++ x2) #[] (List.replicate (if [v].toArray.isEmpty = true then 0 else x.toNat) [v].toArray) = (List.replicate x.toNat v).toArray := by
            rw [if_neg (by simp)]
            exact (foldl_rep v x.toNat #[]).trans (by simp)
          rw [e1]
          refine hQ _ _ _ (keeps_push _ _) (.list (Heap.get?_push_size _ rfl) o.size ?_)
          have hr : ∀ m : Nat, Reps ow (s.heap.push { cls := .type "list", data := .seq (List.replicate x.toNat v).toArray }) (List.replicate m v) (List.replicate m d) := fun m => by
            induction m with
            | zero => exact .nil
            | succ m ih => exact .cons (rv.keeps (keeps_push _ _)) ih
          exact hr _

-- len, truth
theorem Fn.len {ds : List V} (hz : ds.length ≤ 1000000) : Fn C n (.bi "len") [.list ds] (.int ds.length) := by
  refine ⟨trivial, ?_⟩
  with_unfolding_all intro A s ow fv vs rm g o rf ra Q hQ
  cases rf
  cases ra with
  | cons rv r' => cases r' with
    | nil => cases rv with
      | list e hn r =>
        rename_i a ws k
        have hs : (ws.toArray.size : Int) = ds.length := by rw [List.size_toArray, r.length]
        refine Calls.call_len_list (isList_of e) (by rw [hs]; lia) ?_
        rw [hs]
        exact hQ _ s.heap _ (Keeps.refl _) (.int _ _)
theorem Tru.list {ds : List V} (hz : ds.length ≤ 1000000) : Tru C n (.list ds) (!ds.isEmpty) := by
  with_unfolding_all intro A s ow va rm g ra Q hQ
  cases ra with
  | list e hn r =>
    rename_i a ws k
    have hs : ws.toArray.size = ds.length := by rw [List.size_toArray, r.length]
    refine wpAny_truthy_list (isList_of e) (by rw [hs]; lia) ?_
    have he : (!ws.toArray.isEmpty) = !ds.isEmpty := by cases r <;> simp
    rw [he]
    exact hQ s.heap _ (Keeps.refl _)

-- abs, max, sum, list(tuple)
theorem Fn.abs {a : Int} : Fn C n (.bi "abs") [.int a] (.int (if a < 0 then -a else a)) := by
  refine ⟨trivial, ?_⟩
  with_unfolding_all intro A s ow fv vs rm g o rf ra Q hQ
  cases rf
  cases ra with
  | cons rv r' => cases r' with
    | nil => cases rv with
      | int _ t => exact call_abs_int fun u tk => hQ _ s.heap tk (Keeps.refl _) (.int _ _)
theorem Fn.max3 {a b c : Int} : Fn C n (.bi "max") [.int a, .int b, .int c] (.int (max (max a b) c)) := by
  refine ⟨trivial, ?_⟩
  with_unfolding_all intro A s ow fv vs rm g o rf ra Q hQ
  cases rf
  cases ra with
  | cons rv r' => cases r' with
    | cons rv2 r2 => cases r2 with
      | cons rv3 r3 => cases r3 with
        | nil =>
          cases rv with
          | int _ t => cases rv2 with
            | int _ u => cases rv3 with
              | int _ x =>
                refine max_three_ints rm.hh fun h' tk k => hQ _ h' tk k ?_
                split <;> split <;> rename_i h1 h2
                · rw [show max (max a b) c = c by lia]; exact .int _ _
                · rw [show max (max a b) c = b by lia]; exact .int _ _
                · rw [show max (max a b) c = c by lia]; exact .int _ _
                · rw [show max (max a b) c = a by lia]; exact .int _ _
theorem Fn.max2 {a b : Int} : Fn C n (.bi "max") [.int a, .int b] (.int (max a b)) := by
  refine ⟨trivial, ?_⟩
  with_unfolding_all intro A s ow fv vs rm g o rf ra Q hQ
  cases rf
  cases ra with
  | cons rv r' => cases r' with
    | cons rv2 r2 => cases r2 with
      | nil =>
          cases rv with
          | int _ t => cases rv2 with
            | int _ u =>
                refine max_two_ints rm.hh fun h' tk k => hQ _ h' tk k ?_
                split <;> rename_i h1
                · rw [show max a b = b by lia]; exact .int _ _
                · rw [show max a b = a by lia]; exact .int _ _
theorem Fn.listT {ds : List V} (hz : ds.length ≤ 1000000) : Fn C n (.ty "list") [.tup ds] (.list ds) := by
  refine ⟨trivial, ?_⟩
  with_unfolding_all intro A s ow fv vs rm g o rf ra Q hQ
  cases rf
  cases ra with
  | cons rv r' => cases r' with
    | nil => cases rv with
      | tup e hn r =>
        rename_i a ws k
        refine call_list_seq a (.inr rfl) e rfl rfl (fun h' c' k hD => ?_) (by rw [List.size_toArray, r.length, sizeLine_eq]; lia)
        exact hQ _ h' _ k (.list hD o.size (r.keeps k))

theorem ints_items {ow : List Addr} {h : Heap} : ∀ {vs : List Value} {ns : List Int}, Reps ow h vs (ns.map V.int) → ∃ ps : List (Int × Tok), vs = ps.map (fun p => Value.int p.1 p.2) ∧ ps.map (·.1) = ns
  | _, [], .nil => ⟨[], rfl, rfl⟩
  | _, m :: ns, .cons (.int _ t) r => by
    obtain ⟨ps, rfl, e⟩ := ints_items r
    exact ⟨(m, t) :: ps, rfl, by simp [e]⟩
theorem preSum_take (ps : List (Int × Tok)) : ∀ j, j ≤ ps.length → preSum (numAt ps.toArray) j = ((ps.map (·.1)).take j).sum := by
  intro j
  induction j with
  | zero => intro _; rfl
  | succ j ih =>
    intro h
    have hj : j < ps.length := by lia
    rw [preSum, ih (by lia), List.take_add_one, List.sum_append]
    simp [numAt, hj]
theorem Fn.sum {ns : List Int} : Fn C n (.bi "sum") [.ints ns] (.int ns.sum) := by
  refine ⟨trivial, ?_⟩
  with_unfolding_all intro A s ow fv vs rm g o rf ra Q hQ
  cases rf
  cases ra with
  | cons rv r' => cases r' with
    | nil => cases rv with
      | list e hn r =>
        obtain ⟨ps, rfl, rfl⟩ := ints_items r
        have hl := isList_of e
        rw [show (ps.map (fun p => Value.int p.1 p.2)).toArray = intItems ps.toArray by simp [intItems]] at hl
        refine sum_intListG rm.hh hl fun h' tk t' k => ?_
        have e2 := preSum_take ps ps.length (Nat.le_refl _)
        rw [List.take_of_length_le (by simp)] at e2
        rw [show (ps.toArray.size) = ps.length by simp, e2]
        exact hQ _ h' tk k (.int _ _)
end
-- PL4

-- equality of data
mutual
def V.py : V → PyData
  | .none => .none
  | .bool b => .bool b
  | .int i => .int i
  | .list l => .list (V.pys l)
  | .tup l => .tuple (V.pys l)
  | .fn _ => .none
  | .bi _ => .none
  | .ty _ => .none
def V.pys : List V → List PyData
  | [] => []
  | d :: ds => d.py :: V.pys ds
end
/-- data of depth k at most -/
def V.lay : Nat → V → Bool
  | _, .none => true
  | _, .bool _ => true
  | _, .int _ => true
  | k + 1, .list l => l.all (V.lay k)
  | k + 1, .tup l => l.all (V.lay k)
  | _, _ => false

mutual
theorem Rep.reads {ow : List Addr} {h : Heap} : ∀ {v : Value} {d : V} {k : Nat}, Rep ow h v d → d.lay k = true → ∃ as, Reads h v d.py as
  | _, _, _, .none, _ => ⟨_, .none⟩
  | _, _, _, .bool b, _ => ⟨_, .bool b⟩
  | _, _, _, .int i t, _ => ⟨_, .int i t⟩
  | _, .list ds, k + 1, .list e _ r, hk => by
    obtain ⟨as, ra⟩ := Reps.reads (k := k) r (by simpa [V.lay] using hk)
    exact ⟨_, .list e rfl rfl (by simpa using ra)⟩
  | _, .tup ds, k + 1, .tup e _ r, hk => by
    obtain ⟨as, ra⟩ := Reps.reads (k := k) r (by simpa [V.lay] using hk)
    exact ⟨_, .tuple e rfl rfl (by simpa using ra)⟩
  | _, .list _, 0, _, hk => by simp [V.lay] at hk
  | _, .tup _, 0, _, hk => by simp [V.lay] at hk
  | _, .fn _, k, _, hk => by cases k <;> simp [V.lay] at hk
  | _, .bi _, k, _, hk => by cases k <;> simp [V.lay] at hk
  | _, .ty _, k, _, hk => by cases k <;> simp [V.lay] at hk
theorem Reps.reads {ow : List Addr} {h : Heap} : ∀ {vs : List Value} {ds : List V} {k : Nat}, Reps ow h vs ds → (∀ d ∈ ds, d.lay k = true) → ∃ as, ReadsAll h vs (V.pys ds) as
  | _, _, _, .nil, _ => ⟨_, .nil⟩
  | _, _, _, .cons a r, hk => by
    obtain ⟨as, ra⟩ := a.reads (hk _ List.mem_cons_self)
    obtain ⟨bs, rb⟩ := r.reads fun d hd => hk d (List.mem_cons_of_mem _ hd)
    exact ⟨_, .cons ra rb⟩
end

mutual
theorem V.lay_py : ∀ (k : Nat) (d : V), d.lay k = true → d.py.canLay0 = true ∧ d.py.depth ≤ k
  | k, .none, _ => by simp [V.py, PyData.canLay0, PyData.depth]
  | k, .bool _, _ => by simp [V.py, PyData.canLay0, PyData.depth]
  | k, .int _, _ => by simp [V.py, PyData.canLay0, PyData.depth]
  | k + 1, .list l, h => by
    have := V.lay_pys k l (by simpa [V.lay] using h)
    simp only [V.py, PyData.canLay0, PyData.depth]
    exact ⟨this.1, by omega⟩
  | k + 1, .tup l, h => by
    have := V.lay_pys k l (by simpa [V.lay] using h)
    simp only [V.py, PyData.canLay0, PyData.depth]
    exact ⟨this.1, by omega⟩
  | 0, .list _, h => by simp [V.lay] at h
  | 0, .tup _, h => by simp [V.lay] at h
  | k, .fn _, h => by cases k <;> simp [V.lay] at h
  | k, .bi _, h => by cases k <;> simp [V.lay] at h
  | k, .ty _, h => by cases k <;> simp [V.lay] at h
theorem V.lay_pys : ∀ (k : Nat) (l : List V), (∀ d ∈ l, d.lay k = true) → PyData.canLayAll0 (V.pys l) = true ∧ PyData.depthAll (V.pys l) ≤ k
  | k, [], _ => by simp [V.pys, PyData.canLayAll0, PyData.depthAll]
  | k, d :: l, h => by
    have h1 := V.lay_py k d (h d List.mem_cons_self)
    have h2 := V.lay_pys k l fun e he => h e (List.mem_cons_of_mem _ he)
    simp only [V.pys, PyData.canLayAll0, PyData.depthAll, h1.1, h2.1, Bool.and_self, true_and]
    omega
end

mutual
theorem eqv_self : ∀ (k : Nat) (d : V), d.lay k = true → PyData.eqv d.py d.py = true
  | k, .none, _ => by simp [V.py, PyData.eqv]
  | k, .bool _, _ => by simp [V.py, PyData.eqv]
  | k, .int _, _ => by simp [V.py, PyData.eqv]
  | k + 1, .list l, h => by simp only [V.py, PyData.eqv]; exact eqvs_self k l (by simpa [V.lay] using h)
  | k + 1, .tup l, h => by simp only [V.py, PyData.eqv]; exact eqvs_self k l (by simpa [V.lay] using h)
  | 0, .list _, h => by simp [V.lay] at h
  | 0, .tup _, h => by simp [V.lay] at h
  | k, .fn _, h => by cases k <;> simp [V.lay] at h
  | k, .bi _, h => by cases k <;> simp [V.lay] at h
  | k, .ty _, h => by cases k <;> simp [V.lay] at h
theorem eqvs_self : ∀ (k : Nat) (l : List V), (∀ d ∈ l, d.lay k = true) → PyData.eqvAll (V.pys l) (V.pys l) = true
  | k, [], _ => by simp [V.pys, PyData.eqvAll]
  | k, d :: l, h => by
    have h1 := eqv_self k d (h d List.mem_cons_self)
    have h2 := eqvs_self k l fun e he => h e (List.mem_cons_of_mem _ he)
    simp [V.pys, PyData.eqvAll, h1, h2]
end

theorem pys_ints : ∀ ns : List Int, V.pys (ns.map V.int) = ns.map PyData.int
  | [] => rfl
  | n :: ns => by simp [V.pys, V.py, pys_ints ns]
theorem lay_ints (k : Nat) (ns : List Int) : (V.ints ns).lay (k + 1) = true := by
  simp only [V.lay, List.all_eq_true, List.mem_map]
  rintro d ⟨i, _, rfl⟩
  cases k <;> rfl

section
variable {C : Cx} {n : Nat} {sc : Names} {σ : Sto}
theorem Room.u64 {A : Around} {n : Nat} (r : Room A n) : A.units + 64 < cLine := by have := r.un; have := cLine_is; omega
theorem shaped_of {k : Nat} {d : V} (h : d.lay k = true) (hk : k ≤ 60) : PySem.SeqAt.shaped d.py = true := by
  have := V.lay_py k d h
  unfold PySem.SeqAt.shaped
  simp only [this.1, Bool.true_and, decide_eq_true_eq]
  omega
theorem Cop.eqD {a b : V} {k : Nat} (ha : a.lay k = true) (hb : b.lay k = true) (hk : k ≤ 60 := by decide) : Cop C n .Eq a b (PyData.eqv a.py b.py) := by
  with_unfolding_all intro A s ow va vb rm g o ra rb Q hQ
  obtain ⟨as, ra⟩ := ra.reads ha
  obtain ⟨bs, rb⟩ := rb.reads hb
  exact eq_dataH ra rb (shaped_of ha hk) (shaped_of hb hk) rm.u64 (hQ s.heap s.toks (Keeps.refl _))
theorem Cop.neD {a b : V} {k : Nat} (ha : a.lay k = true) (hb : b.lay k = true) (hk : k ≤ 60 := by decide) : Cop C n .NotEq a b (!PyData.eqv a.py b.py) := by
  with_unfolding_all intro A s ow va vb rm g o ra rb Q hQ
  obtain ⟨as, ra⟩ := ra.reads ha
  obtain ⟨bs, rb⟩ := rb.reads hb
  exact ne_dataH ra rb (shaped_of ha hk) (shaped_of hb hk) rm.u64 (hQ s.heap s.toks (Keeps.refl _))
theorem Cop.cast {op : CmpOp} {a b : V} {r r' : Bool} (h : Cop C n op a b r) (e : r = r') : Cop C n op a b r' := e ▸ h
theorem Cop.neSame {a b : V} {k : Nat} (ha : a.lay k = true) (e : a = b) (hk : k ≤ 60 := by decide) : Cop C n .NotEq a b false := by
  subst e
  exact (Cop.neD ha ha hk).cast (by rw [eqv_self k a ha]; rfl)
theorem Cop.neInts {a b : List Int} : Cop C n .NotEq (.ints a) (.ints b) (!decide (a = b)) :=
  (Cop.neD (k := 1) (lay_ints 0 a) (lay_ints 0 b)).cast (by simp only [V.py, PyData.eqv, pys_ints, ked_eqvAll])
theorem Cop.neNil {a : List Int} : Cop C n .NotEq (.ints a) (.list []) (!decide (a = [])) := Cop.neInts (b := [])
theorem Cop.eqBool {a b : Bool} : Cop C n .Eq (.bool a) (.bool b) (a == b) := (Cop.eqD (k := 0) rfl rfl).cast rfl
theorem Cop.neBool {a b : Bool} : Cop C n .NotEq (.bool a) (.bool b) (a != b) := (Cop.neD (k := 0) rfl rfl).cast rfl
end

-- statements
inductive Fl where
  | next (σ : Sto) (own : Option (Str × List Int))
  | ret (d : V)

/-- the list that the frame turns: its address, and what it holds -/
def OwnR (sc : Names) (m : Str → Option Value) (ow₀ : List Addr) (h₀ h : Heap) : Option (Str × List Int) → List Addr → Prop
  | none, oa => oa = []
  | some (x, ns), oa => ∃ ad vs k, oa = [ad] ∧ sc.lookup x = some .local ∧ m x = some (.ref ad) ∧ h₀.get? ad = none ∧ h.get? ad = some { cls := .type "list", data := .seq (List.toArray vs) k } ∧ IntsAre vs ns ∧ ad ∉ ow₀

structure StR (sc : Names) (σ : Sto) (own : Option (Str × List Int)) (ow₀ oa : List Addr) (s₀ : Shared) (env : Env) (s : Shared) : Prop where
  ex : ∃ m cm, InCallC s₀ env.locals m env.cells cm s ∧ OwnR sc m ow₀ s₀.heap s.heap own oa ∧ OwOk ow₀ s.heap ∧
    ∀ x d, σ.lookup x = some d → ∃ v, ((sc.lookup x = some .local ∧ m x = some v) ∨ (sc.lookup x = some .cell ∧ (env.cells.lookup x).isSome = true ∧ cm x = some v)) ∧ Rep (oa ++ ow₀) s.heap v d

/-- what stands beside the frame's own things is kept -/
def Kb (env : Env) (oa : List Addr) (h h' : Heap) : Prop := ∀ b o, h.get? b = some o → b ≠ env.locals → (∀ x c, env.cells.lookup x = some c → b ≠ c) → b ∉ oa → h'.get? b = some o

theorem Kb.refl (env : Env) (oa : List Addr) (h : Heap) : Kb env oa h h := fun _ _ e _ _ _ => e
theorem Keeps.kb {env : Env} {oa : List Addr} {h h' : Heap} (k : Keeps h h') : Kb env oa h h' := fun _ _ e _ _ _ => k _ _ e

/-- the owned addresses afterwards are those before, or new -/
def OaOk (oa oa' : List Addr) (h : Heap) : Prop := ∀ b ∈ oa', b ∈ oa ∨ h.get? b = none
theorem OaOk.refl (oa : List Addr) (h : Heap) : OaOk oa oa h := fun _ hb => .inl hb
theorem Kb.trans {env : Env} {oa oa' : List Addr} {h h' h'' : Heap} (a : Kb env oa h h') (o : OaOk oa oa' h) (b : Kb env oa' h' h'') : Kb env oa h h'' := fun x ob e h1 h2 h3 =>
  b x ob (a x ob e h1 h2 h3) h1 h2 fun hm => (o x hm).elim h3 fun e' => by rw [e] at e'; cases e'
theorem OaOk.trans {env : Env} {oa oa' oa'' : List Addr} {h h' : Heap} (a : OaOk oa oa' h) (k : Kb env oa h h') (b : OaOk oa' oa'' h') (hL : ∃ o, h'.get? env.locals = some o) (hc : ∀ x c, env.cells.lookup x = some c → ∃ o, h'.get? c = some o) : OaOk oa oa'' h := fun x hx => by
  rcases b x hx with h1 | h1
  · exact a x h1
  · by_cases hm : x ∈ oa
    · exact .inl hm
    · right
      cases e : h.get? x with
      | none => rfl
      | some o =>
        by_cases hl : x = env.locals
        · obtain ⟨o', e'⟩ := hL; rw [hl, e'] at h1; cases h1
        · by_cases hcc : ∃ y, env.cells.lookup y = some x
          · obtain ⟨y, hy⟩ := hcc
            obtain ⟨o', e'⟩ := hc y x hy
            rw [e'] at h1; cases h1
          · have := k x o e hl (fun y c hy e' => hcc ⟨y, e' ▸ hy⟩) hm
            rw [this] at h1; cases h1

structure FlR (sc : Names) (ow₀ oa : List Addr) (s₀ : Shared) (env : Env) (s : Shared) (fl : Fl) (f : Flow) (s' : Shared) : Prop where
  same : ∃ h tk, s' = { s with heap := h, toks := tk }
  kb : Kb env oa s.heap s'.heap
  fl : match fl with
    | .next σ own => f = .next ∧ ∃ oa', OaOk oa oa' s.heap ∧ StR sc σ own ow₀ oa' s₀ env s'
    | .ret d => ∃ v, f = .ret v ∧ Keeps s₀.heap s'.heap ∧ Rep ow₀ s'.heap v d

/-- the statements' end -/
def ExB (C : Cx) (n : Nat) (sc : Names) (σ : Sto) (own : Option (Str × List Int)) (ss : List Stmt) (fl : Fl) : Prop :=
  ∀ (A : Around) (env : Env) (s₀ s : Shared) (ow₀ oa : List Addr), Room A n → EnvFor sc env → C.G s₀.heap → StR sc σ own ow₀ oa s₀ env s →
    ∀ Q : Flow → Shared → Prop, (∀ f s', FlR sc ow₀ oa s₀ env s fl f s' → Q f s') → wpAny C.M A (execs ss env) Q (fun _ _ => False) s
@[irreducible] def Ex (C : Cx) (n : Nat) (sc : Names) (σ : Sto) (own : Option (Str × List Int)) (ss : List Stmt) (fl : Fl) : Prop := ExB C n sc σ own ss fl
theorem Ex.run {C : Cx} {n : Nat} {sc : Names} {σ : Sto} {own : Option (Str × List Int)} {ss : List Stmt} {fl : Fl} (h : Ex C n sc σ own ss fl) : ExB C n sc σ own ss fl := by unfold Ex at h; exact h
def Ex1B (C : Cx) (n : Nat) (sc : Names) (σ : Sto) (own : Option (Str × List Int)) (st : Stmt) (fl : Fl) : Prop :=
  ∀ (A : Around) (env : Env) (s₀ s : Shared) (ow₀ oa : List Addr), Room A n → EnvFor sc env → C.G s₀.heap → StR sc σ own ow₀ oa s₀ env s →
    ∀ Q : Flow → Shared → Prop, (∀ f s', FlR sc ow₀ oa s₀ env s fl f s' → Q f s') → wpAny C.M A (exec st env) Q (fun _ _ => False) s
@[irreducible] def Ex1 (C : Cx) (n : Nat) (sc : Names) (σ : Sto) (own : Option (Str × List Int)) (st : Stmt) (fl : Fl) : Prop := Ex1B C n sc σ own st fl
theorem Ex1.run {C : Cx} {n : Nat} {sc : Names} {σ : Sto} {own : Option (Str × List Int)} {st : Stmt} {fl : Fl} (h : Ex1 C n sc σ own st fl) : Ex1B C n sc σ own st fl := by unfold Ex1 at h; exact h

theorem incall_grow {s₀ s : Shared} {L : Addr} {m cm : Str → Option Value} {cs : List (Str × Addr)} {h' : Heap} {tk : Nat} (x : InCallC s₀ L m cs cm s) (k : Keeps s.heap h') : InCallC s₀ L m cs cm { s with heap := h', toks := tk } := by
  obtain ⟨h1, t1, e⟩ := x.toInCall.same
  exact ⟨⟨⟨h', tk, by rw [e]⟩, x.toInCall.ns.keeps k, fun b o e => k b o (x.toInCall.keep b o e), x.toInCall.fresh⟩, fun n c hc => (x.cell n c hc).keeps k, x.apart, x.above⟩

section
variable {sc : Names} {σ : Sto} {own : Option (Str × List Int)} {ow₀ oa : List Addr} {s₀ s : Shared} {env : Env}
theorem OwnR.keeps {m : Str → Option Value} {h₀ h h' : Heap} (r : OwnR sc m ow₀ h₀ h own oa) (k : Keeps h h') : OwnR sc m ow₀ h₀ h' own oa := by
  cases own with
  | none => exact r
  | some p =>
    obtain ⟨ad, vs, kk, a, b, c, d, e, f⟩ := r
    exact ⟨ad, vs, kk, a, b, c, d, k _ _ e, f⟩
theorem StR.grow {h' : Heap} {tk : Nat} (r : StR sc σ own ow₀ oa s₀ env s) (k : Keeps s.heap h') : StR sc σ own ow₀ oa s₀ env { s with heap := h', toks := tk } := by
  obtain ⟨m, cm, x, o, ww, h⟩ := r.ex
  exact ⟨m, cm, incall_grow x k, o.keeps k, ww.keeps k, fun y d e => let ⟨v, a, b⟩ := h y d e; ⟨v, a, b.keeps k⟩⟩
theorem StR.srep (r : StR sc σ own ow₀ oa s₀ env s) : SRep sc σ (oa ++ ow₀) env s.heap := fun y d e => by
  obtain ⟨m, cm, x, o, ww, h⟩ := r.ex
  obtain ⟨v, a, b⟩ := h y d e
  refine ⟨v, ?_, b⟩
  rcases a with ⟨a1, a2⟩ | ⟨a1, a2, a3⟩
  · exact .inl ⟨a1, m, x.toInCall.ns, a2⟩
  · obtain ⟨c, hc⟩ := Option.isSome_iff_exists.mp a2
    exact .inr ⟨.inl a1, c, hc, a3 ▸ x.cell _ _ hc⟩
theorem StR.keep (r : StR sc σ own ow₀ oa s₀ env s) : Keeps s₀.heap s.heap := by
  obtain ⟨m, cm, x, o, ww, h⟩ := r.ex
  exact x.toInCall.keep
theorem StR.owok (r : StR sc σ own ow₀ oa s₀ env s) : OwOk (oa ++ ow₀) s.heap := by
  obtain ⟨m, cm, x, o, ww, h⟩ := r.ex
  intro a ha
  rcases List.mem_append.mp ha with h1 | h1
  · cases own with
    | none => rw [show oa = [] from o] at h1; cases h1
    | some p =>
      obtain ⟨ad, vs, kk, rfl, _, _, _, e, _⟩ := o
      rw [List.mem_singleton.mp h1]
      exact ⟨_, e⟩
  · exact ww a h1
theorem StR.locals (r : StR sc σ own ow₀ oa s₀ env s) : ∃ o, s.heap.get? env.locals = some o := by
  obtain ⟨m, cm, x, o, ww, h⟩ := r.ex
  obtain ⟨ob, _, _, e, _⟩ := x.toInCall.ns
  exact ⟨ob, e⟩
theorem StR.cells (r : StR sc σ own ow₀ oa s₀ env s) : ∀ y c, env.cells.lookup y = some c → ∃ o, s.heap.get? c = some o := by
  obtain ⟨m, cm, x, o, ww, h⟩ := r.ex
  intro y c hc
  obtain ⟨ob, e, _⟩ := x.cell y c hc
  exact ⟨ob, e⟩
def Sub (σ' σ : Sto) : Prop := ∀ x d, σ'.lookup x = some d → σ.lookup x = some d
theorem StR.sub {σ' : Sto} (r : StR sc σ own ow₀ oa s₀ env s) (h : Sub σ' σ) : StR sc σ' own ow₀ oa s₀ env s := by
  obtain ⟨m, cm, x, o, ww, hh⟩ := r.ex
  exact ⟨m, cm, x, o, ww, fun y d e => hh y d (h y d e)⟩

theorem ns_not_seq {h h' : Heap} {L : Addr} {m : Str → Option Value} {ow : List Addr} (hn : h.Ns L m) (hs : Heap.SameBut L h h') : SeqKeep ow h h' := by
  obtain ⟨o, es, ep, e, hd, _⟩ := hn
  refine ⟨fun b c vs k _ e2 => ?_⟩
  by_cases hb : b = L
  · subst hb; rw [e] at e2; cases e2; cases hd
  · exact (hs.2 b hb).trans e2
theorem cell_not_seq {h h' : Heap} {L : Addr} {v : Option Value} {ow : List Addr} (hn : h.IsCell L v) (hs : Heap.SameBut L h h') : SeqKeep ow h h' := by
  obtain ⟨o, e, hd⟩ := hn
  refine ⟨fun b c vs k _ e2 => ?_⟩
  by_cases hb : b = L
  · subst hb; rw [e] at e2; cases e2; cases hd
  · exact (hs.2 b hb).trans e2

/-- the name may be stored: it is the frame's own, and not the owned list's -/
structure Storable (sc : Names) (own : Option (Str × List Int)) (x : Str) : Prop where
  kind : sc.lookup x = some .local ∨ sc.lookup x = some .cell
  apart : ∀ p, own = some p → x ≠ p.1

theorem StR.store {M : Model} {A : Around} {x : Str} {v : Value} {d : V} {Q : Unit → Shared → Prop} (he : EnvFor sc env) (r : StR sc σ own ow₀ oa s₀ env s) (rv : Rep (oa ++ ow₀) s.heap v d) (hx : Storable sc own x)
    (hc : sc.lookup x = some .cell → (env.cells.lookup x).isSome = true)
    (hQ : ∀ h' tk, Kb env oa s.heap h' → StR sc ((x, d) :: σ) own ow₀ oa s₀ env { s with heap := h', toks := tk } → Q () { s with heap := h', toks := tk }) :
    wpAny M A (storeName env x v) Q (fun _ _ => False) s := by
  obtain ⟨m, cm, ic, o, ww, h⟩ := r.ex
  have hfresh := ic.toInCall.fresh
  rcases hx.kind with hk | hk
  · refine wpAny_storeName_local (by rw [he.kindOf]; exact hk) ic.toInCall.ns (fun h' hn' hs' => ?_) (by rw [he.kind]; rfl)
    have sk : SeqKeep (oa ++ ow₀) s.heap h' := ns_not_seq ic.toInCall.ns hs'
    refine hQ h' (s.toks + 1) (fun b o e h1 _ _ => (hs'.2 b h1).trans e) ⟨_, cm, ⟨⟨?_, hn', fun b o' e => ?_, hfresh⟩, fun k c hc => ?_, ic.apart, ic.above⟩, ?_, (fun b hb => ?_), fun y dd e => ?_⟩
    · obtain ⟨h1, t1, e⟩ := ic.toInCall.same
      exact ⟨h', _, by rw [e]⟩
    · exact hs'.extBut b o' (Nat.ne_of_lt (Nat.lt_of_lt_of_le (Heap.lt_size e) hfresh)) (ic.toInCall.keep b o' e)
    · exact (ic.cell k c hc).sameBut hs' (Nat.ne_of_gt (ic.above k c (mem_of_lookup hc)))
    · cases own with
      | none => exact o
      | some p =>
        obtain ⟨ad, vs, kk, a1, a2, a3, a4, a5, a6⟩ := o
        refine ⟨ad, vs, kk, a1, a2, ?_, a4, ?_, a6⟩
        · exact (if_neg (fun e => hx.apart p rfl e.symm)).trans a3
        · obtain ⟨ob, _, _, eL, hd, _⟩ := ic.toInCall.ns
          exact (hs'.2 ad (fun e => by rw [e, eL] at a5; cases a5; cases hd)).trans a5
    · by_cases hbL : b = env.locals
      · obtain ⟨ob, _, _, eL, _⟩ := hn'
        exact ⟨ob, hbL ▸ eL⟩
      · obtain ⟨ob, eb⟩ := ww b hb
        exact ⟨ob, (hs'.2 b hbL).trans eb⟩
    · rw [List.lookup_cons] at e
      by_cases hyx : y = x
      · subst hyx
        simp only [beq_self_eq_true] at e
        cases e
        exact ⟨v, .inl ⟨hk, if_pos rfl⟩, rv.mono sk fun _ _ _ z => z⟩
      · have : (y == x) = false := by simpa using hyx
        rw [this] at e
        obtain ⟨w, a, b⟩ := h y dd e
        refine ⟨w, ?_, b.mono sk fun _ _ _ z => z⟩
        rcases a with ⟨z1, z2⟩ | z
        · exact .inl ⟨z1, (if_neg hyx).trans z2⟩
        · exact .inr z
  · obtain ⟨c, hcc⟩ := Option.isSome_iff_exists.mp (hc hk)
    have hcell := ic.cell x c hcc
    have hLc := ic.above x c (mem_of_lookup hcc)
    refine wpAny_storeName_cell he.kind (by rw [he.kindOf]; exact hk) hcc hcell fun h' hc' hs' => ?_
    have sk : SeqKeep (oa ++ ow₀) s.heap h' := cell_not_seq hcell hs'
    refine hQ h' s.toks (fun b o e _ h2 _ => (hs'.2 b (h2 x c hcc)).trans e) ⟨m, (fun y => if y = x then some v else cm y), ⟨⟨?_, ic.toInCall.ns.sameBut hs' (Nat.ne_of_lt hLc), fun b o' e => ?_, hfresh⟩, fun k c' hk' => ?_, ic.apart, ic.above⟩, ?_, (fun b hb => ?_), fun y dd e => ?_⟩
    · obtain ⟨h1, t1, e⟩ := ic.toInCall.same
      exact ⟨h', _, by rw [e]⟩
    · exact hs'.extBut b o' (Nat.ne_of_lt (Nat.lt_trans (Nat.lt_of_lt_of_le (Heap.lt_size e) hfresh) hLc)) (ic.toInCall.keep b o' e)
    · by_cases hkn : k = x
      · subst hkn
        rw [hcc] at hk'; cases hk'
        simpa using hc'
      · rw [if_neg hkn]
        exact (ic.cell k c' hk').sameBut hs' fun e => hkn (name_of_addr ic.apart (mem_of_lookup hk') (e ▸ mem_of_lookup hcc))
    · cases own with
      | none => exact o
      | some p =>
        obtain ⟨ad, vs, kk, a1, a2, a3, a4, a5, a6⟩ := o
        refine ⟨ad, vs, kk, a1, a2, a3, a4, ?_, a6⟩
        obtain ⟨ob, eL, hd⟩ := hcell
        exact (hs'.2 ad (fun e => by rw [e, eL] at a5; cases a5; cases hd)).trans a5
    · by_cases hbL : b = c
      · obtain ⟨ob, eL, _⟩ := hc'
        exact ⟨ob, hbL ▸ eL⟩
      · obtain ⟨ob, eb⟩ := ww b hb
        exact ⟨ob, (hs'.2 b hbL).trans eb⟩
    · rw [List.lookup_cons] at e
      by_cases hyx : y = x
      · subst hyx
        simp only [beq_self_eq_true] at e
        cases e
        exact ⟨v, .inr ⟨hk, hc hk, if_pos rfl⟩, rv.mono sk fun _ _ _ z => z⟩
      · have : (y == x) = false := by simpa using hyx
        rw [this] at e
        obtain ⟨w, a, b⟩ := h y dd e
        refine ⟨w, ?_, b.mono sk fun _ _ _ z => z⟩
        rcases a with z | ⟨z1, z2, z3⟩
        · exact .inl z
        · exact .inr ⟨z1, z2, (if_neg hyx).trans z3⟩
end
-- PL5

def vis (σ : Sto) : Option (Str × List Int) → Sto
  | none => σ
  | some (x, ns) => (x, .ints ns) :: σ
def V.scal : V → Bool
  | .none => true
  | .bool _ => true
  | .int _ => true
  | _ => false
theorem Rep.scal {ow ow' : List Addr} {h h' : Heap} {v : Value} {d : V} (r : Rep ow h v d) (hs : d.scal = true) : Rep ow' h' v d := by
  cases r with
  | none => exact .none
  | bool => exact .bool _
  | int => exact .int _ _
  | _ => cases hs
theorem ints_reps {ow : List Addr} {h : Heap} : ∀ {vs : List Value} {ns : List Int}, IntsAre vs ns → Reps ow h vs (ns.map V.int)
  | _, _, .nil => .nil
  | _, _, .cons n t r => .cons (.int n t) (ints_reps r)
theorem reps_ints {ow : List Addr} {h : Heap} : ∀ {vs : List Value} {ns : List Int}, Reps ow h vs (ns.map V.int) → IntsAre vs ns
  | _, [], .nil => .nil
  | _, _ :: _, .cons (.int _ t) r => .cons _ t (reps_ints r)

section
variable {C : Cx} {n : Nat} {sc : Names} {σ σ' : Sto} {own own' : Option (Str × List Int)}

theorem StR.srepV {ow₀ oa : List Addr} {s₀ s : Shared} {env : Env} (r : StR sc σ own ow₀ oa s₀ env s) : SRep sc (vis σ own) [] env s.heap := by
  have base : SRep sc σ [] env s.heap := fun y d e => let ⟨v, a, b⟩ := r.srep y d e; ⟨v, a, b.drop⟩
  cases own with
  | none => exact base
  | some p =>
    obtain ⟨x, ns⟩ := p
    intro y d e
    simp only [vis, List.lookup_cons] at e
    by_cases hyx : y = x
    · subst hyx
      simp only [beq_self_eq_true] at e
      cases e
      obtain ⟨m, cm, ic, ⟨ad, vs, k, _, a2, a3, _, a5, a6, _⟩, _⟩ := r.ex
      exact ⟨_, .inl ⟨a2, m, ic.toInCall.ns, a3⟩, .list a5 List.not_mem_nil (ints_reps a6)⟩
    · have : (y == x) = false := by simpa using hyx
      rw [this] at e
      exact base y d e

def EvOB (C : Cx) (n : Nat) (sc : Names) (σ : Sto) (own : Option (Str × List Int)) (e : Expr) (d : V) : Prop :=
  ∀ (A : Around) (env : Env) (s₀ s : Shared) (ow₀ oa : List Addr), Room A n → EnvFor sc env → C.G s₀.heap → StR sc σ own ow₀ oa s₀ env s →
    ∀ Q : Value → Shared → Prop, (∀ v h' tk, Keeps s.heap h' → Rep (oa ++ ow₀) h' v d → Q v { s with heap := h', toks := tk }) → wpAny C.M A (eval e env) Q (fun _ _ => False) s
@[irreducible] def EvO (C : Cx) (n : Nat) (sc : Names) (σ : Sto) (own : Option (Str × List Int)) (e : Expr) (d : V) : Prop := EvOB C n sc σ own e d
theorem EvO.run {C : Cx} {n : Nat} {sc : Names} {σ : Sto} {own : Option (Str × List Int)} {e : Expr} {d : V} (h : EvO C n sc σ own e d) : EvOB C n sc σ own e d := by unfold EvO at h; exact h
def EtOB (C : Cx) (n : Nat) (sc : Names) (σ : Sto) (own : Option (Str × List Int)) (e : Expr) (b : Bool) : Prop :=
  ∀ (A : Around) (env : Env) (s₀ s : Shared) (ow₀ oa : List Addr), Room A n → EnvFor sc env → C.G s₀.heap → StR sc σ own ow₀ oa s₀ env s →
    ∀ Q : Bool → Shared → Prop, (∀ h' tk, Keeps s.heap h' → Q b { s with heap := h', toks := tk }) → wpAny C.M A (isTrue e env (eval e env)) Q (fun _ _ => False) s
@[irreducible] def EtO (C : Cx) (n : Nat) (sc : Names) (σ : Sto) (own : Option (Str × List Int)) (e : Expr) (b : Bool) : Prop := EtOB C n sc σ own e b
theorem EtO.run {C : Cx} {n : Nat} {sc : Names} {σ : Sto} {own : Option (Str × List Int)} {e : Expr} {b : Bool} (h : EtO C n sc σ own e b) : EtOB C n sc σ own e b := by unfold EtO at h; exact h
theorem EvO.sh {e : Expr} {d : V} (ok : C.Ok) (h : Ev C n sc σ e d) : EvO C n sc σ own e d := by with_unfolding_all exact fun A env s₀ s ow₀ oa rm he g r Q hQ => h.run A env s _ rm he (ok.mono r.keep g) r.owok r.srep Q hQ
theorem EvO.vis {e : Expr} {d : V} (ok : C.Ok) (h : Ev C n sc (vis σ own) e d) (hs : d.scal = true := by with_unfolding_all rfl) : EvO C n sc σ own e d := by with_unfolding_all exact fun A env s₀ s ow₀ oa rm he g r Q hQ => h.run A env s [] rm he (ok.mono r.keep g) (fun _ ha => nomatch ha) r.srepV Q fun v h' tk k rv => hQ v h' tk k (rv.scal hs)
theorem EtO.vis {e : Expr} {d : Bool} (ok : C.Ok) (h : Et C n sc (vis σ own) e d) : EtO C n sc σ own e d := by with_unfolding_all exact fun A env s₀ s ow₀ oa rm he g r Q hQ => h.run A env s [] rm he (ok.mono r.keep g) (fun _ ha => nomatch ha) r.srepV Q hQ

theorem FlR.after {ow₀ oa oa1 : List Addr} {s₀ s s1 s2 : Shared} {env : Env} {fl : Fl} {f : Flow} (h1 : ∃ h tk, s1 = { s with heap := h, toks := tk }) (k1 : Kb env oa s.heap s1.heap) (o1 : OaOk oa oa1 s.heap)
    (hL : ∃ o, s1.heap.get? env.locals = some o) (hc : ∀ x c, env.cells.lookup x = some c → ∃ o, s1.heap.get? c = some o) (r : FlR sc ow₀ oa1 s₀ env s1 fl f s2) : FlR sc ow₀ oa s₀ env s fl f s2 := by
  obtain ⟨⟨h, tk, rfl⟩, kb, hf⟩ := r
  obtain ⟨hh, tt, rfl⟩ := h1
  refine ⟨⟨h, tk, rfl⟩, k1.trans o1 kb, ?_⟩
  cases fl with
  | next σ own =>
    obtain ⟨rfl, oa', o', st⟩ := hf
    exact ⟨rfl, oa', o1.trans k1 o' hL hc, st⟩
  | ret d => exact hf

theorem Ex.nil : Ex C n sc σ own [] (.next σ own) := by
  with_unfolding_all intro A env s₀ s ow₀ oa rm he g r Q hQ
  exact wpAny_execs_nil (hQ _ _ ⟨⟨s.heap, s.toks, rfl⟩, Kb.refl _ _ _, rfl, oa, OaOk.refl _ _, r⟩)
theorem Ex.seq {st : Stmt} {rest : List Stmt} {fl : Fl} (h1 : Ex1 C n sc σ own st (.next σ' own')) (h2 : Ex C n sc σ' own' rest fl) : Ex C n sc σ own (st :: rest) fl := by
  with_unfolding_all intro A env s₀ s ow₀ oa rm he g r Q hQ
  refine wpAny_execs_cons (h1.run A env s₀ s ow₀ oa rm he g r _ fun f s1 hf => ?_)
  obtain ⟨same, kb, rfl, oa', o', st'⟩ := hf
  exact h2.run A env s₀ s1 ow₀ oa' rm he g st' Q fun f2 s2 hf2 => hQ f2 s2 (hf2.after same kb o' st'.locals st'.cells)
theorem Ex.retS {st : Stmt} {rest : List Stmt} {d : V} (h1 : Ex1 C n sc σ own st (.ret d)) : Ex C n sc σ own (st :: rest) (.ret d) := by
  with_unfolding_all intro A env s₀ s ow₀ oa rm he g r Q hQ
  refine wpAny_execs_cons (h1.run A env s₀ s ow₀ oa rm he g r _ fun f s1 hf => ?_)
  have hf' := hf
  obtain ⟨same, kb, v, rfl, k, rv⟩ := hf
  exact hQ _ _ hf'
theorem Ex.sub {ss : List Stmt} {fl : Fl} (h : Ex C n sc σ' own ss fl) (hs : Sub σ' σ) : Ex C n sc σ own ss fl := by with_unfolding_all exact fun A env s₀ s ow₀ oa rm he g r => h.run A env s₀ s ow₀ oa rm he g (r.sub hs)
theorem Ex.post {ss : List Stmt} {σ1 : Sto} (h : Ex C n sc σ own ss (.next σ1 own')) (hs : Sub σ' σ1) : Ex C n sc σ own ss (.next σ' own') := by
  with_unfolding_all intro A env s₀ s ow₀ oa rm he g r Q hQ
  refine h.run A env s₀ s ow₀ oa rm he g r Q fun f s1 hf => hQ f s1 ?_
  obtain ⟨same, kb, rfl, oa', o', st⟩ := hf
  exact ⟨same, kb, rfl, oa', o', st.sub hs⟩
theorem Ex1.post {ss : Stmt} {σ1 : Sto} (h : Ex1 C n sc σ own ss (.next σ1 own')) (hs : Sub σ' σ1) : Ex1 C n sc σ own ss (.next σ' own') := by
  with_unfolding_all intro A env s₀ s ow₀ oa rm he g r Q hQ
  refine h.run A env s₀ s ow₀ oa rm he g r Q fun f s1 hf => hQ f s1 ?_
  obtain ⟨same, kb, rfl, oa', o', st⟩ := hf
  exact ⟨same, kb, rfl, oa', o', st.sub hs⟩
theorem Ex.le {k : Nat} {ss : List Stmt} {fl : Fl} (h : Ex C k sc σ own ss fl) (hk : k ≤ n) : Ex C n sc σ own ss fl := by with_unfolding_all exact fun A env s₀ s ow₀ oa rm => h.run A env s₀ s ow₀ oa (rm.le hk)

/-- the owned list is let be: from here on it is a value like others -/
theorem Ex.freeze {x : Str} {ns : List Int} {ss : List Stmt} {fl : Fl} (h : Ex C n sc ((x, .ints ns) :: σ) none ss fl) : Ex C n sc σ (some (x, ns)) ss fl := by
  with_unfolding_all intro A env s₀ s ow₀ oa rm he g r Q hQ
  have st : StR sc ((x, .ints ns) :: σ) none ow₀ [] s₀ env s := by
    obtain ⟨m, cm, ic, ⟨ad, vs, k, a1, a2, a3, a4, a5, a6, a7⟩, ww, hh⟩ := r.ex
    refine ⟨m, cm, ic, rfl, ww, fun y d e => ?_⟩
    rw [List.lookup_cons] at e
    by_cases hyx : y = x
    · subst hyx
      simp only [beq_self_eq_true] at e
      cases e
      exact ⟨_, .inl ⟨a2, a3⟩, .list a5 (fun hm => a7 (by simpa using hm)) (ints_reps a6)⟩
    · have : (y == x) = false := by simpa using hyx
      rw [this] at e
      obtain ⟨v, a, b⟩ := hh y d e
      exact ⟨v, a, b.mono (Keeps.refl _).seq fun _ _ _ hn hm => hn (List.mem_append_right _ (by simpa using hm))⟩
  refine h.run A env s₀ s ow₀ [] rm he g st Q fun f s1 hf => hQ f s1 ?_
  exact hf.after ⟨s.heap, s.toks, rfl⟩ (Kb.refl _ _ _) (fun b hb => absurd hb List.not_mem_nil) r.locals r.cells

-- names
def CellsOf (sc : Names) (env : Env) : Prop := ∀ x, sc.lookup x = some .cell → (env.cells.lookup x).isSome = true
theorem Ex1.assign {x : Str} {e : Expr} {xp pos : Pos} {d : V} (he : EvO C n sc σ own e d) (hx : Storable sc own x)
    (hsw : ∀ env, swapsWith e (some (.Name x xp)) pos.line env = pure false := by intro _; with_unfolding_all rfl) : Ex1 C n sc σ own (.Assign [.Name x xp] e pos) (.next ((x, d) :: σ) own) := by
  with_unfolding_all intro A env s₀ s ow₀ oa rm hen g r Q hQ
  refine wpAny_Assign_Name (he.run A env s₀ s ow₀ oa rm hen g r _ fun v h' tk k rv => ?_) (hsw env)
  refine (r.grow (tk := tk) k).store hen rv hx (hen.cells x) fun h2 tk2 kb st => hQ _ _ ?_
  exact ⟨⟨h2, tk2, rfl⟩, k.kb.trans (OaOk.refl _ _) kb, rfl, oa, OaOk.refl _ _, st⟩
theorem Ex1.aug {x : Str} {op : Operator} {e : Expr} {xp pos : Pos} {a b d : V} (ok : C.Ok) (hl : σ.lookup x = some a) (he : EvO C n sc σ own e b) (hop : Iop C n op a b d) (hx : Storable sc own x) (hk : sc.lookup x = some .local) :
    Ex1 C n sc σ own (.AugAssign (.Name x xp) op e pos) (.next ((x, d) :: σ) own) := by
  with_unfolding_all intro A env s₀ s ow₀ oa rm hen g r Q hQ
  obtain ⟨v0, hv0, rv0⟩ := r.srep x a hl
  have ld : ∀ Q' : Value → Shared → Prop, Q' v0 s → wpAny C.M A (loadName env x) Q' (fun _ _ => False) s := fun Q' h => by
    rcases hv0 with ⟨_, m, a2, a3⟩ | ⟨a1, c, a2, a3⟩
    · exact wpAny_loadName_local hen.kind (by rw [hen.kindOf]; exact hk) a2 a3 h
    · rw [hk] at a1; rcases a1 with a1 | a1 <;> cases a1
  refine wpAny_AugAssign_Name (ld _ ?_)
  refine he.run A env s₀ s ow₀ oa rm hen g r _ fun v h' tk k rv => ?_
  have r1 := r.grow (tk := tk) k
  refine hop.run A _ (oa ++ ow₀) _ _ rm (ok.mono k (ok.mono r.keep g)) r1.owok (rv0.keeps k) rv _ fun v2 h2 tk2 k2 rv2 => ?_
  refine (r1.grow (tk := tk2) k2).store hen rv2 hx (fun e => by rw [hk] at e; cases e) fun h3 tk3 kb st => hQ _ _ ?_
  exact ⟨⟨h3, tk3, rfl⟩, (k.trans k2).kb.trans (OaOk.refl _ _) kb, rfl, oa, OaOk.refl _ _, st⟩
theorem Ex1.ite {t : Expr} {x y : List Stmt} {pos : Pos} {b : Bool} {fl : Fl} (ht : EtO C n sc σ own t b) (hx : b = true → Ex C n sc σ own x fl) (hy : b = false → Ex C n sc σ own y fl) : Ex1 C n sc σ own (.If t x y pos) fl := by
  with_unfolding_all intro A env s₀ s ow₀ oa rm hen g r Q hQ
  refine wpAny_If (ht.run A env s₀ s ow₀ oa rm hen g r _ fun h' tk k => ?_)
  have r1 := r.grow (tk := tk) k
  have fin : ∀ f s2, FlR sc ow₀ oa s₀ env { s with heap := h', toks := tk } fl f s2 → Q f s2 := fun f s2 hf => hQ f s2 (hf.after ⟨h', tk, rfl⟩ k.kb (OaOk.refl _ _) r1.locals r1.cells)
  cases b with
  | true => exact (hx rfl).run A env s₀ _ ow₀ oa rm hen g r1 Q fin
  | false => exact (hy rfl).run A env s₀ _ ow₀ oa rm hen g r1 Q fin
theorem Ex1.ret {e : Expr} {pos : Pos} {d : V} (he : EvO C n sc σ own e d) : Ex1 C n sc σ own (.Return (some e) pos) (.ret d) := by
  with_unfolding_all intro A env s₀ s ow₀ oa rm hen g r Q hQ
  refine wpAny_Return_some (he.run A env s₀ s ow₀ oa rm hen g r _ fun v h' tk k rv => hQ _ _ ?_)
  exact ⟨⟨h', tk, rfl⟩, k.kb, v, rfl, Keeps.trans r.keep k, rv.mono (Keeps.refl _).seq fun _ _ _ hn hm => hn (List.mem_append_right _ hm)⟩
/-- with an owned list: the value may hang on it -/
theorem Ex.retV {e : Expr} {pos : Pos} {d : V} {rest : List Stmt} {x : Str} {ns : List Int} (ok : C.Ok) (he : Ev C n sc ((x, .ints ns) :: σ) e d) : Ex C n sc σ (some (x, ns)) (.Return (some e) pos :: rest) (.ret d) :=
  .freeze (.retS (.ret (.sh ok he)))

-- the owned list's own statements
theorem Ex1.append {x : Str} {e : Expr} {ns : List Int} {i : Int} {xp apos cpos pos : Pos} (he : EvO C n sc σ (some (x, ns)) e (.int i)) (hz : ns.length ≤ 1000000) (hn : notStar e = true := by with_unfolding_all rfl)
    (hbase : ∀ env, attributeBase (.Name x xp) "append" env (eval (.Name x xp) env) = eval (.Name x xp) env := by intro _; with_unfolding_all rfl) (hline : (apos.endLine == cpos.line) = true := by with_unfolding_all rfl)
    (hsw : ∀ env, swapsWith (.Call (.Attribute (.Name x xp) "append" apos) [e] [] cpos) none pos.line env = pure false := by intro _; with_unfolding_all rfl) (hd : (x == ("__debug__" : Str)) = false := by decide +kernel) :
    Ex1 C n sc σ (some (x, ns)) (.Expr (.Call (.Attribute (.Name x xp) "append" apos) [e] [] cpos) pos) (.next σ (some (x, ns ++ [i]))) := by
  with_unfolding_all intro A env s₀ s ow₀ oa rm hen g r Q hQ
  obtain ⟨m, cm, ic, ⟨ad, vs, k, rfl, a2, a3, a4, a5, a6, a7⟩, ww, hh⟩ := id r.ex
  have ht : backTo cpos (starEach [e] env) = [(false, eval e env)] := by rw [starEach_cons hn]; rfl
  refine wpAny_Expr_any (wpAny_Call_append (hbase env) (by rw [ht]; rfl) hline ht ?_) (by simp [interactive, hen.kind]) (hsw env)
  refine wpAny_Name (wpAny_loadName_local hen.kind (by rw [hen.kindOf]; exact a2) ic.toInCall.ns a3 ?_) hd
  refine ⟨ad, vs.toArray, rfl, ⟨_, k, a5, rfl, rfl, rfl⟩, ?_⟩
  refine he.run A env s₀ s ow₀ [ad] rm hen g r _ fun v h' tk kk rv => ?_
  cases rv with
  | int _ t =>
    refine wpAny_list_append_plain ⟨k, kk _ _ a5⟩ (fun h2 hp hs => hQ _ _ ?_) (by rw [List.size_toArray, a6.length, sizeLine_eq]; omega)
    have ic1 := incall_grow (tk := tk) ic kk
    obtain ⟨k2, hp⟩ := hp
    have hadL : ad ≠ env.locals := fun e => by obtain ⟨ob, _, _, eL, hdL, _⟩ := ic.toInCall.ns; rw [e, eL] at a5; cases a5; cases hdL
    have hs' : ∀ b o', b ≠ ad → h'.get? b = some o' → h2.get? b = some o' := fun b o' hb e => (hs.2 b hb).trans e
    refine ⟨⟨h2, tk, rfl⟩, fun b o' e h1 _ h3 => hs' b o' (by simpa using h3) (kk b o' e), rfl, [ad], fun _ hb => .inl hb, m, cm, ⟨⟨⟨h2, tk, ?_⟩, ?_, fun b o' e => ?_, ic.toInCall.fresh⟩, fun y c hc => ?_, ic.apart, ic.above⟩, ⟨ad, vs ++ [.int i t], k2, rfl, a2, a3, a4, ?_, ?_, a7⟩, (fun b hb => ?_), fun y d e => ?_⟩
    · obtain ⟨h1, t1, e⟩ := ic.toInCall.same; rw [e]
    · exact ic1.toInCall.ns.sameBut hs (Ne.symm hadL)
    · refine hs' b o' (fun eb => ?_) (ic1.toInCall.keep b o' e)
      rw [eb, a4] at e; cases e
    · refine (ic1.cell y c hc).sameBut hs fun eb => ?_
      obtain ⟨ob, e1, e2⟩ := ic.cell y c hc
      rw [eb, a5] at e1; cases e1; cases e2
    · simpa using hp
    · have : ∀ {vs : List Value} {ns : List Int}, IntsAre vs ns → IntsAre (vs ++ [.int i t]) (ns ++ [i]) := fun h => by
        induction h with
        | nil => exact .cons _ _ .nil
        | cons a b _ ih => exact .cons a b ih
      exact this a6
    · obtain ⟨ob, eb⟩ := ww b hb
      exact ⟨ob, hs' b ob (fun e => a7 (e ▸ hb)) (kk b ob eb)⟩
    · obtain ⟨v, a, b⟩ := hh y d e
      exact ⟨v, a, b.mono ⟨fun b c ws kx hb e => hs' b _ (fun eb => hb (by simp [eb])) (kk _ _ e)⟩ fun _ _ _ z => z⟩
end
-- PL6

section
variable {C : Cx} {n : Nat} {sc : Names} {σ σ' : Sto} {own own' : Option (Str × List Int)}

theorem call_raw {f a0 : Expr} {rest : List Expr} {pos : Pos} {fv : V} {ds : List V} (ok : C.Ok) (hf : Ev C n sc σ f fv) (ha : Evs C n sc σ (a0 :: rest) ds)
    (hfn : FnObj C fv) {A : Around} {env : Env} {s : Shared} {ow : List Addr} (rm : Room A n) (hen : EnvFor sc env) (g : C.G s.heap) (o : OwOk ow s.heap) (hs : SRep sc σ ow env s.heap) {Q : Value → Shared → Prop}
    (hc : ∀ v vs h' tk, Keeps s.heap h' → Rep ow h' v fv → Reps ow h' vs ds → wpAny C.M A (PySem.call v vs) Q (fun _ _ => False) { s with heap := h', toks := tk })
    (hst : (a0 :: rest).all notStar = true := by with_unfolding_all rfl)
    (he : ∀ env, eval (.Call f (a0 :: rest) [] pos) env = (do callWith pos (← eval f env) [] (backTo pos (starEach (a0 :: rest) env)) (backToKw pos (keywordEach [] env))) := by intro _; with_unfolding_all rfl) :
    wpAny C.M A (eval (.Call f (a0 :: rest) [] pos) env) Q (fun _ _ => False) s := by
  refine Call_ (hf.run A env s ow rm hen g o hs _ fun v h' tk k1 rv => ?_) (he env)
  have g1 := ok.mono k1 g
  have o1 := o.keeps k1
  have hs1 := hs.keeps k1
  simp only [List.all_cons, Bool.and_eq_true] at hst
  refine callWith_of (P := fun h => Keeps h' h) ?_ (fun h hk2 => keeper_of (rv.keeps hk2) (ok.mono hk2 g1) hfn _) ?_
  · rw [any_backTo (by simp [hst.1, hst.2])]; rfl
  have h1 : backTo pos (starEach (a0 :: rest) env) = (false, eval a0 env) :: backTo pos (starEach rest env) := by rw [starEach_cons hst.1]; rfl
  have key := ha.run A env { s with heap := h', toks := tk } ow pos rm hen g1 o1 hs1 (fun vs s₁ => Keeps h' s₁.heap ∧ wpAny C.M A (PySem.call v ([] ++ vs)) Q (fun _ _ => False) s₁) (fun vs h2 tk2 k2 rvs => ⟨k2, hc v vs h2 tk2 (k1.trans k2) (rv.keeps k2) rvs⟩)
  rw [h1] at key ⊢
  exact evalArgs_plain key

-- what a loop goes over
def FpOk (ow : List Addr) (h₁ hm h : Heap) (fp : List Addr) : Prop :=
  ∀ b ∈ fp, (h₁.get? b = none ∧ ∃ o, h.get? b = some o) ∨ (b ∉ ow ∧ ∃ c vs k, hm.get? b = some { cls := .type c, data := .seq vs k })
structure ItR (C : Cx) (A : Around) (ow : List Addr) (ds : List V) (h₁ h : Heap) (it : Value) : Prop where
  ex : ∃ I fp wr P St hm, it = .ref I ∧ Walks C.prog C.w A I fp wr ds.length P St ∧ St 0 h ∧ Keeps h₁ hm ∧ Keeps hm h ∧ (∀ b ∈ wr, hm.get? b = none ∧ ∃ o, h.get? b = some o) ∧
    FpOk ow h₁ hm h fp ∧ (∀ i h, St i h → ∀ b ∈ wr, ∃ o, h.get? b = some o) ∧ (∀ i v, P i v → i < ds.length → ∃ d, ds[i]? = some d ∧ Rep ow hm v d)
structure ItR2 (C : Cx) (A : Around) (ow : List Addr) (ds : List (V × V)) (h₁ h : Heap) (it : Value) : Prop where
  ex : ∃ I fp wr P St Mid hm, it = .ref I ∧ WalksT C.prog C.w A I fp wr ds.length P St Mid ∧ St 0 h ∧ Keeps h₁ hm ∧ Keeps hm h ∧ (∀ b ∈ wr, hm.get? b = none ∧ ∃ o, h.get? b = some o) ∧
    FpOk ow h₁ hm h fp ∧ (∀ i h, St i h → ∀ b ∈ wr, ∃ o, h.get? b = some o) ∧ (∀ i T h, Mid i T h → ∀ b ∈ wr, ∃ o, h.get? b = some o) ∧ (∀ i vals, P i vals → i < ds.length → ∃ v0 v1 d0 d1, vals = #[v0, v1] ∧ ds[i]? = some (d0, d1) ∧ Rep ow hm v0 d0 ∧ Rep ow hm v1 d1)

def EvItB (C : Cx) (n : Nat) (sc : Names) (σ : Sto) (e : Expr) (ds : List V) : Prop :=
  ∀ (A : Around) (env : Env) (s : Shared) (ow : List Addr), Room A n → EnvFor sc env → C.G s.heap → OwOk ow s.heap → SRep sc σ ow env s.heap →
    ∀ Q : Value → Shared → Prop, (∀ it h' tk, Keeps s.heap h' → ItR C A ow ds s.heap h' it → Q it { s with heap := h', toks := tk }) →
      wpAny C.M A (eval e env) (fun x s₁ => wpAny C.M A (pyIter x) Q (fun _ _ => False) s₁) (fun _ _ => False) s
@[irreducible] def EvIt (C : Cx) (n : Nat) (sc : Names) (σ : Sto) (e : Expr) (ds : List V) : Prop := EvItB C n sc σ e ds
theorem EvIt.run {C : Cx} {n : Nat} {sc : Names} {σ : Sto} {e : Expr} {ds : List V} (h : EvIt C n sc σ e ds) : EvItB C n sc σ e ds := by unfold EvIt at h; exact h
def EvIt2B (C : Cx) (n : Nat) (sc : Names) (σ : Sto) (e : Expr) (ds : List (V × V)) : Prop :=
  ∀ (A : Around) (env : Env) (s : Shared) (ow : List Addr), Room A n → EnvFor sc env → C.G s.heap → OwOk ow s.heap → SRep sc σ ow env s.heap →
    ∀ Q : Value → Shared → Prop, (∀ it h' tk, Keeps s.heap h' → ItR2 C A ow ds s.heap h' it → Q it { s with heap := h', toks := tk }) →
      wpAny C.M A (eval e env) (fun x s₁ => wpAny C.M A (pyIter x) Q (fun _ _ => False) s₁) (fun _ _ => False) s
@[irreducible] def EvIt2 (C : Cx) (n : Nat) (sc : Names) (σ : Sto) (e : Expr) (ds : List (V × V)) : Prop := EvIt2B C n sc σ e ds
theorem EvIt2.run {C : Cx} {n : Nat} {sc : Names} {σ : Sto} {e : Expr} {ds : List (V × V)} (h : EvIt2 C n sc σ e ds) : EvIt2B C n sc σ e ds := by unfold EvIt2 at h; exact h
theorem EvIt.cast {e : Expr} {ds ds' : List V} (h : EvIt C n sc σ e ds) (e' : ds = ds') : EvIt C n sc σ e ds' := e' ▸ h
theorem EvIt2.cast {e : Expr} {ds ds' : List (V × V)} (h : EvIt2 C n sc σ e ds) (e' : ds = ds') : EvIt2 C n sc σ e ds' := e' ▸ h

theorem get_size_none (h : Heap) : h.get? h.objs.size = none := by
  cases e : h.get? h.objs.size with
  | none => rfl
  | some o => exact absurd (Heap.lt_size e) (Nat.lt_irrefl _)
theorem Keeps.none {h h' : Heap} (k : Keeps h h') {a : Addr} (e : h'.get? a = none) : h.get? a = none := by
  cases e' : h.get? a with
  | none => rfl
  | some o => rw [k _ _ e'] at e; cases e

theorem EvIt.list {e : Expr} {ds : List V} (ok : C.Ok) (h : Ev C n sc σ e (.list ds)) : EvIt C n sc σ e ds := by
  with_unfolding_all intro A env s ow rm he g o hs Q hQ
  refine h.run A env s ow rm he g o hs _ fun v h' tk k rv => ?_
  cases rv with
  | list e hn r =>
    rename_i a vs kk
    refine wpAny_pyIter_list (isList_of e) ?_
    have hne : a ≠ h'.objs.size := Nat.ne_of_lt (Heap.lt_size e)
    have W := Walks.list (prog := C.prog) (w := C.w) rm.hh h'.objs.size a hne vs.toArray
    rw [show vs.toArray.size = ds.length by rw [List.size_toArray, r.length]] at W
    refine hQ _ _ _ (k.trans (keeps_push _ _)) ⟨_, _, _, _, _, h', rfl, W, ⟨⟨_, Heap.get?_push_size _ rfl, rfl, rfl⟩, (isList_of e).push _⟩, k, keeps_push _ _, fun b hb => ?_, fun b hb => ?_, (fun j hj st b hb => by rw [List.mem_singleton.mp hb]; obtain ⟨⟨o, eo, _⟩, _⟩ := st; exact ⟨o, eo⟩), fun i v hv hi => ?_⟩
    · rw [List.mem_singleton.mp hb]
      exact ⟨get_size_none _, _, Heap.get?_push_size _ rfl⟩
    · rcases List.mem_cons.mp hb with rfl | hb
      · exact .inl ⟨k.none (get_size_none _), _, Heap.get?_push_size _ rfl⟩
      · rw [List.mem_singleton.mp hb]
        exact .inr ⟨hn, _, _, _, e⟩
    · obtain ⟨d, hd, rd⟩ := r.getV (by simpa using hv)
      exact ⟨d, hd, rd⟩

theorem EvIt.tup {e : Expr} {ds : List V} (ok : C.Ok) (h : Ev C n sc σ e (.tup ds)) : EvIt C n sc σ e ds := by
  with_unfolding_all intro A env s ow rm he g o hs Q hQ
  refine h.run A env s ow rm he g o hs _ fun v h' tk k rv => ?_
  cases rv with
  | tup e hn r =>
    rename_i a vs kk
    have ht : h'.IsTuple a vs.toArray := ⟨_, e, rfl, kk, rfl⟩
    refine wpAny_pyIter_tuple ht ?_
    have hne : a ≠ h'.objs.size := Nat.ne_of_lt (Heap.lt_size e)
    have W := Walks.tuple (prog := C.prog) (w := C.w) rm.hh h'.objs.size a hne vs.toArray
    rw [show vs.toArray.size = ds.length by rw [List.size_toArray, r.length]] at W
    refine hQ _ _ _ (k.trans (keeps_push _ _)) ⟨_, _, _, _, _, h', rfl, W, ⟨⟨_, Heap.get?_push_size _ rfl, rfl, rfl⟩, ht.push _⟩, k, keeps_push _ _, fun b hb => ?_, fun b hb => ?_, (fun j hj st b hb => by rw [List.mem_singleton.mp hb]; obtain ⟨⟨o, eo, _⟩, _⟩ := st; exact ⟨o, eo⟩), fun i v hv hi => ?_⟩
    · rw [List.mem_singleton.mp hb]
      exact ⟨get_size_none _, _, Heap.get?_push_size _ rfl⟩
    · rcases List.mem_cons.mp hb with rfl | hb
      · exact .inl ⟨k.none (get_size_none _), _, Heap.get?_push_size _ rfl⟩
      · rw [List.mem_singleton.mp hb]
        exact .inr ⟨hn, _, _, _, e⟩
    · obtain ⟨d, hd, rd⟩ := r.getV (by simpa using hv)
      exact ⟨d, hd, rd⟩

def rangeV (a c : Int) (m : Nat) : List V := (List.range m).map fun i : Nat => V.int (a + (i : Int) * c)
theorem range_it {A : Around} {r : Addr} {a b c : Int} {t u v : Tok} {m : Nat} {s : Shared} {ow : List Addr} {h₁ : Heap} (rm : Room A n) (k : Keeps h₁ s.heap) (hr : IsRange s.heap r a b c t u v) (hsmall : Builtin.Range.small a b c = true) (hm : Builtin.Range.rangeSize a b c = m)
    {Q : Value → Shared → Prop} (hQ : ∀ it h' tk, Keeps s.heap h' → ItR C A ow (rangeV a c m) h₁ h' it → Q it { s with heap := h', toks := tk }) : wpAny C.M A (pyIter (.ref r)) Q (fun _ _ => False) s := by
  refine wpAny_pyIter_range hr hsmall ?_
  rw [hm]
  have W := Walks.range (prog := C.prog) (w := C.w) rm.hh s.heap.objs.size a c m
  rw [show m = (rangeV a c m).length by simp [rangeV]] at W
  refine hQ _ _ s.toks (keeps_push _ _) ⟨_, _, _, _, _, s.heap, rfl, W, ?_, k, keeps_push _ _, fun b hb => ?_, fun b hb => ?_, (fun j hj st b hb => by rw [List.mem_singleton.mp hb]; exact ⟨_, st⟩), fun i v hv hi => ?_⟩
  · have : IsRangeIter (s.heap.push { cls := .type "range_iterator", data := .fields #[rawInt a, rawInt (m : Int), rawInt c] }) s.heap.objs.size a m c := Heap.get?_push_size _ rfl
    simpa [rangeV] using this
  · rw [List.mem_singleton.mp hb]
    exact ⟨get_size_none _, _, Heap.get?_push_size _ rfl⟩
  · rw [List.mem_singleton.mp hb]
    exact .inl ⟨k.none (get_size_none _), _, Heap.get?_push_size _ rfl⟩
  · obtain ⟨t, rfl⟩ := hv
    have hi' : i < m := by simpa [rangeV] using hi
    exact ⟨.int (a + (i : Int) * c), by simp [rangeV, hi'], .int _ _⟩

theorem fitsL {x : Int} (h1 : -2000000 ≤ x) (h2 : x ≤ 2000000) : Builtin.Range.rangeFitsLong x = true := by
  simp only [Builtin.Range.rangeFitsLong, Bool.and_eq_true, decide_eq_true_eq]; lia
theorem small_up {a b : Int} (ha : -1000000 ≤ a) (ha' : a ≤ 1000000) (hb : -1000000 ≤ b) (hb' : b ≤ 1000000) : Builtin.Range.small a b 1 = true ∧ Builtin.Range.rangeSize a b 1 = ((b - a).toNat : Int) := by
  have e : Builtin.Range.rangeSize a b 1 = ((b - a).toNat : Int) := by rw [rangeSize_one]; split <;> lia
  refine ⟨?_, e⟩
  unfold Builtin.Range.small
  rw [e, fitsL (by lia) (by lia), fitsL (by lia) (by lia), fitsL (by lia) (by lia), fitsL (by lia) (by lia)]
  simp only [Bool.and_self, Bool.true_and, show (1 : Int) > 0 by decide, if_true]
  rw [fitsL (by lia) (by lia)]
  simp
theorem small_down {a b : Int} (ha : -1000000 ≤ a) (ha' : a ≤ 1000000) (hb : -1000000 ≤ b) (hb' : b ≤ 1000000) : Builtin.Range.small a b (-1) = true ∧ Builtin.Range.rangeSize a b (-1) = ((a - b).toNat : Int) := by
  have e : Builtin.Range.rangeSize a b (-1) = ((a - b).toNat : Int) := by
    unfold Builtin.Range.rangeSize
    rw [if_neg (by decide)]
    split
    · rw [show (-(-1) : Int) = 1 by decide, Int.ediv_one]; lia
    · lia
  refine ⟨?_, e⟩
  unfold Builtin.Range.small
  rw [e, fitsL (by lia) (by lia), fitsL (by lia) (by lia), fitsL (by lia) (by lia), fitsL (by lia) (by lia)]
  simp only [Bool.and_self, Bool.true_and, show ¬ ((-1 : Int) > 0) by decide, if_false]
  rw [fitsL (by lia) (by lia)]
  simp

theorem EvIt.range1 {f e : Expr} {pos : Pos} {b : Int} (ok : C.Ok) (hf : Ev C n sc σ f (.ty "range")) (he : Ev C n sc σ e (.int b)) (hb : -1000000 ≤ b) (hb' : b ≤ 1000000) (hn : notStar e = true := by with_unfolding_all rfl)
    (hev : ∀ env, eval (.Call f [e] [] pos) env = (do callWith pos (← eval f env) [] (backTo pos (starEach [e] env)) (backToKw pos (keywordEach [] env))) := by intro _; with_unfolding_all rfl) : EvIt C n sc σ (.Call f [e] [] pos) (rangeV 0 1 b.toNat) := by
  with_unfolding_all intro A env s ow rm hen g o hs Q hQ
  refine call_raw ok hf (.cons ok he .nil hn) trivial rm hen g o hs (fun v vs h' tk k rv rvs => ?_) (by simp [hn]) hev
  cases rv
  cases rvs with
  | cons r1 r2 => cases r2 with
    | nil => cases r1 with
      | int _ t =>
        obtain ⟨h1, h2⟩ := small_up (a := 0) (b := b) (by decide) (by decide) hb hb'
        refine call_range_1 (range_it rm (k.trans (keeps_push _ _)) (IsRange.new ..) h1 (by rw [h2, Int.sub_zero]) fun it h3 tk3 k3 hit => hQ it h3 tk3 (k.trans (Keeps.trans (keeps_push _ _) k3)) hit)
theorem EvIt.range2 {f e e2 : Expr} {pos : Pos} {a b : Int} (ok : C.Ok) (hf : Ev C n sc σ f (.ty "range")) (he : Ev C n sc σ e (.int a)) (he2 : Ev C n sc σ e2 (.int b)) (ha : -1000000 ≤ a) (ha' : a ≤ 1000000) (hb : -1000000 ≤ b) (hb' : b ≤ 1000000) (hn : notStar e = true := by with_unfolding_all rfl) (hn2 : notStar e2 = true := by with_unfolding_all rfl)
    (hev : ∀ env, eval (.Call f [e, e2] [] pos) env = (do callWith pos (← eval f env) [] (backTo pos (starEach [e, e2] env)) (backToKw pos (keywordEach [] env))) := by intro _; with_unfolding_all rfl) : EvIt C n sc σ (.Call f [e, e2] [] pos) (rangeV a 1 (b - a).toNat) := by
  with_unfolding_all intro A env s ow rm hen g o hs Q hQ
  refine call_raw ok hf (.cons ok he (.cons ok he2 .nil hn2) hn) trivial rm hen g o hs (fun v vs h' tk k rv rvs => ?_) (by simp [hn, hn2]) hev
  cases rv
  cases rvs with
  | cons r1 r2 => cases r2 with
    | cons r3 r4 => cases r4 with
      | nil => cases r1 with
        | int _ t => cases r3 with
          | int _ u =>
            obtain ⟨h1, h2⟩ := small_up (a := a) (b := b) ha ha' hb hb'
            refine call_range_2 (range_it rm (k.trans (keeps_push _ _)) (IsRange.new ..) h1 h2 fun it h3 tk3 k3 hit => hQ it h3 tk3 (k.trans (Keeps.trans (keeps_push _ _) k3)) hit)
theorem EvIt.range3 {f e e2 e3 : Expr} {pos : Pos} {a b : Int} (ok : C.Ok) (hf : Ev C n sc σ f (.ty "range")) (he : Ev C n sc σ e (.int a)) (he2 : Ev C n sc σ e2 (.int b)) (he3 : Ev C n sc σ e3 (.int (-1))) (ha : -1000000 ≤ a) (ha' : a ≤ 1000000) (hb : -1000000 ≤ b) (hb' : b ≤ 1000000)
    (hn : notStar e = true := by with_unfolding_all rfl) (hn2 : notStar e2 = true := by with_unfolding_all rfl) (hn3 : notStar e3 = true := by with_unfolding_all rfl)
    (hev : ∀ env, eval (.Call f [e, e2, e3] [] pos) env = (do callWith pos (← eval f env) [] (backTo pos (starEach [e, e2, e3] env)) (backToKw pos (keywordEach [] env))) := by intro _; with_unfolding_all rfl) : EvIt C n sc σ (.Call f [e, e2, e3] [] pos) (rangeV a (-1) (a - b).toNat) := by
  with_unfolding_all intro A env s ow rm hen g o hs Q hQ
  refine call_raw ok hf (.cons ok he (.cons ok he2 (.cons ok he3 .nil hn3) hn2) hn) trivial rm hen g o hs (fun v vs h' tk k rv rvs => ?_) (by simp [hn, hn2, hn3]) hev
  cases rv
  cases rvs with
  | cons r1 r2 => cases r2 with
    | cons r3 r4 => cases r4 with
      | cons r5 r6 => cases r6 with
        | nil => cases r1 with
          | int _ t => cases r3 with
            | int _ u => cases r5 with
              | int _ x =>
                obtain ⟨h1, h2⟩ := small_down (a := a) (b := b) ha ha' hb hb'
                refine call_range_3 (by decide) (range_it rm (k.trans (keeps_push _ _)) (IsRange.new ..) h1 h2 fun it h3 tk3 k3 hit => hQ it h3 tk3 (k.trans (Keeps.trans (keeps_push _ _) k3)) hit) (.inl (PyProof.noPylong_small (by decide)))

theorem EvIt.rev {f e : Expr} {pos : Pos} {ds : List V} (ok : C.Ok) (hf : Ev C n sc σ f (.ty "reversed")) (he : Ev C n sc σ e (.list ds)) (hn : notStar e = true := by with_unfolding_all rfl)
    (hev : ∀ env, eval (.Call f [e] [] pos) env = (do callWith pos (← eval f env) [] (backTo pos (starEach [e] env)) (backToKw pos (keywordEach [] env))) := by intro _; with_unfolding_all rfl) : EvIt C n sc σ (.Call f [e] [] pos) ds.reverse := by
  with_unfolding_all intro A env s ow rm hen g o hs Q hQ
  refine call_raw ok hf (.cons ok he .nil hn) trivial rm hen g o hs (fun v vs h' tk k rv rvs => ?_) (by simp [hn]) hev
  cases rv
  cases rvs with
  | cons r1 r2 => cases r2 with
    | nil => cases r1 with
      | list e hn r =>
        rename_i a vs kk
        refine call_reversed_list (isList_of e) ?_
        have hne : a ≠ h'.objs.size := Nat.ne_of_lt (Heap.lt_size e)
        have W := Walks.listRev (prog := C.prog) (w := C.w) rm.hh h'.objs.size a hne vs.toArray
        have hlen : vs.toArray.size = ds.length := by rw [List.size_toArray, r.length]
        have hit : (h'.push (revObj a ((vs.toArray.size : Int) - 1))).IsRevIter h'.objs.size a ((vs.toArray.size : Int) - 1) := ⟨_, Heap.get?_push_size _ rfl, rfl, rfl⟩
        refine wpAny_pyIter_revIter (s := { s with heap := h'.push (revObj a ((vs.toArray.size : Int) - 1)), toks := tk }) hit ?_
        rw [show vs.toArray.size = ds.reverse.length by rw [List.length_reverse, hlen]] at W
        refine hQ _ _ _ (k.trans (keeps_push _ _)) ⟨_, _, _, _, _, h', rfl, W, ⟨Nat.zero_le _, ?_, (isList_of e).push _⟩, k, keeps_push _ _, fun b hb => ?_, fun b hb => ?_, (fun j hj st b hb => by rw [List.mem_singleton.mp hb]; obtain ⟨_, ⟨o, eo, _⟩, _⟩ := st; exact ⟨o, eo⟩), fun i v hv hi => ?_⟩
        · rw [show ((ds.reverse.length : Nat) : Int) - 1 - ((0 : Nat) : Int) = (vs.toArray.size : Int) - 1 by rw [List.length_reverse, hlen]; lia]; exact hit
        · rw [List.mem_singleton.mp hb]
          exact ⟨get_size_none _, _, Heap.get?_push_size _ rfl⟩
        · rcases List.mem_cons.mp hb with rfl | hb
          · exact .inl ⟨k.none (get_size_none _), _, Heap.get?_push_size _ rfl⟩
          · rw [List.mem_singleton.mp hb]
            exact .inr ⟨hn, _, _, _, e⟩
        · simp only [List.length_reverse] at hi hv
          rw [List.getElem?_toArray] at hv
          obtain ⟨d, hd, rd⟩ := r.getV hv
          refine ⟨d, ?_, rd⟩
          rw [List.getElem?_reverse hi]
          exact hd
end
-- PL7

section
variable {C : Cx} {n : Nat} {sc : Names} {σ σ' : Sto} {own own' : Option (Str × List Int)}

theorem EvIt2.enum {f e : Expr} {pos : Pos} {ds : List V} (ok : C.Ok) (hf : Ev C n sc σ f (.ty "enumerate")) (he : Ev C n sc σ e (.list ds)) (hn : notStar e = true := by with_unfolding_all rfl)
    (hev : ∀ env, eval (.Call f [e] [] pos) env = (do callWith pos (← eval f env) [] (backTo pos (starEach [e] env)) (backToKw pos (keywordEach [] env))) := by intro _; with_unfolding_all rfl) :
    EvIt2 C n sc σ (.Call f [e] [] pos) (((List.range ds.length).map fun i : Nat => V.int i).zip ds) := by
  with_unfolding_all intro A env s ow rm hen g o hs Q hQ
  refine call_raw ok hf (.cons ok he .nil hn) trivial rm hen g o hs (fun v vs h' tk k rv rvs => ?_) (by simp [hn]) hev
  cases rv
  cases rvs with
  | cons r1 r2 => cases r2 with
    | nil => cases r1 with
      | list e hn r =>
        rename_i a vs kk
        have hlt := Heap.lt_size e
        refine call_enumerate_list (isList_of e) fun h2 he2 hit2 hsz k2 => ?_
        have k2' : Keeps h' h2 := k2
        have hl2 : h2.IsList a vs.toArray := isList_of (k2' _ _ e)
        have W := WalksT.enumerate (prog := C.prog) (w := C.w) rm.hh (h'.objs.size + 1) h'.objs.size a (Nat.ne_of_gt (Nat.lt_succ_self _)) (Nat.ne_of_lt (Nat.lt_succ_of_lt hlt)) (Nat.ne_of_lt hlt) vs.toArray
        have hlen : vs.toArray.size = (((List.range ds.length).map fun i : Nat => V.int i).zip ds).length := by simp [r.length]
        rw [hlen] at W
        have fr : ∀ j, h'.objs.size ≤ j → h'.get? j = none := fun (j : Nat) hj => by
          cases e' : h'.get? j with
          | none => rfl
          | some o => exact absurd (Heap.lt_size e') (Nat.not_lt.mpr hj)
        have hst : (∃ old, IsEnum h2 (h'.objs.size + 1) h'.objs.size ((0 : Nat) : Int) old) ∧ h2.IsListIter h'.objs.size a 0 ∧ h2.IsList a vs.toArray := ⟨⟨_, he2⟩, hit2, hl2⟩
        obtain ⟨oi, hoi, _⟩ := hit2
        refine W.self 0 { s with heap := h2, toks := tk } _ _ hst ?_
        refine hQ _ _ _ (k.trans k2') ⟨_, _, _, _, _, _, h', rfl, W, hst, k, k2', fun b hb => ?_, fun b hb => ?_, (fun j hj st b hb => ?_), (fun j T hj st b hb => ?_), fun i vals hv hi => ?_⟩
        · rcases List.mem_cons.mp hb with rfl | hb
          · exact ⟨fr _ (Nat.le_add_right _ _), _, he2⟩
          · rw [List.mem_singleton.mp hb]; exact ⟨fr _ (Nat.le_refl _), _, hoi⟩
        · rcases List.mem_cons.mp hb with rfl | hb
          · exact .inl ⟨k.none (fr _ (Nat.le_add_right _ _)), _, he2⟩
          · rcases List.mem_cons.mp hb with rfl | hb
            · exact .inl ⟨k.none (fr _ (Nat.le_refl _)), _, hoi⟩
            · rw [List.mem_singleton.mp hb]
              exact .inr ⟨hn, _, _, _, e⟩
        · obtain ⟨⟨old, q1⟩, ⟨o, q2, _⟩, _⟩ := st
          rcases List.mem_cons.mp hb with rfl | hb
          · exact ⟨_, q1⟩
          · rw [List.mem_singleton.mp hb]; exact ⟨_, q2⟩
        · obtain ⟨⟨old, q1⟩, ⟨o, q2, _⟩, _⟩ := st
          rcases List.mem_cons.mp hb with rfl | hb
          · exact ⟨_, q1⟩
          · rw [List.mem_singleton.mp hb]; exact ⟨_, q2⟩
        · obtain ⟨t, x, hx, rfl⟩ := hv
          obtain ⟨d, hd, rd⟩ := r.getV (by simpa using hx)
          have hi' : i < ds.length := by simpa using hi
          refine ⟨_, _, .int i, d, rfl, ?_, .int _ _, rd⟩
          rw [List.getElem?_zip_eq_some]
          exact ⟨by simp [hi'], hd⟩

theorem EvIt2.zip {f e e2 : Expr} {pos : Pos} {ds ds2 : List V} (ok : C.Ok) (hf : Ev C n sc σ f (.ty "zip")) (he : Ev C n sc σ e (.list ds)) (he2 : Ev C n sc σ e2 (.list ds2)) (hn : notStar e = true := by with_unfolding_all rfl) (hn2 : notStar e2 = true := by with_unfolding_all rfl)
    (hev : ∀ env, eval (.Call f [e, e2] [] pos) env = (do callWith pos (← eval f env) [] (backTo pos (starEach [e, e2] env)) (backToKw pos (keywordEach [] env))) := by intro _; with_unfolding_all rfl) :
    EvIt2 C n sc σ (.Call f [e, e2] [] pos) (ds.zip ds2) := by
  with_unfolding_all intro A env s ow rm hen g o hs Q hQ
  refine call_raw ok hf (.cons ok he (.cons ok he2 .nil hn2) hn) trivial rm hen g o hs (fun v vs h' tk k rv rvs => ?_) (by simp [hn, hn2]) hev
  cases rv
  cases rvs with
  | cons r1 r2 => cases r2 with
    | cons r3 r4 => cases r4 with
      | nil => cases r1 with
        | list e hn r => cases r3 with
          | list e2 hn2 rr =>
            rename_i l1 xs k1 l2 ys k3
            have hlt := Heap.lt_size e
            have hlt2 := Heap.lt_size e2
            refine call_zip_2 (isList_of e) (isList_of e2) fun h2 hz hTI hTO hi1 hi2 hsz k2 => ?_
            have k2' : Keeps h' h2 := k2
            have fr : ∀ j, h'.objs.size ≤ j → h'.get? j = none := fun j hj => by
              cases e' : h'.get? j with
              | none => rfl
              | some o => exact absurd (Heap.lt_size e') (Nat.not_lt.mpr hj)
            have W := WalksT.zip2 (prog := C.prog) (w := C.w) rm.hh _ _ _ _ _ l1 l2 (zipApart_new hlt hlt2) xs.toArray ys.toArray
            have hlen : min xs.toArray.size ys.toArray.size = (ds.zip ds2).length := by simp [r.length, rr.length]
            rw [hlen] at W
            have hst : IsZip h2 (h'.objs.size + 4) (h'.objs.size + 2) (h'.objs.size + 3) .none ∧ IsPair h2 (h'.objs.size + 2) (.ref h'.objs.size) (.ref (h'.objs.size + 1)) ∧ (∃ a b, IsPair h2 (h'.objs.size + 3) a b) ∧
                h2.IsListIter h'.objs.size l1 0 ∧ h2.IsListIter (h'.objs.size + 1) l2 0 ∧ h2.IsList l1 xs.toArray ∧ h2.IsList l2 ys.toArray := ⟨hz, hTI, ⟨_, _, hTO⟩, hi1, hi2, isList_of (k2' _ _ e), isList_of (k2' _ _ e2)⟩
            obtain ⟨o1, ho1, _⟩ := hi1
            obtain ⟨o2, ho2, _⟩ := hi2
            refine W.self 0 { s with heap := h2, toks := tk } _ _ hst ?_
            have new : ∀ b, b = h'.objs.size + 4 ∨ b = h'.objs.size + 3 ∨ b = h'.objs.size ∨ b = h'.objs.size + 1 ∨ b = h'.objs.size + 2 → h'.get? b = none ∧ ∃ o, h2.get? b = some o := fun b hb => by
              rcases hb with rfl | rfl | rfl | rfl | rfl
              · exact ⟨fr _ (Nat.le_add_right _ _), _, hz⟩
              · exact ⟨fr _ (Nat.le_add_right _ _), _, hTO⟩
              · exact ⟨fr _ (Nat.le_refl _), _, ho1⟩
              · exact ⟨fr _ (Nat.le_add_right _ _), _, ho2⟩
              · exact ⟨fr _ (Nat.le_add_right _ _), _, hTI⟩
            refine hQ _ _ _ (k.trans k2') ⟨_, _, _, _, _, _, h', rfl, W, hst, k, k2', fun b hb => ?_, fun b hb => ?_, (fun j hj st b hb => ?_), (fun j T hj st b hb => ?_), fun i vals hv hi => ?_⟩
            · simp only [List.mem_cons, List.not_mem_nil, or_false] at hb
              exact new b (by rcases hb with h | h | h | h <;> simp [h])
            · simp only [List.mem_cons, List.not_mem_nil, or_false] at hb
              by_cases h1 : b = l1
              · rw [h1]; exact .inr ⟨hn, _, _, _, e⟩
              · by_cases h2' : b = l2
                · rw [h2']; exact .inr ⟨hn2, _, _, _, e2⟩
                · obtain ⟨q1, q2⟩ := new b (by rcases hb with h | h | h | h | h | h | h <;> first | exact absurd h h1 | exact absurd h h2' | simp [h])
                  exact .inl ⟨k.none q1, q2⟩
            · obtain ⟨q1, q2, ⟨_, _, q3⟩, ⟨_, q4, _⟩, ⟨_, q5, _⟩, _⟩ := st
              simp only [List.mem_cons, List.not_mem_nil, or_false] at hb
              rcases hb with rfl | rfl | rfl | rfl
              · exact ⟨_, q1⟩
              · exact ⟨_, q3⟩
              · exact ⟨_, q4⟩
              · exact ⟨_, q5⟩
            · obtain ⟨q1, q2, ⟨_, _, q3⟩, ⟨_, q4, _⟩, ⟨_, q5, _⟩, _⟩ := st
              simp only [List.mem_cons, List.not_mem_nil, or_false] at hb
              rcases hb with rfl | rfl | rfl | rfl
              · exact ⟨_, q1⟩
              · exact ⟨_, q3⟩
              · exact ⟨_, q4⟩
              · exact ⟨_, q5⟩
            · obtain ⟨x, y, hx, hy, rfl⟩ := hv
              obtain ⟨d, hd, rd⟩ := r.getV (by simpa using hx)
              obtain ⟨d2, hd2, rd2⟩ := rr.getV (by simpa using hy)
              exact ⟨_, _, d, d2, rfl, by rw [List.getElem?_zip_eq_some]; exact ⟨hd, hd2⟩, rd, rd2⟩

-- loops
inductive ForR (C : Cx) (n : Nat) (sc : Names) (x : Str) (body : List Stmt) : List V → Sto → Option (Str × List Int) → Fl → Prop
  | nil {τ : Sto} {ow : Option (Str × List Int)} : ForR C n sc x body [] τ ow (.next τ ow)
  | next {d : V} {ds : List V} {τ τ1 τ' : Sto} {ow ow1 : Option (Str × List Int)} {fl : Fl} : Storable sc ow x → Ex C n sc ((x, d) :: τ) ow body (.next τ1 ow1) → Sub τ' τ1 → ForR C n sc x body ds τ' ow1 fl → ForR C n sc x body (d :: ds) τ ow fl
  | ret {d : V} {ds : List V} {τ : Sto} {ow : Option (Str × List Int)} {r : V} : Storable sc ow x → Ex C n sc ((x, d) :: τ) ow body (.ret r) → ForR C n sc x body (d :: ds) τ ow (.ret r)
inductive ForR2 (C : Cx) (n : Nat) (sc : Names) (x y : Str) (body : List Stmt) : List (V × V) → Sto → Option (Str × List Int) → Fl → Prop
  | nil {τ : Sto} {ow : Option (Str × List Int)} : ForR2 C n sc x y body [] τ ow (.next τ ow)
  | next {d d2 : V} {ds : List (V × V)} {τ τ1 τ' : Sto} {ow ow1 : Option (Str × List Int)} {fl : Fl} : Storable sc ow x → Storable sc ow y → Ex C n sc ((y, d2) :: (x, d) :: τ) ow body (.next τ1 ow1) → Sub τ' τ1 → ForR2 C n sc x y body ds τ' ow1 fl → ForR2 C n sc x y body ((d, d2) :: ds) τ ow fl
  | ret {d d2 : V} {ds : List (V × V)} {τ : Sto} {ow : Option (Str × List Int)} {r : V} : Storable sc ow x → Storable sc ow y → Ex C n sc ((y, d2) :: (x, d) :: τ) ow body (.ret r) → ForR2 C n sc x y body ((d, d2) :: ds) τ ow (.ret r)
inductive WhileR (C : Cx) (n : Nat) (sc : Names) (test : Expr) (body : List Stmt) : Nat → Sto → Option (Str × List Int) → Fl → Prop
  | done {k : Nat} {τ : Sto} {ow : Option (Str × List Int)} : EtO C n sc τ ow test false → WhileR C n sc test body k τ ow (.next τ ow)
  | next {k : Nat} {τ τ1 τ' : Sto} {ow ow1 : Option (Str × List Int)} {fl : Fl} : EtO C n sc τ ow test true → Ex C n sc τ ow body (.next τ1 ow1) → Sub τ' τ1 → WhileR C n sc test body k τ' ow1 fl → WhileR C n sc test body (k + 1) τ ow fl
  | ret {k : Nat} {τ : Sto} {ow : Option (Str × List Int)} {r : V} : EtO C n sc τ ow test true → Ex C n sc τ ow body (.ret r) → WhileR C n sc test body (k + 1) τ ow (.ret r)

theorem Sub.refl (σ : Sto) : Sub σ σ := fun _ _ e => e
theorem Sub.trans {a b c : Sto} (h : Sub a b) (h' : Sub b c) : Sub a c := fun x d e => h' x d (h x d e)
theorem Sub.nil {σ : Sto} : Sub [] σ := fun _ _ e => by simp at e
theorem Sub.cons {x : Str} {d : V} {σ τ : Sto} (h : τ.lookup x = some d) (h2 : Sub σ τ) : Sub ((x, d) :: σ) τ := fun y e hy => by
  rw [List.lookup_cons] at hy
  by_cases hyx : y = x
  · subst hyx
    simp only [beq_self_eq_true] at hy
    cases hy; exact h
  · have : (y == x) = false := by simpa using hyx
    rw [this] at hy
    exact h2 y e hy

theorem OaOk.keeps {oa oa' : List Addr} {h h' : Heap} (k : Keeps h h') (a : OaOk oa oa' h') : OaOk oa oa' h := fun b hb => (a b hb).imp id fun e => k.none e

/-- the loop's own objects are turned: the state stands -/
theorem StR.turn {ow₀ oa wr : List Addr} {s₀ s : Shared} {env : Env} {h' : Heap} {tk : Nat} (r : StR sc σ own (wr ++ ow₀) oa s₀ env s) (hk : ∀ b o, b ∉ wr → s.heap.get? b = some o → h'.get? b = some o)
    (hwr : ∀ b ∈ wr, s₀.heap.get? b = none ∧ b ≠ env.locals ∧ (∀ x c, env.cells.lookup x = some c → b ≠ c)) (hex : ∀ b ∈ wr, ∃ o, h'.get? b = some o) : StR sc σ own (wr ++ ow₀) oa s₀ env { s with heap := h', toks := tk } := by
  obtain ⟨m, cm, ic, o, ww, h⟩ := r.ex
  have hL : env.locals ∉ wr := fun hm => (hwr _ hm).2.1 rfl
  have sk : SeqKeep (oa ++ (wr ++ ow₀)) s.heap h' := ⟨fun b c vs n hb e => hk b _ (fun hm => hb (by simp [hm])) e⟩
  refine ⟨m, cm, ⟨⟨?_, ic.toInCall.ns.at fun o e => hk _ o hL e, fun b o e => ?_, ic.toInCall.fresh⟩, fun y c hc => ?_, ic.apart, ic.above⟩, ?_, fun b hb => ?_, fun y d e => ?_⟩
  · obtain ⟨h1, t1, e⟩ := ic.toInCall.same
    exact ⟨h', tk, by rw [e]⟩
  · exact hk b o (fun hm => by rw [(hwr b hm).1] at e; cases e) (ic.toInCall.keep b o e)
  · obtain ⟨ob, e1, e2⟩ := ic.cell y c hc
    exact ⟨ob, hk c ob (fun hm => (hwr c hm).2.2 y c hc rfl) e1, e2⟩
  · cases own with
    | none => exact o
    | some p =>
      obtain ⟨ad, vs, kk, a1, a2, a3, a4, a5, a6, a7⟩ := o
      exact ⟨ad, vs, kk, a1, a2, a3, a4, hk ad _ (fun hm => a7 (List.mem_append_left _ hm)) a5, a6, a7⟩
  · by_cases hm : b ∈ wr
    · exact hex b hm
    · obtain ⟨ob, eb⟩ := ww b hb
      exact ⟨ob, hk b ob hm eb⟩
  · obtain ⟨v, a, b⟩ := h y d e
    exact ⟨v, a, b.mono sk fun _ _ _ z => z⟩

/-- more to stay away from: what is new -/
theorem StR.more {ow₀ oa wr : List Addr} {s₀ s : Shared} {env : Env} {h' : Heap} {tk : Nat} (r : StR sc σ own ow₀ oa s₀ env s) (k : Keeps s.heap h') (hwr : ∀ b ∈ wr, s.heap.get? b = none) (hex : ∀ b ∈ wr, ∃ o, h'.get? b = some o) :
    StR sc σ own (wr ++ ow₀) oa s₀ env { s with heap := h', toks := tk } := by
  obtain ⟨m, cm, ic, o, ww, h⟩ := (r.grow (tk := tk) k).ex
  obtain ⟨m0, cm0, ic0, o0, ww0, hh0⟩ := r.ex
  obtain ⟨_, _, _, _, _, hx⟩ := r.ex
  refine ⟨m0, cm0, incall_grow ic0 k, ?_, fun b hb => ?_, fun y d e => ?_⟩
  · cases own with
    | none => exact o0
    | some p =>
      obtain ⟨ad, vs, kk, a1, a2, a3, a4, a5, a6, a7⟩ := o0
      refine ⟨ad, vs, kk, a1, a2, a3, a4, k _ _ a5, a6, fun hm => ?_⟩
      rcases List.mem_append.mp hm with h1 | h1
      · rw [hwr ad h1] at a5; cases a5
      · exact a7 h1
  · rcases List.mem_append.mp hb with h1 | h1
    · exact hex b h1
    · exact ww b h1
  · obtain ⟨v, a, b⟩ := hh0 y d e
    refine ⟨v, a, b.mono k.seq fun c oc ec hn hm => ?_⟩
    rcases List.mem_append.mp hm with h1 | h1
    · exact hn (List.mem_append_left _ h1)
    · rcases List.mem_append.mp h1 with h2 | h2
      · rw [hwr c h2] at ec; cases ec
      · exact hn (List.mem_append_right _ h2)
theorem StR.less {ow₀ oa wr : List Addr} {s₀ s : Shared} {env : Env} (r : StR sc σ own (wr ++ ow₀) oa s₀ env s) : StR sc σ own ow₀ oa s₀ env s := by
  obtain ⟨m, cm, ic, o, ww, h⟩ := r.ex
  refine ⟨m, cm, ic, ?_, fun b hb => ww b (List.mem_append_right _ hb), fun y d e => ?_⟩
  · cases own with
    | none => exact o
    | some p =>
      obtain ⟨ad, vs, kk, a1, a2, a3, a4, a5, a6, a7⟩ := o
      exact ⟨ad, vs, kk, a1, a2, a3, a4, a5, a6, fun hm => a7 (List.mem_append_right _ hm)⟩
  · obtain ⟨v, a, b⟩ := h y d e
    refine ⟨v, a, b.mono (Keeps.refl _).seq fun c oc ec hn hm => hn ?_⟩
    rcases List.mem_append.mp hm with h1 | h1
    · exact List.mem_append_left _ h1
    · exact List.mem_append_right _ (List.mem_append_right _ h1)


/-- the loop is left: its own objects are let be -/
theorem StR.leave {ow₀ oa wr : List Addr} {s₀ s : Shared} {env : Env} {h' : Heap} {tk : Nat} (r : StR sc σ own (wr ++ ow₀) oa s₀ env s) (hk : ∀ b o, b ∉ wr → s.heap.get? b = some o → h'.get? b = some o)
    (hwr : ∀ b ∈ wr, s₀.heap.get? b = none ∧ b ≠ env.locals ∧ (∀ x c, env.cells.lookup x = some c → b ≠ c)) (hex : ∀ b ∈ ow₀, b ∉ wr) : StR sc σ own ow₀ oa s₀ env { s with heap := h', toks := tk } := by
  obtain ⟨m, cm, ic, o, ww, h⟩ := r.ex
  have hL : env.locals ∉ wr := fun hm => (hwr _ hm).2.1 rfl
  have sk : SeqKeep (oa ++ (wr ++ ow₀)) s.heap h' := ⟨fun b c vs n hb e => hk b _ (fun hm => hb (by simp [hm])) e⟩
  refine ⟨m, cm, ⟨⟨?_, ic.toInCall.ns.at fun o e => hk _ o hL e, fun b o e => ?_, ic.toInCall.fresh⟩, fun y c hc => ?_, ic.apart, ic.above⟩, ?_, fun b hb => ?_, fun y d e => ?_⟩
  · obtain ⟨h1, t1, e⟩ := ic.toInCall.same
    exact ⟨h', tk, by rw [e]⟩
  · exact hk b o (fun hm => by rw [(hwr b hm).1] at e; cases e) (ic.toInCall.keep b o e)
  · obtain ⟨ob, e1, e2⟩ := ic.cell y c hc
    exact ⟨ob, hk c ob (fun hm => (hwr c hm).2.2 y c hc rfl) e1, e2⟩
  · cases own with
    | none => exact o
    | some p =>
      obtain ⟨ad, vs, kk, a1, a2, a3, a4, a5, a6, a7⟩ := o
      exact ⟨ad, vs, kk, a1, a2, a3, a4, hk ad _ (fun hm => a7 (List.mem_append_left _ hm)) a5, a6, fun hm => a7 (List.mem_append_right _ hm)⟩
  · obtain ⟨ob, eb⟩ := ww b (List.mem_append_right _ hb)
    exact ⟨ob, hk b ob (hex b hb) eb⟩
  · obtain ⟨v, a, b⟩ := h y d e
    refine ⟨v, a, b.mono sk fun c oc ec hn hm => hn ?_⟩
    rcases List.mem_append.mp hm with h1 | h1
    · exact List.mem_append_left _ h1
    · exact List.mem_append_right _ (List.mem_append_right _ h1)
end
-- PL8

section
variable {C : Cx} {n : Nat} {sc : Names} {σ σ' : Sto} {own own' : Option (Str × List Int)}

theorem kb_wr {env : Env} {oa wr : List Addr} {h h1 h2 : Heap} (k : Kb env oa h h1) (hw : ∀ b ∈ wr, h.get? b = none) (hk : ∀ b o, b ∉ wr → h1.get? b = some o → h2.get? b = some o) : Kb env oa h h2 := fun b o e q1 q2 q3 =>
  hk b o (fun hm => by rw [hw b hm] at e; cases e) (k b o e q1 q2 q3)

theorem seqKeep_kb {ow oa' : List Addr} {env : Env} {hm h1 h2 : Heap} (sk : SeqKeep ow hm h1) (kb : Kb env oa' h1 h2) (hL : ∃ o es ep, h1.get? env.locals = some o ∧ o.data = .dict es ep) (hc : ∀ x c, env.cells.lookup x = some c → ∃ o v, h1.get? c = some o ∧ o.data = .cell v)
    (ho : ∀ b ∈ oa', b ∈ ow ∨ hm.get? b = none) : SeqKeep ow hm h2 := ⟨fun b c vs k hb e => by
    have e1 := sk.seq b c vs k hb e
    refine kb b _ e1 (fun eb => ?_) (fun x c' hx eb => ?_) (fun hm' => ?_)
    · obtain ⟨o, es, ep, e2, e3⟩ := hL
      rw [eb, e2] at e1; cases e1; cases e3
    · obtain ⟨o, v, e2, e3⟩ := hc x c' hx
      rw [eb, e2] at e1; cases e1; cases e3
    · rcases ho b hm' with h1 | h1
      · exact hb h1
      · rw [h1] at e
        cases e⟩

theorem StR.localsD {ow₀ oa : List Addr} {s₀ s : Shared} {env : Env} (r : StR sc σ own ow₀ oa s₀ env s) : ∃ o es ep, s.heap.get? env.locals = some o ∧ o.data = .dict es ep := by
  obtain ⟨m, cm, x, o, ww, h⟩ := r.ex
  obtain ⟨ob, es, ep, e, hd, _⟩ := x.toInCall.ns
  exact ⟨ob, es, ep, e, hd⟩
theorem StR.cellsD {ow₀ oa : List Addr} {s₀ s : Shared} {env : Env} (r : StR sc σ own ow₀ oa s₀ env s) : ∀ y c, env.cells.lookup y = some c → ∃ o v, s.heap.get? c = some o ∧ o.data = .cell v := by
  obtain ⟨m, cm, x, o, ww, h⟩ := r.ex
  intro y c hc
  obtain ⟨ob, e, hd⟩ := x.cell y c hc
  exact ⟨ob, _, e, hd⟩

/-- what the loop's source hangs on is apart from what the body turns -/
theorem fp_apart {ow₀ oa oa' fp : List Addr} {s₀ s : Shared} {env : Env} {hm h : Heap} (r : StR sc σ own ow₀ oa s₀ env s) (k1 : Keeps s.heap hm) (k2 : Keeps hm h) (f : FpOk (oa ++ ow₀) s.heap hm h fp) (o : OaOk oa oa' h) :
    ∀ b ∈ fp, b ≠ env.locals ∧ (∀ x c, env.cells.lookup x = some c → b ≠ c) ∧ b ∉ oa' := by
  intro b hb
  obtain ⟨oL, _, _, eL, dL⟩ := r.localsD
  rcases f b hb with ⟨f1, ob, f2⟩ | ⟨f1, c, vs, k, f2⟩
  · refine ⟨fun e => by rw [e, eL] at f1; (cases f1), fun x c hx e => ?_, fun hm' => ?_⟩
    · obtain ⟨oc, _, ec, _⟩ := r.cellsD x c hx
      rw [e, ec] at f1
      cases f1
    · rcases o b hm' with q | q
      · obtain ⟨oq, eq⟩ := r.owok b (List.mem_append_left _ q)
        rw [eq] at f1
        cases f1
      · rw [f2] at q
        cases q
  · refine ⟨fun e => ?_, fun x c hx e => ?_, fun hm' => ?_⟩
    · have := k1 _ _ eL
      rw [← e, f2] at this
      cases this
      cases dL
    · obtain ⟨oc, v, ec, dc⟩ := r.cellsD x c hx
      have := k1 _ _ ec
      rw [← e, f2] at this
      cases this
      cases dc
    · rcases o b hm' with q | q
      · exact f1 (List.mem_append_left _ q)
      · rw [k2 _ _ f2] at q
        cases q

theorem flow_same {s : Shared} {hh : Heap} {tt : Nat} {h : Heap} {tk : Nat} : ∃ h' tk', ({ ({ s with heap := hh, toks := tt } : Shared) with heap := h, toks := tk } : Shared) = { s with heap := h', toks := tk' } := ⟨h, tk, rfl⟩

/-- what stands at a loop's head -/
structure LS (sc : Names) (oa ow₀ wr : List Addr) (s₀ : Shared) (env : Env) (s : Shared) (h hm : Heap) (τ : Sto) (ow' : Option (Str × List Int)) (oa' : List Addr) (s' : Shared) : Prop where
  st : StR sc τ ow' (wr ++ ow₀) oa' s₀ env s'
  ho : OaOk oa oa' h
  kb : Kb env oa s.heap s'.heap
  hex : ∀ b ∈ wr, ∃ o, s'.heap.get? b = some o
  sk : SeqKeep (oa ++ ow₀) hm s'.heap
  same : ∃ hh tt, s' = { s with heap := hh, toks := tt }
  kbh : ∀ b o, h.get? b = some o → b ≠ env.locals → (∀ x c, env.cells.lookup x = some c → b ≠ c) → b ∉ oa → b ∉ wr → s'.heap.get? b = some o

/-- the fixed things of a loop -/
structure LF (sc : Names) (σ : Sto) (own : Option (Str × List Int)) (oa ow₀ wr fp : List Addr) (s₀ : Shared) (env : Env) (s : Shared) (h hm : Heap) : Prop where
  r : StR sc σ own ow₀ oa s₀ env s
  k1 : Keeps s.heap hm
  k2 : Keeps hm h
  hwr : ∀ b ∈ wr, hm.get? b = none ∧ ∃ o, h.get? b = some o
  hfp : FpOk (oa ++ ow₀) s.heap hm h fp

section
variable {oa ow₀ wr fp : List Addr} {s₀ s : Shared} {env : Env} {h hm : Heap} {τ τ' : Sto} {ow' ow1 : Option (Str × List Int)} {oa' oa1 : List Addr} {s' : Shared}
theorem LF.wfresh (F : LF sc σ own oa ow₀ wr fp s₀ env s h hm) : ∀ b ∈ wr, s.heap.get? b = none := fun b hb => F.k1.none (F.hwr b hb).1
theorem LF.wsep (F : LF sc σ own oa ow₀ wr fp s₀ env s h hm) : ∀ b ∈ wr, s₀.heap.get? b = none ∧ b ≠ env.locals ∧ (∀ x c, env.cells.lookup x = some c → b ≠ c) := fun b hb => by
  obtain ⟨oL, _, _, eL, dL⟩ := F.r.localsD
  refine ⟨F.r.keep.none (F.wfresh b hb), fun e' => ?_, fun x c hc e' => ?_⟩
  · rw [← e', F.wfresh b hb] at eL
    cases eL
  · obtain ⟨oc, _, ec, _⟩ := F.r.cellsD x c hc
    rw [← e', F.wfresh b hb] at ec
    cases ec
/-- the source is asked: its own objects are turned -/
theorem LS.turn (F : LF sc σ own oa ow₀ wr fp s₀ env s h hm) (S : LS sc oa ow₀ wr s₀ env s h hm τ ow' oa' s') {h1 : Heap} {tk1 : Nat} (hk : ∀ b o, b ∉ wr → s'.heap.get? b = some o → h1.get? b = some o) (hex : ∀ b ∈ wr, ∃ o, h1.get? b = some o) :
    LS sc oa ow₀ wr s₀ env s h hm τ ow' oa' { s' with heap := h1, toks := tk1 } where
  st := S.st.turn hk F.wsep hex
  ho := S.ho
  kb := kb_wr S.kb F.wfresh hk
  hex := hex
  sk := ⟨fun b c vs k hb e => hk b _ (fun hm' => by rw [(F.hwr b hm').1] at e; cases e) (S.sk.seq b c vs k hb e)⟩
  same := by obtain ⟨hh, tt, rfl⟩ := S.same; exact ⟨h1, tk1, rfl⟩
  kbh := fun b o e q1 q2 q3 q4 => hk b o q4 (S.kbh b o e q1 q2 q3 q4)
theorem LS.ownOk (F : LF sc σ own oa ow₀ wr fp s₀ env s h hm) (S : LS sc oa ow₀ wr s₀ env s h hm τ ow' oa' s') : ∀ b ∈ oa', b ∈ oa ++ ow₀ ∨ hm.get? b = none := fun b hb =>
  (S.ho b hb).imp (List.mem_append_left _) F.k2.none
/-- names or objects of the frame are turned -/
theorem LS.step (F : LF sc σ own oa ow₀ wr fp s₀ env s h hm) (S : LS sc oa ow₀ wr s₀ env s h hm τ ow' oa' s') {h1 : Heap} {tk1 : Nat} (kb : Kb env oa' s'.heap h1) (ho : OaOk oa' oa1 s'.heap)
    (st : StR sc τ' ow1 (wr ++ ow₀) oa1 s₀ env { s' with heap := h1, toks := tk1 }) : LS sc oa ow₀ wr s₀ env s h hm τ' ow1 oa1 { s' with heap := h1, toks := tk1 } where
  st := st
  ho := fun x hx => by
    rcases ho x hx with h1' | h1'
    · exact S.ho x h1'
    · by_cases hm' : x ∈ oa
      · exact .inl hm'
      · right
        cases e : h.get? x with
        | none => rfl
        | some o =>
          by_cases hl : x = env.locals
          · obtain ⟨o', e'⟩ := S.st.locals
            rw [hl, e'] at h1'
            cases h1'
          · by_cases hcc : ∃ y, env.cells.lookup y = some x
            · obtain ⟨y, hy⟩ := hcc
              obtain ⟨o', e'⟩ := S.st.cells y x hy
              rw [e'] at h1'
              cases h1'
            · by_cases hw : x ∈ wr
              · obtain ⟨o', e'⟩ := S.hex x hw
                rw [e'] at h1'
                cases h1'
              · have := S.kbh x o e hl (fun y c hy e' => hcc ⟨y, e' ▸ hy⟩) hm' hw
                rw [this] at h1'
                cases h1'
  kbh := fun b o e q1 q2 q3 q4 => kb b o (S.kbh b o e q1 q2 q3 q4) q1 q2 fun hm' => (S.ho b hm').elim q3 fun z => by rw [e] at z; cases z
  kb := S.kb.trans (S.ho.keeps (Keeps.trans F.k1 F.k2)) kb
  hex := fun b hb => by
    obtain ⟨ob, eb⟩ := S.hex b hb
    refine ⟨ob, kb b ob eb (F.wsep b hb).2.1 (F.wsep b hb).2.2 fun hm' => ?_⟩
    rcases S.ho b hm' with q | q
    · obtain ⟨oq, eq⟩ := F.r.owok b (List.mem_append_left _ q)
      rw [F.wfresh b hb] at eq
      cases eq
    · obtain ⟨oq, eq⟩ := (F.hwr b hb).2
      rw [q] at eq
      cases eq
  sk := seqKeep_kb S.sk kb S.st.localsD S.st.cellsD (S.ownOk F)
  same := by obtain ⟨hh, tt, rfl⟩ := S.same; exact ⟨h1, tk1, rfl⟩
theorem LS.fin (F : LF sc σ own oa ow₀ wr fp s₀ env s h hm) (S : LS sc oa ow₀ wr s₀ env s h hm τ ow' oa' s') : FlR sc ow₀ oa s₀ env s (.next τ ow') .next s' :=
  ⟨S.same, S.kb, rfl, oa', S.ho.keeps (Keeps.trans F.k1 F.k2), S.st.less⟩
theorem LS.item (F : LF sc σ own oa ow₀ wr fp s₀ env s h hm) (S : LS sc oa ow₀ wr s₀ env s h hm τ ow' oa' s') {v : Value} {d : V} (rv : Rep (oa ++ ow₀) hm v d) : Rep (oa' ++ (wr ++ ow₀)) s'.heap v d :=
  rv.mono S.sk fun b o e hn hm' => by
    rcases List.mem_append.mp hm' with q | q
    · rcases S.ho b q with z | z
      · exact hn (List.mem_append_left _ z)
      · rw [F.k2 _ _ e] at z
        cases z
    · rcases List.mem_append.mp q with z | z
      · rw [(F.hwr b z).1] at e
        cases e
      · exact hn (List.mem_append_right _ z)


theorem LF.off (F : LF sc σ own oa ow₀ wr fp s₀ env s h hm) : ∀ b ∈ ow₀, b ∉ wr := fun b hb hm' => by
  obtain ⟨oq, eq⟩ := F.r.owok b (List.mem_append_right _ hb)
  rw [F.wfresh b hm'] at eq
  cases eq
theorem LS.leave (F : LF sc σ own oa ow₀ wr fp s₀ env s h hm) (S : LS sc oa ow₀ wr s₀ env s h hm τ ow' oa' s') {h1 : Heap} {tk1 : Nat} (hk : ∀ b o, b ∉ wr → s'.heap.get? b = some o → h1.get? b = some o) :
    FlR sc ow₀ oa s₀ env s (.next τ ow') .next { s' with heap := h1, toks := tk1 } :=
  ⟨by obtain ⟨hh, tt, rfl⟩ := S.same; exact ⟨h1, tk1, rfl⟩, kb_wr S.kb F.wfresh hk, rfl, oa', S.ho.keeps (Keeps.trans F.k1 F.k2), S.st.leave hk F.wsep F.off⟩
end

theorem OwOk.refl' (oa : List Addr) (h : Heap) : OaOk oa oa h := OaOk.refl _ _

theorem Ex1.for_ {x : Str} {xp pos : Pos} {e : Expr} {body : List Stmt} {ds : List V} {fl : Fl} (ok : C.Ok) (h : EvIt C n sc σ e ds) (hx : sc.lookup x = some .local) (hr : ForR C n sc x body ds σ own fl)
    (hfold : ∀ env x, foldedSetIterable e env x = pure x := by intro _ _; with_unfolding_all rfl) : Ex1 C n sc σ own (.For (.Name x xp) e body [] pos) fl := by
  with_unfolding_all intro A env s₀ s ow₀ oa rm hen g r Q hQ
  refine wpAny_For (h.run A env s (oa ++ ow₀) rm hen (ok.mono r.keep g) r.owok r.srep _ fun it h' tk k0 hit => ?_) (hfold env)
  obtain ⟨I, fp, wr, P, St, hm, rfl, W, hst, k1, k2, hwr, hfp, hlive, hP⟩ := hit.ex
  have F : LF sc σ own oa ow₀ wr fp s₀ env s h' hm := ⟨r, k1, k2, hwr, hfp⟩
  refine codeAny_forLoop (fun k s' => ∃ i rest τ ow' oa', ForR C n sc x body rest τ ow' fl ∧ rest = ds.drop i ∧ i ≤ ds.length ∧ k = rest.length ∧ St i s'.heap ∧ LS sc oa ow₀ wr s₀ env s h' hm τ ow' oa' s') ?_ ds.length
    ⟨0, ds, σ, own, oa, hr, rfl, Nat.zero_le _, rfl, hst, r.more k0 F.wfresh (fun b hb => (hwr b hb).2), OaOk.refl _ _, k0.kb, fun b hb => (hwr b hb).2, k2.seq, ⟨h', tk, rfl⟩, fun _ _ e _ _ _ _ => e⟩
  rintro k s' ⟨i, rest, τ, ow', oa', hR, hrest, hi, rfl, hSt, S⟩
  have turn : ∀ (d : V) (rest' : List V), d :: rest' = ds.drop i → Storable sc ow' x → ∀ {Q' : Option Value → Shared → Prop},
      (∀ v h1 tk1 , (∀ {M : Model} {Q2 : Unit → Shared → Prop}, (∀ s2, St (i + 1) s2.heap → LS sc oa ow₀ wr s₀ env s h' hm ((x, d) :: τ) ow' oa' s2 → Q2 () s2) →
        wpAny M A (PySem.assign (.Name x xp) env v) Q2 (fun _ _ => False) { s' with heap := h1, toks := tk1 }) → Q' (some v) { s' with heap := h1, toks := tk1 }) →
      ∀ E, wpAny C.M A (pyNext (.ref I)) Q' E s' := by
    intro d rest' hd hsto Q' hQ' E
    have hlt : i < ds.length := by
      have := congrArg List.length hd
      simp only [List.length_cons, List.length_drop] at this
      lia
    have hdi : ds[i]? = some d := by
      rw [List.drop_eq_getElem_cons hlt] at hd
      rw [List.getElem?_eq_getElem hlt]
      exact congrArg some (List.cons.inj hd).1.symm
    refine W.item i s' _ _ hlt hSt fun v h1 tk1 hPv hSt1 hk => hQ' v h1 tk1 fun {M Q2} hQ2 => ?_
    have S1 := S.turn (tk1 := tk1) F hk (hlive (i + 1) h1 hSt1)
    obtain ⟨d', hd', rv⟩ := hP i v hPv hlt
    obtain rfl : d' = d := Option.some.inj (hd'.symm.trans hdi)
    refine wpAny_assign_Name (S1.st.store hen (S1.item F rv) hsto (fun e => by rw [hx] at e; cases e) fun h2 tk2 kb2 st2 => ?_)
    have hap := fp_apart r k1 k2 hfp S1.ho
    exact hQ2 _ (W.frame _ _ _ hSt1 fun b hb o e => kb2 b o e (hap b hb).1 (hap b hb).2.1 (hap b hb).2.2) (S1.step F kb2 (OaOk.refl _ _) st2)
  cases hR with
  | nil =>
    have hin : i = ds.length := by
      have := congrArg List.length hrest
      simp only [List.length_nil, List.length_drop] at this
      lia
    subst hin
    refine W.done _ _ _ hSt fun h1 tk1 hk => wpAny_execs_nil ?_
    exact hQ _ _ (S.leave F hk)
  | next hsto hbody hsub hrest' =>
    rename_i d rest' τ1 τ' ow1
    refine turn d rest' hrest hsto (fun v h1 tk1 hasg => wpAny_noRaise (hasg fun s2 hSt2 S2 => wpAny_noRaise ?_)) _
    refine hbody.run A env s₀ s2 (wr ++ ow₀) oa' rm hen g S2.st _ fun f s3 hf => ?_
    obtain ⟨⟨hh3, tt3, rfl⟩, kb3, rfl, oa3, ho3, st3⟩ := hf
    have hap := fp_apart r k1 k2 hfp S2.ho
    have hlen : rest'.length = ds.length - (i + 1) := by
      have := congrArg List.length hrest
      simp only [List.length_cons, List.length_drop] at this
      lia
    have hd1 : rest' = ds.drop (i + 1) := by
      have := congrArg List.tail hrest
      simpa [List.tail_drop] using this
    refine ⟨rest'.length, by simp, i + 1, rest', τ', ow1, oa3, hrest', hd1, ?_, rfl, ?_, ?_⟩
    · have := congrArg List.length hrest
      simp only [List.length_cons, List.length_drop] at this
      lia
    · exact W.frame _ _ _ hSt2 fun b hb o e => kb3 b o e (hap b hb).1 (hap b hb).2.1 (hap b hb).2.2
    · exact S2.step F kb3 ho3 (st3.sub hsub)
  | ret hsto hbody =>
    rename_i d rest' r'
    refine turn d rest' hrest hsto (fun v h1 tk1 hasg => wpAny_noRaise (hasg fun s2 hSt2 S2 => wpAny_noRaise ?_)) _
    refine hbody.run A env s₀ s2 (wr ++ ow₀) oa' rm hen g S2.st _ fun f s3 hf => ?_
    obtain ⟨⟨hh3, tt3, rfl⟩, kb3, v3, rfl, kk, rv3⟩ := hf
    refine hQ _ _ ⟨?_, ?_, v3, rfl, kk, rv3.mono (Keeps.refl _).seq fun _ _ _ hn hm' => hn (List.mem_append_right _ hm')⟩
    · obtain ⟨a, b, e⟩ := S2.same
      exact ⟨hh3, tt3, by rw [e]⟩
    · exact S2.kb.trans (S2.ho.keeps (Keeps.trans k1 k2)) kb3

theorem Ex1.for2 {x y : Str} {xp yp tp pos : Pos} {kt : Nat} {e : Expr} {body : List Stmt} {ds : List (V × V)} {fl : Fl} (ok : C.Ok) (h : EvIt2 C n sc σ e ds) (hx : sc.lookup x = some .local) (hy : sc.lookup y = some .local) (hr : ForR2 C n sc x y body ds σ own fl)
    (hfold : ∀ env x, foldedSetIterable e env x = pure x := by intro _ _; with_unfolding_all rfl) : Ex1 C n sc σ own (.For (.Tuple [.Name x xp, .Name y yp] kt tp) e body [] pos) fl := by
  with_unfolding_all intro A env s₀ s ow₀ oa rm hen g r Q hQ
  refine wpAny_For (h.run A env s (oa ++ ow₀) rm hen (ok.mono r.keep g) r.owok r.srep _ fun it h' tk k0 hit => ?_) (hfold env)
  obtain ⟨I, fp, wr, P, St, Mid, hm, rfl, W, hst, k1, k2, hwr, hfp, hlive, hliveM, hP⟩ := hit.ex
  have F : LF sc σ own oa ow₀ wr fp s₀ env s h' hm := ⟨r, k1, k2, hwr, hfp⟩
  refine codeAny_forLoop_any (fun k s' => ∃ i rest τ ow' oa', ForR2 C n sc x y body rest τ ow' fl ∧ rest = ds.drop i ∧ i ≤ ds.length ∧ k = rest.length ∧ St i s'.heap ∧ LS sc oa ow₀ wr s₀ env s h' hm τ ow' oa' s') ?_ ds.length
    ⟨0, ds, σ, own, oa, hr, rfl, Nat.zero_le _, rfl, hst, r.more k0 F.wfresh (fun b hb => (hwr b hb).2), OaOk.refl _ _, k0.kb, fun b hb => (hwr b hb).2, k2.seq, ⟨h', tk, rfl⟩, fun _ _ e _ _ _ _ => e⟩
  rintro k s' ⟨i, rest, τ, ow', oa', hR, hrest, hi, rfl, hSt, S⟩
  have turn : ∀ (d d2 : V) (rest' : List (V × V)), (d, d2) :: rest' = ds.drop i → Storable sc ow' x → Storable sc ow' y → ∀ {Q' : Option Value → Shared → Prop},
      (∀ T h1 tk1, (∀ {Q2 : Unit → Shared → Prop}, (∀ s2, St (i + 1) s2.heap → LS sc oa ow₀ wr s₀ env s h' hm ((y, d2) :: (x, d) :: τ) ow' oa' s2 → Q2 () s2) →
        wpAny C.M A (letOwnedTupleGo (.Tuple [.Name x xp, .Name y yp] kt tp) (.ref I) (.ref T)) (fun _ s1' => wpAny C.M A (PySem.assign (.Tuple [.Name x xp, .Name y yp] kt tp) env (.ref T)) Q2 (fun _ _ => False) s1') (fun _ _ => False) { s' with heap := h1, toks := tk1 }) → Q' (some (.ref T)) { s' with heap := h1, toks := tk1 }) →
      ∀ E, wpAny C.M A (pyNext (.ref I)) Q' E s' := by
    intro d d2 rest' hd hsx hsy Q' hQ' E
    have hlt : i < ds.length := by
      have := congrArg List.length hd
      simp only [List.length_cons, List.length_drop] at this
      lia
    have hdi : ds[i]? = some (d, d2) := by
      rw [List.drop_eq_getElem_cons hlt] at hd
      rw [List.getElem?_eq_getElem hlt]
      exact congrArg some (List.cons.inj hd).1.symm
    refine W.item i s' _ _ hlt hSt fun T vals h1 tk1 hPv _ hT hMid hk => hQ' T h1 tk1 fun {Q2} hQ2 => ?_
    have S1 := S.turn (tk1 := tk1) F hk (hliveM i T h1 hMid)
    refine W.go _ kt tp i T { s' with heap := h1, toks := tk1 } _ _ hMid fun h2 hSt2 hk2 => ?_
    have S2 := S1.turn (tk1 := tk1) F hk2 (hlive (i + 1) h2 hSt2)
    obtain ⟨v0, v1, d', d2', rfl, hd', rv0, rv1⟩ := hP i vals hPv hlt
    obtain ⟨rfl, rfl⟩ : d' = d ∧ d2' = d2 := by
      have := Option.some.inj (hd'.symm.trans hdi)
      exact ⟨congrArg Prod.fst this, congrArg Prod.snd this⟩
    have hT2 : h2.IsTuple T #[v0, v1] := hT.at fun o e => hk2 T o (W.apart i T h1 hMid) e
    refine wpAny_assign_Tuple rm.hh hT2 rfl rfl fun h3 hx3 => ?_
    have k3 : Keeps h2 h3 := fun b o e => hx3 b o (Nat.ne_of_lt (Heap.lt_size e)) e
    have S3 := S2.step (tk1 := tk1) F k3.kb (OaOk.refl _ _) (S2.st.grow k3)
    have hSt3 : St (i + 1) h3 := W.frame _ _ _ hSt2 fun b _ o e => k3 b o e
    show wpAny C.M A (do holding [v1] (PySem.assign (.Name x xp) env v0); do holding [] (PySem.assign (.Name y yp) env v1); pure ()) _ _ _
    refine wpAny_bind (wpAny_holding (wpAny_assign_Name (S3.st.store hen (S3.item F rv0) hsx (fun e => by rw [hx] at e; cases e) fun h4 tk4 kb4 st4 => ?_)))
    have S4 := S3.step F kb4 (OaOk.refl _ _) st4
    have hap3 := fp_apart r k1 k2 hfp S3.ho
    have hSt4 : St (i + 1) h4 := W.frame _ _ _ hSt3 fun b hb o e => kb4 b o e (hap3 b hb).1 (hap3 b hb).2.1 (hap3 b hb).2.2
    refine wpAny_bind (wpAny_holding (wpAny_assign_Name (S4.st.store hen (S4.item F rv1) hsy (fun e => by rw [hy] at e; cases e) fun h5 tk5 kb5 st5 => wpAny_pure ?_)))
    have S5 := S4.step F kb5 (OaOk.refl _ _) st5
    have hSt5 : St (i + 1) h5 := W.frame _ _ _ hSt4 fun b hb o e => kb5 b o e (hap3 b hb).1 (hap3 b hb).2.1 (hap3 b hb).2.2
    exact hQ2 _ hSt5 S5
  cases hR with
  | nil =>
    have hin : i = ds.length := by
      have := congrArg List.length hrest
      simp only [List.length_nil, List.length_drop] at this
      lia
    subst hin
    refine W.done _ _ _ hSt fun h1 tk1 hk => wpAny_execs_nil ?_
    exact hQ _ _ (S.leave F hk)
  | next hsx hsy hbody hsub hrest' =>
    rename_i d d2 rest' τ1 τ' ow1
    refine turn d d2 rest' hrest hsx hsy (fun T h1 tk1 hasg => ?_) _
    refine wpAny_noRaise (wpAny_mono (hasg (Q2 := fun _ s2 => St (i + 1) s2.heap ∧ LS sc oa ow₀ wr s₀ env s h' hm ((y, d2) :: (x, d) :: τ) ow' oa' s2) fun s2 a b => ⟨a, b⟩) (fun _ s1 hq => wpAny_noRaise (wpAny_mono hq (fun _ s2 hq2 => ?_) fun _ _ z => z)) fun _ _ z => z)
    obtain ⟨hSt2, S2⟩ := hq2
    refine wpAny_noRaise (hbody.run A env s₀ s2 (wr ++ ow₀) oa' rm hen g S2.st _ fun f s3 hf => ?_)
    obtain ⟨⟨hh3, tt3, rfl⟩, kb3, rfl, oa3, ho3, st3⟩ := hf
    have hap := fp_apart r k1 k2 hfp S2.ho
    have hd1 : rest' = ds.drop (i + 1) := by
      have := congrArg List.tail hrest
      simpa [List.tail_drop] using this
    refine ⟨rest'.length, by simp, i + 1, rest', τ', ow1, oa3, hrest', hd1, ?_, rfl, ?_, ?_⟩
    · have := congrArg List.length hrest
      simp only [List.length_cons, List.length_drop] at this
      lia
    · exact W.frame _ _ _ hSt2 fun b hb o e => kb3 b o e (hap b hb).1 (hap b hb).2.1 (hap b hb).2.2
    · exact S2.step F kb3 ho3 (st3.sub hsub)
  | ret hsx hsy hbody =>
    rename_i d d2 rest' r'
    refine turn d d2 rest' hrest hsx hsy (fun T h1 tk1 hasg => ?_) _
    refine wpAny_noRaise (wpAny_mono (hasg (Q2 := fun _ s2 => St (i + 1) s2.heap ∧ LS sc oa ow₀ wr s₀ env s h' hm ((y, d2) :: (x, d) :: τ) ow' oa' s2) fun s2 a b => ⟨a, b⟩) (fun _ s1 hq => wpAny_noRaise (wpAny_mono hq (fun _ s2 hq2 => ?_) fun _ _ z => z)) fun _ _ z => z)
    obtain ⟨hSt2, S2⟩ := hq2
    refine wpAny_noRaise (hbody.run A env s₀ s2 (wr ++ ow₀) oa' rm hen g S2.st _ fun f s3 hf => ?_)
    obtain ⟨⟨hh3, tt3, rfl⟩, kb3, v3, rfl, kk, rv3⟩ := hf
    refine hQ _ _ ⟨?_, ?_, v3, rfl, kk, rv3.mono (Keeps.refl _).seq fun _ _ _ hn hm' => hn (List.mem_append_right _ hm')⟩
    · obtain ⟨a, b, e⟩ := S2.same
      exact ⟨hh3, tt3, by rw [e]⟩
    · exact S2.kb.trans (S2.ho.keeps (Keeps.trans k1 k2)) kb3

theorem Ex1.while_ {test : Expr} {body : List Stmt} {pos : Pos} {k : Nat} {fl : Fl} (hr : WhileR C n sc test body k σ own fl) : Ex1 C n sc σ own (.While test body [] pos) fl := by
  with_unfolding_all intro A env s₀ s ow₀ oa rm hen g r Q hQ
  refine wpAny_While (codeAny_whileLoop (fun k s' => ∃ τ ow' oa', WhileR C n sc test body k τ ow' fl ∧ StR sc τ ow' ow₀ oa' s₀ env s' ∧ OaOk oa oa' s.heap ∧ Kb env oa s.heap s'.heap ∧ ∃ hh tt, s' = { s with heap := hh, toks := tt }) ?_ k
    ⟨σ, own, oa, hr, r, OaOk.refl _ _, Kb.refl _ _ _, s.heap, s.toks, rfl⟩)
  rintro k s' ⟨τ, ow', oa', hR, st, ho, kb, hh, tt, rfl⟩
  cases hR with
  | done ht =>
    refine wpAny_noRaise (ht.run A env s₀ _ ow₀ oa' rm hen g st _ fun h1 tk1 k1 => ?_)
    rw [if_neg (by decide)]
    refine wpAny_execs_nil (hQ _ _ ?_)
    have st1 := st.grow (tk := tk1) k1
    exact ⟨⟨h1, tk1, rfl⟩, kb.trans ho k1.kb, rfl, oa', ho, st1⟩
  | next ht hb hs hw =>
    rename_i k τ1 τ' ow1
    refine wpAny_noRaise (ht.run A env s₀ _ ow₀ oa' rm hen g st _ fun h1 tk1 k1 => ?_)
    rw [if_pos rfl]
    have st1 := st.grow (tk := tk1) k1
    refine wpAny_noRaise (hb.run A env s₀ _ ow₀ oa' rm hen g st1 _ fun f s3 hf => ?_)
    obtain ⟨⟨hh3, tt3, rfl⟩, kb3, rfl, oa3, ho3, st3⟩ := hf
    have kb1 : Kb env oa s.heap h1 := kb.trans ho k1.kb
    exact ⟨k, Nat.lt_succ_self _, τ', ow1, oa3, hw, st3.sub hs, ho.trans kb1 ho3 st1.locals st1.cells, kb1.trans ho kb3, hh3, tt3, rfl⟩
  | ret ht hb =>
    rename_i k r'
    refine wpAny_noRaise (ht.run A env s₀ _ ow₀ oa' rm hen g st _ fun h1 tk1 k1 => ?_)
    rw [if_pos rfl]
    have st1 := st.grow (tk := tk1) k1
    refine wpAny_noRaise (hb.run A env s₀ _ ow₀ oa' rm hen g st1 _ fun f s3 hf => ?_)
    obtain ⟨⟨hh3, tt3, rfl⟩, kb3, v3, rfl, kk, rv3⟩ := hf
    exact hQ _ _ ⟨⟨hh3, tt3, rfl⟩, (kb.trans ho k1.kb).trans ho kb3, v3, rfl, kk, rv3⟩
end
-- PL9

section
variable {C : Cx} {n : Nat} {sc : Names} {σ σ' : Sto} {own own' : Option (Str × List Int)}

theorem SeqKeep.refl (ow : List Addr) (h : Heap) : SeqKeep ow h h := ⟨fun _ _ _ _ _ e => e⟩

/-- a row of stores, and what is behind -/
theorem storeSeqK {M : Model} {A : Around} {ow₀ oa : List Addr} {s₀ : Shared} {env : Env} (hen : EnvFor sc env) (gs : List (Value → Sem Unit)) (ws : List Value) : ∀ (xs : List Str) (fs : List (Value → Sem Unit)) (vs : List Value) (ds : List V) (σ : Sto) (s : Shared) (Q : Unit → Shared → Prop),
    fs.length = xs.length → (∀ i (hi : i < fs.length) (hx : i < xs.length) v (Q : Unit → Shared → Prop) s, wpAny M A (storeName env xs[i] v) Q (fun _ _ => False) s → wpAny M A (fs[i] v) Q (fun _ _ => False) s) →
    Reps (oa ++ ow₀) s.heap vs ds → xs.length = vs.length → (∀ x ∈ xs, Storable sc own x) → StR sc σ own ow₀ oa s₀ env s →
    (∀ h' tk, Kb env oa s.heap h' → StR sc ((xs.zip ds).reverse ++ σ) own ow₀ oa s₀ env { s with heap := h', toks := tk } → wpAny M A (assignInOrder gs ws) Q (fun _ _ => False) { s with heap := h', toks := tk }) → wpAny M A (assignInOrder (fs ++ gs) (vs ++ ws)) Q (fun _ _ => False) s := by
  intro xs
  induction xs with
  | nil =>
    intro fs vs ds σ s Q hl hf r hlen hx st hQ
    obtain rfl : fs = [] := List.length_eq_zero_iff.mp (by simpa using hl)
    obtain rfl : vs = [] := List.length_eq_zero_iff.mp (by simpa using hlen.symm)
    cases r
    exact hQ s.heap s.toks (Kb.refl _ _ _) (by simpa using st)
  | cons x xs ih =>
    intro fs vs ds σ s Q hl hf r hlen hx st hQ
    cases fs with
    | nil => simp at hl
    | cons f fs =>
    cases r with
    | nil => simp at hlen
    | cons rv r =>
    rename_i v vs d ds
    rw [List.cons_append, List.cons_append]
    unfold assignInOrder
    refine wpAny_bind (wpAny_holding (hf 0 (by simp) (by simp) v _ s ?_))
    refine st.store hen rv (hx x List.mem_cons_self) (hen.cells x) fun h' tk kb st' => ?_
    refine ih fs vs ds ((x, d) :: σ) _ Q (by simpa using hl) (fun i h1 h2 v Q s h => hf (i + 1) (by simpa using h1) (by simpa using h2) v Q s h)
      (r.mono (seqKeep_kb (SeqKeep.refl _ _) kb st.localsD st.cellsD fun b hb => .inl (List.mem_append_left _ hb)) fun _ _ _ z => z) (by simpa using hlen) (fun y hy => hx y (List.mem_cons_of_mem _ hy)) st' fun h2 tk2 kb2 st2 => ?_
    refine hQ h2 tk2 (kb.trans (OaOk.refl _ _) kb2) ?_
    rw [List.zip_cons_cons, List.reverse_cons, List.append_assoc]
    exact st2
theorem storeSeq {M : Model} {A : Around} {ow₀ oa : List Addr} {s₀ : Shared} {env : Env} (hen : EnvFor sc env) (xs : List Str) (fs : List (Value → Sem Unit)) (vs : List Value) (ds : List V) (σ : Sto) (s : Shared) (Q : Unit → Shared → Prop)
    (hl : fs.length = xs.length) (hf : ∀ i (hi : i < fs.length) (hx : i < xs.length) v (Q : Unit → Shared → Prop) s, wpAny M A (storeName env xs[i] v) Q (fun _ _ => False) s → wpAny M A (fs[i] v) Q (fun _ _ => False) s)
    (r : Reps (oa ++ ow₀) s.heap vs ds) (hlen : xs.length = vs.length) (hx : ∀ x ∈ xs, Storable sc own x) (st : StR sc σ own ow₀ oa s₀ env s)
    (hQ : ∀ h' tk, Kb env oa s.heap h' → StR sc ((xs.zip ds).reverse ++ σ) own ow₀ oa s₀ env { s with heap := h', toks := tk } → Q () { s with heap := h', toks := tk }) : wpAny M A (assignInOrder fs vs) Q (fun _ _ => False) s := by
  have := storeSeqK hen [] [] xs fs vs ds σ s Q hl hf r hlen hx st fun h' tk kb st' => wpAny_pure (hQ h' tk kb st')
  rwa [List.append_nil, List.append_nil] at this

/-- x, y = e -/
theorem Ex1.unpack2 {x y : Str} {xp yp tp pos : Pos} {kt : Nat} {e : Expr} {d d2 : V} (ok : C.Ok) (he : EvO C n sc σ own e (.tup [d, d2])) (hx : Storable sc own x) (hy : Storable sc own y)
    (hs : ∀ env, swapsWithSole [.Tuple [.Name x xp, .Name y yp] kt tp] e pos.line env = pure false := by intro _; with_unfolding_all rfl) (hw : ∀ env, swappedStores [.Tuple [.Name x xp, .Name y yp] kt tp] e env = pure none := by intro _; with_unfolding_all rfl) :
    Ex1 C n sc σ own (.Assign [.Tuple [.Name x xp, .Name y yp] kt tp] e pos) (.next ((y, d2) :: (x, d) :: σ) own) := by
  with_unfolding_all intro A env s₀ s ow₀ oa rm hen g r Q hQ
  refine Assign_Tuple (he.run A env s₀ s ow₀ oa rm hen g r _ fun v h' tk k rv => ?_) (hs env) (hw env)
  cases rv with
  | tup e' hn rr =>
    rename_i a vs kk
    have hT : h'.IsTuple a vs.toArray := ⟨_, e', rfl, kk, rfl⟩
    have hlen := rr.length
    refine wpAny_assign_Tuple rm.hh hT (by simp [assignEach, hlen]) rfl fun h3 hx3 => ?_
    have k3 : Keeps h' h3 := fun b o e => hx3 b o (Nat.ne_of_lt (Heap.lt_size e)) e
    refine storeSeq hen [x, y] _ vs [d, d2] σ _ _ rfl (fun i h1 h2 v Q s h => ?_) (rr.keeps k3) hlen.symm (by simp [hx, hy]) ((r.grow (tk := tk) k).grow (tk := tk) k3) fun h4 tk4 kb st => hQ _ _ ⟨⟨h4, tk4, rfl⟩, (k.trans k3).kb.trans (OaOk.refl _ _) kb, rfl, oa, OaOk.refl _ _, st⟩
    match i, h1, h2 with
    | 0, _, _ => exact wpAny_assign_Name h
    | 1, _, _ => exact wpAny_assign_Name h
theorem Ex1.unpack3 {x y z : Str} {xp yp zp tp pos : Pos} {kt : Nat} {e : Expr} {d d2 d3 : V} (ok : C.Ok) (he : EvO C n sc σ own e (.tup [d, d2, d3])) (hx : Storable sc own x) (hy : Storable sc own y) (hz : Storable sc own z)
    (hs : ∀ env, swapsWithSole [.Tuple [.Name x xp, .Name y yp, .Name z zp] kt tp] e pos.line env = pure false := by intro _; with_unfolding_all rfl) (hw : ∀ env, swappedStores [.Tuple [.Name x xp, .Name y yp, .Name z zp] kt tp] e env = pure none := by intro _; with_unfolding_all rfl) :
    Ex1 C n sc σ own (.Assign [.Tuple [.Name x xp, .Name y yp, .Name z zp] kt tp] e pos) (.next ((z, d3) :: (y, d2) :: (x, d) :: σ) own) := by
  with_unfolding_all intro A env s₀ s ow₀ oa rm hen g r Q hQ
  refine Assign_Tuple (he.run A env s₀ s ow₀ oa rm hen g r _ fun v h' tk k rv => ?_) (hs env) (hw env)
  cases rv with
  | tup e' hn rr =>
    rename_i a vs kk
    have hT : h'.IsTuple a vs.toArray := ⟨_, e', rfl, kk, rfl⟩
    have hlen := rr.length
    refine wpAny_assign_Tuple rm.hh hT (by simp [assignEach, hlen]) rfl fun h3 hx3 => ?_
    have k3 : Keeps h' h3 := fun b o e => hx3 b o (Nat.ne_of_lt (Heap.lt_size e)) e
    refine storeSeq hen [x, y, z] _ vs [d, d2, d3] σ _ _ rfl (fun i h1 h2 v Q s h => ?_) (rr.keeps k3) hlen.symm (by simp [hx, hy, hz]) ((r.grow (tk := tk) k).grow (tk := tk) k3) fun h4 tk4 kb st => hQ _ _ ⟨⟨h4, tk4, rfl⟩, (k.trans k3).kb.trans (OaOk.refl _ _) kb, rfl, oa, OaOk.refl _ _, st⟩
    match i, h1, h2 with
    | 0, _, _ => exact wpAny_assign_Name h
    | 1, _, _ => exact wpAny_assign_Name h
    | 2, _, _ => exact wpAny_assign_Name h

theorem blockKind_of {env : Env} (h : env.scope.kind = .function) : env.blockKind = .function := by
  unfold Env.blockKind
  rw [h]
  rfl

/-- x, y = a, b: the stores go by the stack, the last first -/
theorem Ex1.swap {xs : List Str} {elts es : List Expr} {kt kv : Nat} {tp vp pos : Pos} {ds : List V} (ok : C.Ok) (he : EvO C n sc σ own (.Tuple es kv vp) (.tup ds)) (hx : ∀ x ∈ xs, Storable sc own x) (hl : xs.length = ds.length)
    (hs : ∀ env, swapsWithSole [.Tuple elts kt tp] (.Tuple es kv vp) pos.line env = pure false := by intro _; with_unfolding_all rfl)
    (hw : ∀ env, EnvFor sc env → swappedStores [.Tuple elts kt tp] (.Tuple es kv vp) env = pure (some xs)) :
    Ex1 C n sc σ own (.Assign [.Tuple elts kt tp] (.Tuple es kv vp) pos) (.next ((xs.reverse.zip ds.reverse).reverse ++ σ) own) := by
  with_unfolding_all intro A env s₀ s ow₀ oa rm hen g r Q hQ
  refine Assign_Tuple_swapped (he.run A env s₀ s ow₀ oa rm hen g r _ fun v h' tk k rv => ?_) (hs env) (hw env hen)
  cases rv with
  | tup e' hn rr =>
    rename_i a vs kk
    have hT : h'.IsTuple a vs.toArray := ⟨_, e', rfl, kk, rfl⟩
    have hlen := rr.length
    have hsz : vs.toArray.size = xs.length := by rw [List.size_toArray, hlen, hl]
    rw [← hsz]
    refine wpAny_unpackItems_tuple rm.hh hT fun h3 hx3 => ?_
    have k3 : Keeps h' h3 := fun b o e => hx3 b o (Nat.ne_of_lt (Heap.lt_size e)) e
    refine storeSeq hen xs.reverse _ _ ds.reverse σ _ _ (by simp) (fun i h1 h2 v Q s h => ?_) ((rr.reverse).keeps k3) (by simp [hlen, hl]) (fun x h => hx x (List.mem_reverse.mp h)) ((r.grow (tk := tk) k).grow (tk := tk) k3) fun h4 tk4 kb st => hQ _ _ ⟨⟨h4, tk4, rfl⟩, (k.trans k3).kb.trans (OaOk.refl _ _) kb, rfl, oa, OaOk.refl _ _, st⟩
    rw [List.getElem_map]
    exact wpAny_bindName h
end
-- PL10

section
variable {C : Cx} {n : Nat} {sc : Names} {σ σ' : Sto} {own own' : Option (Str × List Int)}

/-- the owned list is turned -/
theorem StR.turnOwn {ow₀ : List Addr} {s₀ s : Shared} {env : Env} {x : Str} {ns ns' : List Int} {ad : Addr} {h' : Heap} {tk k : Nat} {vs : List Value} (r : StR sc σ (some (x, ns)) ow₀ [ad] s₀ env s)
    (hs : Heap.SameBut ad s.heap h') (e : h'.get? ad = some { cls := .type "list", data := .seq vs.toArray k }) (hi : IntsAre vs ns') : StR sc σ (some (x, ns')) ow₀ [ad] s₀ env { s with heap := h', toks := tk } := by
  obtain ⟨m, cm, ic, ⟨ad', vs0, k0, q, a2, a3, a4, a5, a6, a7⟩, ww, hh⟩ := r.ex
  obtain rfl : ad = ad' := by simpa using q
  have hadL : ad ≠ env.locals := fun e => by obtain ⟨ob, _, _, eL, hdL, _⟩ := ic.toInCall.ns; rw [e, eL] at a5; cases a5; cases hdL
  have hs' : ∀ b o', b ≠ ad → s.heap.get? b = some o' → h'.get? b = some o' := fun b o' hb e => (hs.2 b hb).trans e
  refine ⟨m, cm, ⟨⟨?_, ic.toInCall.ns.sameBut hs (Ne.symm hadL), fun b o' e => ?_, ic.toInCall.fresh⟩, fun y c hc => ?_, ic.apart, ic.above⟩, ⟨ad, vs, k, rfl, a2, a3, a4, e, hi, a7⟩, (fun b hb => ?_), fun y d e => ?_⟩
  · obtain ⟨h1, t1, e⟩ := ic.toInCall.same
    exact ⟨h', tk, by rw [e]⟩
  · refine hs' b o' (fun eb => ?_) (ic.toInCall.keep b o' e)
    rw [eb, a4] at e
    cases e
  · refine (ic.cell y c hc).sameBut hs fun eb => ?_
    obtain ⟨ob, e1, e2⟩ := ic.cell y c hc
    rw [eb, a5] at e1
    cases e1
    cases e2
  · obtain ⟨ob, eb⟩ := ww b hb
    exact ⟨ob, hs' b ob (fun e => a7 (e ▸ hb)) eb⟩
  · obtain ⟨v, a, b⟩ := hh y d e
    exact ⟨v, a, b.mono ⟨fun b c ws kx hb e => hs' b _ (fun eb => hb (by simp [eb])) e⟩ fun _ _ _ z => z⟩
theorem StR.ownAt {ow₀ oa : List Addr} {s₀ s : Shared} {env : Env} {x : Str} {ns : List Int} (r : StR sc σ (some (x, ns)) ow₀ oa s₀ env s) :
    ∃ ad vs k, oa = [ad] ∧ s.heap.get? ad = some { cls := .type "list", data := .seq (List.toArray vs) k } ∧ IntsAre vs ns ∧ ∀ {M : Model} {A : Around} {Q : Value → Shared → Prop} {E : Value → Shared → Prop} {xp : Pos}, EnvFor sc env → (x == ("__debug__" : Str)) = false → Q (.ref ad) s → wpAny M A (eval (.Name x xp) env) Q E s := by
  obtain ⟨m, cm, ic, ⟨ad, vs, k, q, a2, a3, a4, a5, a6, a7⟩, ww, hh⟩ := r.ex
  exact ⟨ad, vs, k, q, a5, a6, fun hen hd h => wpAny_Name (wpAny_loadName_local hen.kind (by rw [hen.kindOf]; exact a2) ic.toInCall.ns a3 h) hd⟩
theorem FlR.turned {ow₀ : List Addr} {s₀ s : Shared} {env : Env} {x : Str} {ns : List Int} {ad : Addr} {h h' : Heap} {tk : Nat} (k : Keeps s.heap h) (hs : Heap.SameBut ad h h') (st : StR sc σ (some (x, ns)) ow₀ [ad] s₀ env { s with heap := h', toks := tk }) :
    FlR sc ow₀ [ad] s₀ env s (.next σ (some (x, ns))) .next { s with heap := h', toks := tk } :=
  ⟨⟨h', tk, rfl⟩, fun b o' e h1 _ h3 => (hs.2 b (by simpa using h3)).trans (k b o' e), rfl, [ad], fun _ hb => .inl hb, st⟩

theorem IntsAre.dropLast : ∀ {vs : List Value} {ns : List Int}, IntsAre vs ns → IntsAre vs.dropLast ns.dropLast
  | _, _, .nil => .nil
  | _, _, .cons _ _ .nil => .nil
  | _, _, .cons a t (.cons b u r) => .cons a t (IntsAre.dropLast (.cons b u r))
theorem IntsAre.set : ∀ {vs : List Value} {ns : List Int} (i : Nat) (z : Int) (t : Tok), IntsAre vs ns → IntsAre (vs.set i (.int z t)) (ns.set i z)
  | _, _, _, _, _, .nil => .nil
  | _, _, 0, z, t, .cons _ _ r => .cons z t r
  | _, _, i + 1, z, t, .cons a u r => .cons a u (IntsAre.set i z t r)

/-- found.pop() -/
theorem Ex1.pop {x : Str} {ns : List Int} {xp apos cpos pos : Pos} (hne : ns ≠ []) (hz : ns.length ≤ 1000000)
    (hbase : ∀ env, attributeBase (.Name x xp) "pop" env (eval (.Name x xp) env) = eval (.Name x xp) env := by intro _; with_unfolding_all rfl) (hline : (apos.endLine == cpos.line) = true := by with_unfolding_all rfl)
    (hsw : ∀ env, swapsWith (.Call (.Attribute (.Name x xp) "pop" apos) [] [] cpos) none pos.line env = pure false := by intro _; with_unfolding_all rfl) (hd : (x == ("__debug__" : Str)) = false := by decide +kernel) :
    Ex1 C n sc σ (some (x, ns)) (.Expr (.Call (.Attribute (.Name x xp) "pop" apos) [] [] cpos) pos) (.next σ (some (x, ns.dropLast))) := by
  with_unfolding_all intro A env s₀ s ow₀ oa rm hen g r Q hQ
  obtain ⟨ad, vs, k, rfl, a5, a6, ld⟩ := r.ownAt
  have hlen := a6.length
  have hvs : vs ≠ [] := fun e => by
    rw [e] at hlen
    exact hne (List.length_eq_zero_iff.mp hlen.symm)
  obtain ⟨p, y, rfl⟩ : ∃ p y, vs = p ++ [y] := ⟨vs.dropLast, vs.getLast hvs, (List.dropLast_concat_getLast hvs).symm⟩
  refine wpAny_Expr_any (wpAny_Call_method0_late (hbase env) hline (ld hen hd ?_)) (by simp [interactive, hen.kind]) (hsw env)
  refine ⟨"list", "list.pop", PySem.F.plainAttrs_list, PySem.F.slot_list_pop, PySem.F.type_list_pop, ⟨_, a5, rfl⟩, (fun a e => by cases e; exact ⟨_, a5, rfl⟩), ?_⟩
  refine callWith_of (P := fun _ => True) rfl (fun _ _ => ⟨.machine, .inr (.inl rfl), .now⟩) (evalArgs_nil3 ⟨trivial, ?_⟩)
  have hz' : (p ++ [y]).toArray.size ≤ sizeLine := by rw [List.size_toArray, hlen, sizeLine_eq]; omega
  have hk : (p ++ [y]).toArray.size - 1 = p.length := by rw [List.size_toArray, List.length_append]; rfl
  have hy : (p ++ [y]).toArray[(p ++ [y]).toArray.size - 1]? = some y := by rw [hk]; simp
  refine call_meets PySem.F.slot_list_pop ⟨_, a5, rfl⟩ PySem.F.entry_list_pop (PySem.F.args_list_pop_1 _) (PySem.MeetsSeq.list_pop_last ad _ k y hy hz') ⟨a5, hQ _ _ ?_⟩
  have hs : Heap.SameBut ad s.heap (s.heap.update ad (Obj.mapSeq fun xs => xs.eraseIdxIfInBounds ((p ++ [y]).toArray.size - 1))) := Heap.SameBut.update ..
  have q := PySem.IsL.update a5 (fun xs => xs.eraseIdxIfInBounds ((p ++ [y]).toArray.size - 1))
  rw [show (p ++ [y]).toArray.eraseIdxIfInBounds ((p ++ [y]).toArray.size - 1) = p.toArray by rw [hk, kl_erase, List.append_nil]] at q
  have hi := IntsAre.dropLast a6
  rw [List.dropLast_concat] at hi
  exact FlR.turned (Keeps.refl _) hs (r.turnOwn (tk := s.toks) hs q hi)

/-- found[i] = e -/
theorem Ex1.setItem {x : Str} {ns : List Int} {i e : Expr} {j z : Int} {xp spos pos : Pos} (ok : C.Ok) (he : EvO C n sc σ (some (x, ns)) e (.int z)) (hi : EvO C n sc σ (some (x, ns)) i (.int j)) (h0 : 0 ≤ j) (h1 : j < ns.length) (hz : ns.length ≤ 1000000)
    (hsw : ∀ env, swapsWith e (some (.Subscript (.Name x xp) i spos)) pos.line env = pure false := by intro _; with_unfolding_all rfl) (hd : (x == ("__debug__" : Str)) = false := by decide +kernel) :
    Ex1 C n sc σ (some (x, ns)) (.Assign [.Subscript (.Name x xp) i spos] e pos) (.next σ (some (x, ns.set j.toNat z))) := by
  with_unfolding_all intro A env s₀ s ow₀ oa rm hen g r Q hQ
  refine wpAny_Assign_Subscript (he.run A env s₀ s ow₀ oa rm hen g r _ fun v h' tk k rv => ?_) (hsw env)
  have r1 := r.grow (tk := tk) k
  obtain ⟨ad, vs, kk, rfl, a5, a6, ld⟩ := r1.ownAt
  refine ld hen hd (hi.run A env s₀ _ ow₀ [ad] rm hen g r1 _ fun v2 h2 tk2 k2 rv2 => ?_)
  have r2 := r1.grow (tk := tk2) k2
  have e2 := k2 _ _ a5
  have hlen := a6.length
  cases rv with
  | int _ t => cases rv2 with
    | int _ u =>
      have hl : h2.IsList ad vs.toArray := isList_of e2
      have hfit : j < 2 ^ 63 := by omega
      unfold PySem.setItem
      try with_reducible refine wpAny_holding ?_
      first | refine wpAny_bind (wpAny_pure ?_) | skip
      refine wpAny_bind (wpAny_sequenceKey hl.typeIs (by decide) ?_)
      refine wpAny_bind (wpAny_callSpecial?_slot (name := Str.ofString "__setitem__") hl.typeIs slot_list_setitem
        (wpAny_call_entry slot_list_setitem hl.typeIs entry_list_setitem ?_ (args_list_setitem _ _ _)))
      show wpAny _ _ (Builtin.List.listSubscript? (.int j u) >>= _) _ _ _
      refine wpAny_bind (wpAny_listSubscript_int (fitsIndex_of h0 hfit) ?_)
      clear hfit
      obtain ⟨j', rfl⟩ := Int.eq_ofNat_of_zero_le h0
      have hj : j' < vs.toArray.size := by rw [List.size_toArray, hlen]; omega
      have hx' : vs.toArray[j']? = some vs.toArray[j'] := Array.getElem?_eq_getElem hj
      show wpAny _ _ ((seqItemAt ad j' >>= fun r => pure (r.map (j', ·))) >>= _) _ _ _
      refine wpAny_bind (wpAny_bind (wpAny_seqItemAt e2 rfl (wpAny_pure ?_)))
      rw [hx']
      show wpAny _ _ (setSeqItemAt ad j' (.int z t) >>= _) _ _ _
      have hs : Heap.SameBut ad h2 (h2.update ad (Obj.mapSeq (·.setIfInBounds j' (.int z t)))) := Heap.SameBut.update ..
      have q := PySem.IsL.update e2 (fun xs => xs.setIfInBounds j' (.int z t))
      rw [show vs.toArray.setIfInBounds j' (.int z t) = (vs.set j' (.int z t)).toArray by simp] at q
      have fin := hQ _ _ (FlR.turned (Keeps.trans k k2) hs (r2.turnOwn (tk := tk2) hs q (IntsAre.set j' z t a6)))
      refine wpAny_bind (wpAny_setSeqItemAt e2 rfl ?_)
      first
        | exact wpAny_bind (wpAny_pure (wpAny_pure ⟨.none, rfl, wpAny_pure fin⟩))
        | exact wpAny_pure ⟨.none, rfl, wpAny_pure fin⟩

-- a new list for the frame
def EvNew (C : Cx) (n : Nat) (sc : Names) (σ : Sto) (e : Expr) (ns : List Int) : Prop :=
  ∀ (A : Around) (env : Env) (s : Shared) (ow : List Addr), Room A n → EnvFor sc env → C.G s.heap → OwOk ow s.heap → SRep sc σ ow env s.heap →
    ∀ Q : Value → Shared → Prop, (∀ ad vs k h' tk, Keeps s.heap h' → s.heap.get? ad = none → h'.get? ad = some { cls := .type "list", data := .seq (List.toArray vs) k } → IntsAre vs ns → Q (.ref ad) { s with heap := h', toks := tk }) → wpAny C.M A (eval e env) Q (fun _ _ => False) s
theorem EvNew.nil {pos : Pos} : EvNew C n sc σ (.List [] pos) [] := by
  with_unfolding_all intro A env s ow rm he g o hs Q hQ
  refine List_ (spliced_none (wpAny_newList (hQ _ [] 0 _ _ (keeps_push _ _) (get_size_none _) (Heap.get?_push_size _ rfl) .nil) (by simp)))
theorem EvNew.rep {c e : Expr} {lp pos : Pos} {i x : Int} (ok : C.Ok) (hc : Ev C n sc σ c (.int i)) (he : Ev C n sc σ e (.int x)) (h0 : 0 ≤ x) (hz : x ≤ 1000000) (hn : notStar c = true := by with_unfolding_all rfl) : EvNew C n sc σ (.BinOp (.List [c] lp) .Mult e pos) (List.replicate x.toNat i) := by
  with_unfolding_all intro A env s ow rm hen g o hs Q hQ
  refine wpAny_BinOp ((Ev.list (.cons ok hc .nil hn) (by simp)).run A env s ow rm hen g o hs _ fun v h' tk k rv => ?_)
  refine he.run A env _ ow rm hen (ok.mono k g) (o.keeps k) (hs.keeps k) _ fun v2 h2 tk2 k2 rv2 => ?_
  cases rv.keeps k2 with
  | list e hn' r =>
    cases rv2 with
    | int _ u =>
      cases r with
      | cons rv r' =>
        cases r' with
        | nil => cases rv with
          | int _ t =>
          rename_i l k'
          refine wpAny_binaryOp_repeat_ref (T := "list") (U := "int") (by decide) ⟨_, e, rfl⟩ (fun s' => typeIs_int s' x u) noFill_list_mul F.fills_int_mul F.slot_int_rmul repeat_list F.slot_int_index.lookup
            (call_meets F.slot_int_rmul (typeIs_int _ x u) F.entry_int_rmul (F.args_int_rmul_2 _ _) (int___rmul___int_list x u l [.int i t].toArray k')
              ⟨e, rfl, ⟨_, e, rfl⟩, call_meets F.slot_list_mul ⟨_, e, rfl⟩ F.entry_list_mul (F.args_list_mul_2 _ _)
                (AutoListH.list___mul___list_int_3 l [.int i t].toArray k' x u (by simp [Builtin.List.listFitsIndex]; omega) (by simp; omega) (by simp [Builtin.List.listTooLong, sizeLine]; omega))
                ⟨e, ?_⟩⟩)
          have e1 : List.foldl (fun x1 x2 => x1 ++ x2) #[] (List.replicate (if [Value.int i t].toArray.isEmpty = true then 0 else x.toNat) [Value.int i t].toArray) = (List.replicate x.toNat (Value.int i t)).toArray := by
            rw [if_neg (by simp)]
            exact (foldl_rep (.int i t) x.toNat #[]).trans (by simp)
          rw [e1]
          have hr : ∀ m : Nat, IntsAre (List.replicate m (Value.int i t)) (List.replicate m i) := fun m => by
            induction m with
            | zero => exact .nil
            | succ m ih => exact .cons _ _ ih
          exact hQ _ _ _ _ _ (k.trans (Keeps.trans k2 (keeps_push _ _))) (k.none (k2.none (get_size_none _))) (Heap.get?_push_size _ rfl) (hr _)

/-- the name is bound to the new list, which is the frame's from now on -/
theorem StR.storeOwn {M : Model} {A : Around} {ow₀ : List Addr} {s₀ s : Shared} {env : Env} {x : Str} {ad : Addr} {vs : List Value} {k : Nat} {ns : List Int} {Q : Unit → Shared → Prop} (he : EnvFor sc env) (r : StR sc σ none ([ad] ++ ow₀) [] s₀ env s)
    (e : s.heap.get? ad = some { cls := .type "list", data := .seq vs.toArray k }) (hf : s₀.heap.get? ad = none) (hno : ad ∉ ow₀) (hi : IntsAre vs ns) (hk : sc.lookup x = some .local) (hσ : σ.lookup x = none)
    (hQ : ∀ h' tk, Kb env [] s.heap h' → StR sc σ (some (x, ns)) ow₀ [ad] s₀ env { s with heap := h', toks := tk } → Q () { s with heap := h', toks := tk }) : wpAny M A (storeName env x (.ref ad)) Q (fun _ _ => False) s := by
  obtain ⟨m, cm, ic, o, ww, h⟩ := r.ex
  have hfresh := ic.toInCall.fresh
  refine wpAny_storeName_local (by rw [he.kindOf]; exact hk) ic.toInCall.ns (fun h' hn' hs' => ?_) (by rw [he.kind]; rfl)
  have sk : SeqKeep ([ad] ++ ow₀) s.heap h' := ns_not_seq ic.toInCall.ns hs'
  have hadL : ad ≠ env.locals := fun q => by obtain ⟨ob, _, _, eL, hdL, _⟩ := ic.toInCall.ns; rw [q, eL] at e; cases e; cases hdL
  refine hQ h' (s.toks + 1) (fun b o e h1 _ _ => (hs'.2 b h1).trans e) ⟨_, cm, ⟨⟨?_, hn', fun b o' e => ?_, hfresh⟩, fun k c hc => ?_, ic.apart, ic.above⟩, ⟨ad, vs, k, rfl, hk, if_pos rfl, hf, (hs'.2 ad hadL).trans e, hi, hno⟩, (fun b hb => ?_), fun y dd e => ?_⟩
  · obtain ⟨h1, t1, e⟩ := ic.toInCall.same
    exact ⟨h', _, by rw [e]⟩
  · exact hs'.extBut b o' (Nat.ne_of_lt (Nat.lt_of_lt_of_le (Heap.lt_size e) hfresh)) (ic.toInCall.keep b o' e)
  · exact (ic.cell k c hc).sameBut hs' (Nat.ne_of_gt (ic.above k c (mem_of_lookup hc)))
  · by_cases hbL : b = env.locals
    · obtain ⟨ob, _, _, eL, _⟩ := hn'
      exact ⟨ob, hbL ▸ eL⟩
    · obtain ⟨ob, eb⟩ := ww b (List.mem_append_right _ hb)
      exact ⟨ob, (hs'.2 b hbL).trans eb⟩
  · have hyx : y ≠ x := fun q => by rw [q, hσ] at e; cases e
    obtain ⟨w, a, b⟩ := h y dd e
    refine ⟨w, ?_, b.mono sk fun _ _ _ z => z⟩
    rcases a with ⟨z1, z2⟩ | z
    · exact .inl ⟨z1, (if_neg hyx).trans z2⟩
    · exact .inr z

theorem Ex1.assignOwn {x : Str} {e : Expr} {ns : List Int} {xp pos : Pos} (ok : C.Ok) (he : EvNew C n sc σ e ns) (hk : sc.lookup x = some .local) (hσ : σ.lookup x = none)
    (hsw : ∀ env, swapsWith e (some (.Name x xp)) pos.line env = pure false := by intro _; with_unfolding_all rfl) : Ex1 C n sc σ none (.Assign [.Name x xp] e pos) (.next σ (some (x, ns))) := by
  with_unfolding_all intro A env s₀ s ow₀ oa rm hen g r Q hQ
  have ho : oa = [] := by obtain ⟨_, _, _, o, _⟩ := r.ex; exact o
  subst ho
  refine wpAny_Assign_Name (he A env s _ rm hen (ok.mono r.keep g) r.owok r.srep _ fun ad vs k h' tk kk hn hl hi => ?_) (hsw env)
  have r1 : StR sc σ none ([ad] ++ ow₀) [] s₀ env { s with heap := h', toks := tk } := r.more kk (fun b hb => by rw [List.mem_singleton.mp hb]; exact hn) (fun b hb => by rw [List.mem_singleton.mp hb]; exact ⟨_, hl⟩)
  refine r1.storeOwn hen hl (r.keep.none hn) (fun hm => ?_) hi hk hσ fun h2 tk2 kb st => hQ _ _ ⟨⟨h2, tk2, rfl⟩, kk.kb.trans (OaOk.refl _ _) kb, rfl, [ad], (fun b hb => ?_), st⟩
  · obtain ⟨o, e⟩ := r.owok ad (by simpa using hm)
    rw [hn] at e
    cases e
  · rw [List.mem_singleton.mp hb]
    exact .inr hn

/-- found, y, .. = a new list, e, .. -/
theorem Ex1.swapOwn {x : Str} {xs : List Str} {elts es : List Expr} {e : Expr} {kt kv : Nat} {tp vp pos : Pos} {ds : List V} {ns : List Int} (ok : C.Ok) (he : EvNew C n sc σ e ns) (hes : Evs C n sc σ es ds) (hx : ∀ y ∈ xs, Storable sc none y) (hl : xs.length = ds.length)
    (hk : sc.lookup x = some .local) (hσ : ((xs.reverse.zip ds.reverse).reverse ++ σ).lookup x = none) (hd : ds.length ≤ 100 := by exact Nat.le_of_ble_eq_true rfl) (hn : notStar e = true := by with_unfolding_all rfl)
    (hs : ∀ env, swapsWithSole [.Tuple elts kt tp] (.Tuple (e :: es) kv vp) pos.line env = pure false := by intro _; with_unfolding_all rfl)
    (hw : ∀ env, EnvFor sc env → swappedStores [.Tuple elts kt tp] (.Tuple (e :: es) kv vp) env = pure (some (x :: xs))) :
    Ex1 C n sc σ none (.Assign [.Tuple elts kt tp] (.Tuple (e :: es) kv vp) pos) (.next ((xs.reverse.zip ds.reverse).reverse ++ σ) (some (x, ns))) := by
  with_unfolding_all intro A env s₀ s ow₀ oa rm hen g r Q hQ
  have ho : oa = [] := by obtain ⟨_, _, _, o, _⟩ := r.ex; exact o
  subst ho
  refine Assign_Tuple_swapped (Tuple_ (spliced_more (he A env s _ rm hen (ok.mono r.keep g) r.owok r.srep _ fun ad vs k h' tk kk hnew hlist hi => ?_) (starEach_cons hn))) (hs env) (hw env hen)
  have r1 : StR sc σ none ([ad] ++ ow₀) [] s₀ env { s with heap := h', toks := tk } := r.more kk (fun b hb => by rw [List.mem_singleton.mp hb]; exact hnew) (fun b hb => by rw [List.mem_singleton.mp hb]; exact ⟨_, hlist⟩)
  refine hes.run A env _ _ vp rm hen (ok.mono r1.keep g) r1.owok r1.srep _ fun ws h2 tk2 k2 rws => ?_
  have r2 := r1.grow (tk := tk2) k2
  have hlen := rws.length
  refine wpAny_newTuple ?_ (by rw [List.length_cons, hlen, sizeLine_eq]; omega)
  have r3 := r2.grow (tk := tk2) (keeps_push h2 { cls := .type "tuple", data := .seq (Value.ref ad :: ws).toArray })
  have hT : (h2.push { cls := .type "tuple", data := .seq (Value.ref ad :: ws).toArray }).IsTuple h2.objs.size (Value.ref ad :: ws).toArray := ⟨_, Heap.get?_push_size _ rfl, rfl, 0, rfl⟩
  have hsz : (Value.ref ad :: ws).toArray.size = (x :: xs).length := by rw [List.size_toArray, List.length_cons, List.length_cons, hlen, hl]
  rw [← hsz]
  refine wpAny_unpackItems_tuple rm.hh hT fun h3 hx3 => ?_
  have k3 : Keeps (h2.push { cls := .type "tuple", data := .seq (Value.ref ad :: ws).toArray }) h3 := fun b o e => hx3 b o (Nat.ne_of_lt (Heap.lt_size e)) e
  have r4 := r3.grow (tk := tk2) k3
  have kall : Keeps s.heap h3 := kk.trans (Keeps.trans k2 (Keeps.trans (keeps_push _ _) k3))
  have kl : Keeps h' h3 := Keeps.trans k2 (Keeps.trans (keeps_push _ _) k3)
  rw [show ((x :: xs).reverse.map fun n => bindName env n) = (xs.reverse.map fun n => bindName env n) ++ [bindName env x] by simp]
  rw [show (Value.ref ad :: ws).toArray.toList.reverse = ws.reverse ++ [.ref ad] by simp]
  refine storeSeqK hen _ _ xs.reverse _ _ ds.reverse σ _ _ (by simp) (fun i h1 h2 v Q s h => ?_) ((rws.reverse).keeps (Keeps.trans (keeps_push _ _) k3)) (by simp [hlen, hl]) (fun y h => hx y (List.mem_reverse.mp h)) r4 fun h4 tk4 kb st => ?_
  · rw [List.getElem_map]
    exact wpAny_bindName h
  · show wpAny C.M A (do holding [] (bindName env x (.ref ad)); pure ()) _ _ _
    have hadL : ad ≠ env.locals := fun q => by obtain ⟨oL, _, _, eL, _⟩ := r.localsD; rw [q, eL] at hnew; cases hnew
    have hadC : ∀ y c, env.cells.lookup y = some c → ad ≠ c := fun y c hc q => by obtain ⟨oc, _, ec, _⟩ := r.cellsD y c hc; rw [q, ec] at hnew; cases hnew
    have e4 : h4.get? ad = some { cls := .type "list", data := .seq vs.toArray k } := kb ad _ (kl _ _ hlist) hadL hadC List.not_mem_nil
    refine wpAny_bind (wpAny_holding (wpAny_bindName (st.storeOwn hen e4 (r.keep.none hnew) (fun hm => ?_) hi hk hσ fun h5 tk5 kb5 st5 => wpAny_pure (hQ _ _ ⟨⟨h5, tk5, rfl⟩, (kall.kb.trans (OaOk.refl _ _) kb).trans (OaOk.refl _ _) kb5, rfl, [ad], (fun b hb => ?_), st5⟩))))
    · obtain ⟨o, e⟩ := r.owok ad (by simpa using hm)
      rw [hnew] at e
      cases e
    · rw [List.mem_singleton.mp hb]
      exact .inr hnew
end
-- PL11

section
variable {C : Cx} {n : Nat} {sc : Names} {σ σ' : Sto} {own own' : Option (Str × List Int)}

theorem bindL_skip (kindOf : Str → Option NameKind) : ∀ (binds : List (Str × Value)) (m : Str → Option Value) (x : Str), (∀ p ∈ binds, p.1 ≠ x) → bindL kindOf binds m x = m x
  | [], _, _, _ => rfl
  | (y, v) :: r, m, x, h => by
    unfold bindL
    rw [bindL_skip kindOf r _ x fun p hp => h p (List.mem_cons_of_mem _ hp)]
    have hy : x ≠ y := fun e => h (y, v) List.mem_cons_self e.symm
    split
    · simp [hy]
    · rfl
theorem bindC_skip (kindOf : Str → Option NameKind) : ∀ (binds : List (Str × Value)) (m : Str → Option Value) (x : Str), (∀ p ∈ binds, p.1 ≠ x) → bindC kindOf binds m x = m x
  | [], _, _, _ => rfl
  | (y, v) :: r, m, x, h => by
    unfold bindC
    rw [bindC_skip kindOf r _ x fun p hp => h p (List.mem_cons_of_mem _ hp)]
    have hy : x ≠ y := fun e => h (y, v) List.mem_cons_self e.symm
    split
    · rfl
    · simp [hy]
theorem bind_zip (kindOf : Str → Option NameKind) {ow : List Addr} {h : Heap} : ∀ (ps : List Str) (vs : List Value) (ds : List V) (m cm : Str → Option Value) (x : Str) (d : V), Reps ow h vs ds → ps.length = vs.length → ps.Nodup → (ps.zip ds).lookup x = some d →
    ∃ v, Rep ow h v d ∧ (kindOf x = some .local → bindL kindOf (ps.zip vs) m x = some v) ∧ (kindOf x ≠ some .local → bindC kindOf (ps.zip vs) cm x = some v)
  | [], _, _, _, _, _, _, _, _, _, e => by simp at e
  | p :: ps, v :: vs, d' :: ds, m, cm, x, d, .cons rv r, hl, hn, e => by
    rw [List.zip_cons_cons, List.lookup_cons] at e
    have hn' := List.nodup_cons.mp hn
    have hlen : ps.length = vs.length := by simpa using hl
    by_cases hx : x = p
    · subst hx
      simp only [beq_self_eq_true] at e
      cases e
      have hsk : ∀ q ∈ ps.zip vs, q.1 ≠ x := fun q hq e => hn'.1 (e ▸ (List.of_mem_zip hq).1)
      refine ⟨v, rv, fun hk => ?_, fun hk => ?_⟩
      · rw [List.zip_cons_cons]
        unfold bindL
        rw [bindL_skip _ _ _ _ hsk, if_pos hk]
        simp
      · rw [List.zip_cons_cons]
        unfold bindC
        rw [bindC_skip _ _ _ _ hsk, if_neg hk]
        simp
    · have : (x == p) = false := by simpa using hx
      rw [this] at e
      rw [List.zip_cons_cons]
      unfold bindL bindC
      exact bind_zip kindOf ps vs ds _ _ x d r hlen hn'.2 e
  | _ :: _, [], _, _, _, _, _, _, hl, _, _ => by simp at hl

theorem call_env_for (fd : FuncData) (L a : Addr) (hk : fd.scope.kind = .function) (hg : fd.globals = mainGlobals) (hb : fd.builtins = builtinsNs) : EnvFor fd.scope.names (callEnvC fd L a) where
  kind := hk
  names := rfl
  glob := hg
  blt := hb
  cells := fun x hx => cellsFrom_some fd.scope.names (L + 1) [] (.inl hx)

/-- a def of the text's: its body, once, for all its arguments -/
theorem Fn.def (ok : C.Ok) {a : Addr} {o : Obj} {fd : FuncData} {body : List Stmt} {k : Nat} {ps : List Str} {ds : List V} {r : V}
    (hK : ∀ h, C.G h → h.get? a = some o) (hfd : o.data = .func fd) (hcd : ∀ h, C.G h → h.CodeRec fd.code fd.qualname) (hbody : fd.body = .stmts body) (hclo : fd.closure = []) (hg : fd.globals = mainGlobals) (hb : fd.builtins = builtinsNs)
    (hbind : ∀ vs : List Value, vs.length = ps.length → bindArgs fd ⟨vs, []⟩ = pure (ps.zip vs)) (hlen : ds.length = ps.length) (hnd : ps.Nodup) (hpk : ∀ x ∈ ps, fd.scope.names.lookup x = some .local ∨ fd.scope.names.lookup x = some .cell)
    (hco : fd.scope.isCoroutine = false) (hgen : fd.scope.isGenerator = false) (hk : fd.scope.kind = .function)
    (hex : Ex C k fd.scope.names (ps.zip ds) none body (.ret r)) : Fn C (k + 1) (.fn a) ds r := by
  refine ⟨fun h g => ⟨o, fd, hK h g, hfd⟩, ?_⟩
  with_unfolding_all intro A s ow fv vs rm g oo rf ra Q hQ
  cases rf
  have hvl : vs.length = ps.length := by rw [ra.length, hlen]
  refine wpAny_call (codeAny_call_cells rm.room (hK _ g) hfd (ok.nl g) (hcd _ g) hbody (hbind vs hvl) hclo ?_ (fun s₁ ic => ?_) hco hgen hk)
  · intro x hx
    rcases hpk x.1 (List.of_mem_zip hx).1 with h | h
    · exact .inl h
    · exact .inr ⟨h, cellsFrom_some _ _ _ (.inl h)⟩
  · have hen := call_env_for fd s.heap.objs.size a hk hg hb
    have st : StR fd.scope.names (ps.zip ds) none ow [] s (callEnvC fd s.heap.objs.size a) s₁ := by
      refine ⟨_, _, ic, rfl, fun b hb => ?_, fun x d e => ?_⟩
      · obtain ⟨o, e⟩ := oo b hb
        exact ⟨o, ic.toInCall.keep _ _ e⟩
      · obtain ⟨v, rv, h1, h2⟩ := bind_zip (callEnvC fd s.heap.objs.size a).kindOf ps vs ds (fun _ => none) (fun _ => none) x d (ra.keeps ic.toInCall.keep) hvl.symm hnd e
        refine ⟨v, ?_, by simpa using rv⟩
        have hmem : x ∈ ps := by
          have : ∀ (ps : List Str) (ds : List V), (ps.zip ds).lookup x = some d → x ∈ ps := by
            intro ps
            induction ps with
            | nil => intro ds e; simp at e
            | cons p ps ih =>
              intro ds e
              cases ds with
              | nil => simp at e
              | cons d' ds =>
                rw [List.zip_cons_cons, List.lookup_cons] at e
                by_cases hx : x = p
                · exact hx ▸ List.mem_cons_self
                · have : (x == p) = false := by simpa using hx
                  rw [this] at e
                  exact List.mem_cons_of_mem _ (ih ds e)
          exact this ps ds e
        rcases hpk x hmem with h | h
        · exact .inl ⟨h, h1 h⟩
        · exact .inr ⟨h, cellsFrom_some _ _ _ (.inl h), h2 (by show fd.scope.names.lookup x ≠ _; rw [h]; decide)⟩
    refine wpAny_mono (hex.run _ _ s s₁ ow [] rm.deeper hen g st _ fun f s' hf => ?_) (fun _ _ h => h) (fun _ _ h => h.elim)
    obtain ⟨⟨h2, tk2, e2⟩, _, v, rfl, kk, rv⟩ := hf
    obtain ⟨h1, t1, e1⟩ := ic.toInCall.same
    have := hQ v h2 tk2 (by rw [e2] at kk; exact kk) (by rw [e2] at rv; exact rv)
    rw [e2, e1]
    exact this
end
-- PL12

section
variable {prog : Program} {w : World} {A : Around} {R : Result → Shared → Prop} {s : Shared}
theorem codeAny_compLoop_any {elt target iter : Expr} {scope : Scope} {pos : Pos} {it acc : Value} {env : Env} (I : Nat → Shared → Prop)
    (turn : ∀ n s, I n s → wpAny (model prog w) A (pyNext it) (fun r s₁ => match r with
      | none => R (.ok .next) s₁
      | some v => wpAny (model prog w) A (letOwnedTupleGo target it v) (fun _ s₁' => wpAny (model prog w) A (PySem.assign target env v) (fun _ s₂ => wpAny (model prog w) A (eval elt env) (fun x s₃ =>
          wpAny (model prog w) A (PySem.call (.builtin "list.append") [acc, x]) (fun _ s₄ => ∃ m, m < n ∧ I m s₄) (notedBy (model prog w) A env fun e s' => R (.error e) s') s₃)
          (notedBy (model prog w) A env fun e s' => R (.error e) s') s₂) (notedBy (model prog w) A env fun e s' => R (.error e) s') s₁') (notedBy (model prog w) A env fun e s' => R (.error e) s') s₁) (notedBy (model prog w) A env fun e s' => R (.error e) s') s)
    (n : Nat) (h : I n s) :
    codeAny (model prog w) A (.compLoop (.ListComp elt [⟨target, iter, [], 0⟩] scope pos) 0 it acc env) R s := by
  refine codeAny_loop rfl I (fun n s hI => ?_) n h
  show wpAny _ _ ((compTurn (.ListComp elt [⟨target, iter, [], 0⟩] scope pos) 0 it acc env).onRaise (fun x => do noteFrame x env; theTreesLotGoes x)) _ _ s
  refine wpAny_noted ?_
  rw [compTurn_list1]
  refine wpAny_bind (wpAny_standAt (wpAny_bind (wpAny_mono (turn n s hI) (fun r s₁ h₁ => ?_) fun _ _ h' => h')))
  cases r with
  | none => exact wpAny_pure h₁
  | some v =>
    refine wpAny_bind (wpAny_mono h₁ (fun _ s₁' h₁' => ?_) fun _ _ h' => h')
    exact wpAny_bind (wpAny_mono h₁' (fun _ s₂ h₂ => wpAny_bind (wpAny_bind (wpAny_mono h₂ (fun x s₃ h₃ => wpAny_bind (wpAny_mono h₃
      (fun _ s₄ h₄ => wpAny_pure (wpAny_pure ⟨rfl, h₄⟩)) fun _ _ h' => h')) fun _ _ h' => h'))) fun _ _ h' => h')
end

def closeL (cells : List (Str × Addr)) : List (Str × NameKind) → List (Str × Addr) → List (Str × Addr)
  | [], acc => acc
  | (n, k) :: r, acc => if k == .free then (match cells.lookup n with | some c => closeL cells r ((n, c) :: acc) | none => closeL cells r acc) else closeL cells r acc

theorem closureFor_go (env : Env) (f : Str × NameKind → List (Str × Addr) → Sem (ForInStep (List (Str × Addr))))
    (hf : ∀ n k cs, f (n, k) cs = if k == .free then (do let c ← cellOf env n; pure (.yield ((n, c) :: cs))) else pure (.yield cs)) :
    ∀ (names : List (Str × NameKind)) (acc : List (Str × Addr)), (∀ y ∈ names, y.2 = .free → (env.cells.lookup y.1).isSome = true) → (forIn names acc f : Sem _) = pure (closeL env.cells names acc)
  | [], acc, _ => rfl
  | (n, k) :: r, acc, h => by
    rw [List.forIn_cons, hf]
    unfold closeL
    by_cases hk : k = .free
    · subst hk
      obtain ⟨c, hc⟩ := Option.isSome_iff_exists.mp (h (n, .free) List.mem_cons_self rfl)
      simp only [beq_self_eq_true, if_true, hc]
      have hcell : cellOf env n = pure c := by unfold cellOf; rw [hc]
      rw [hcell]
      show (forIn r ((n, c) :: acc) f : Sem _) = _
      exact closureFor_go env f hf r _ fun y hy => h y (List.mem_cons_of_mem _ hy)
    · have : (k == NameKind.free) = false := by simpa using hk
      simp only [this, Bool.false_eq_true, if_false]
      show (forIn r acc f : Sem _) = _
      exact closureFor_go env f hf r _ fun y hy => h y (List.mem_cons_of_mem _ hy)
theorem closureFor_eq {scope : Scope} {env : Env} (h : ∀ y ∈ scope.names, y.2 = .free → (env.cells.lookup y.1).isSome = true) : closureFor scope env = pure (closeL env.cells scope.names []) := by
  simp only [closureFor]
  rw [closureFor_go env _ (fun n k cs => by cases hk : k == NameKind.free <;> simp [hk]) scope.names [] h]
  rfl

theorem closeL_lookup (cells : List (Str × Addr)) : ∀ (names : List (Str × NameKind)) (acc : List (Str × Addr)) (x : Str), (∀ c, acc.lookup x = some c → cells.lookup x = some c) →
    (∀ c, (closeL cells names acc).lookup x = some c → cells.lookup x = some c)
  | [], _, _, h => h
  | (n, k) :: r, acc, x, h => by
    unfold closeL
    split
    · cases hc : cells.lookup n with
      | none => exact closeL_lookup cells r acc x h
      | some c' =>
        refine closeL_lookup cells r _ x fun c e => ?_
        rw [List.lookup_cons] at e
        by_cases hx : x = n
        · subst hx
          simp only [beq_self_eq_true] at e
          cases e; exact hc
        · have : (x == n) = false := by simpa using hx
          rw [this] at e
          exact h c e
    · exact closeL_lookup cells r acc x h
theorem closeL_some (cells : List (Str × Addr)) : ∀ (names : List (Str × NameKind)) (acc : List (Str × Addr)) (x : Str), ((acc.lookup x).isSome = true ∨ ((x, NameKind.free) ∈ names ∧ (cells.lookup x).isSome = true)) →
    ((closeL cells names acc).lookup x).isSome = true
  | [], _, _, h => by
    rcases h with h | ⟨h, _⟩
    · exact h
    · cases h
  | (n, k) :: r, acc, x, h => by
    unfold closeL
    have keep : ∀ c', (acc.lookup x).isSome = true → (((n, c') :: acc).lookup x).isSome = true := fun c' h => by
      rw [List.lookup_cons]
      by_cases hx : x = n
      · subst hx; simp
      · have : (x == n) = false := by simpa using hx
        rw [this]; exact h
    split
    · rename_i hk
      cases hc : cells.lookup n with
      | none =>
        refine closeL_some cells r acc x ?_
        rcases h with h | ⟨h, h2⟩
        · exact .inl h
        · rcases List.mem_cons.mp h with e | h
          · cases e; rw [hc] at h2; cases h2
          · exact .inr ⟨h, h2⟩
      | some c' =>
        refine closeL_some cells r _ x ?_
        rcases h with h | ⟨h, h2⟩
        · exact .inl (keep c' h)
        · rcases List.mem_cons.mp h with e | h
          · cases e; exact .inl (by simp)
          · exact .inr ⟨h, h2⟩
    · rename_i hk
      refine closeL_some cells r acc x ?_
      rcases h with h | ⟨h, h2⟩
      · exact .inl h
      · rcases List.mem_cons.mp h with e | h
        · cases e; exact absurd rfl hk
        · exact .inr ⟨h, h2⟩

section
variable {C : Cx} {n : Nat} {sc : Names} {σ σ' : Sto} {own own' : Option (Str × List Int)}

def compNames (sc : Names) (cn : Names) : Names := cn.map fun p => if (p.2 == .free && sc.lookup p.1 == some .cell) then (p.1, .cell) else p
theorem relabel_names {scope : Scope} {env : Env} (he : EnvFor sc env) : (relabel scope env).names = compNames sc scope.names := by
  unfold relabel compNames
  simp only
  congr 1
  funext p
  obtain ⟨a, b⟩ := p
  rw [he.kind, he.kindOf]
  simp only [beq_self_eq_true, Bool.and_true]
theorem lookup_comp_cons {cn : Names} {p : Str × NameKind} {x : Str} : (compNames sc (p :: cn)).lookup x = if x = p.1 then some (if (p.2 == .free && sc.lookup p.1 == some .cell) then .cell else p.2) else (compNames sc cn).lookup x := by
  unfold compNames
  rw [List.map_cons]
  by_cases hx : x = p.1
  · rw [if_pos hx]
    by_cases hk : (p.2 == NameKind.free && List.lookup p.1 sc == some NameKind.cell) = true
    · rw [if_pos hk, if_pos hk, List.lookup_cons]
      simp [hx]
    · rw [if_neg hk, if_neg hk]
      obtain ⟨a, b⟩ := p
      rw [List.lookup_cons]
      simp only at hx
      simp [hx]
  · rw [if_neg hx]
    have e : (x == p.1) = false := by simpa using hx
    by_cases hk : (p.2 == NameKind.free && List.lookup p.1 sc == some NameKind.cell) = true
    · rw [if_pos hk, List.lookup_cons]
      simp only [e]
    · rw [if_neg hk]
      obtain ⟨a, b⟩ := p
      rw [List.lookup_cons]
      simp only at e
      simp only [e]
theorem lookup_cons' {α : Type} {r : List (Str × α)} {p : Str × α} {x : Str} : (p :: r).lookup x = if x = p.1 then some p.2 else r.lookup x := by
  obtain ⟨a, b⟩ := p
  rw [List.lookup_cons]
  by_cases hx : x = a
  · simp [hx]
  · have e : (x == a) = false := by simpa using hx
    simp [e, hx]
theorem lookup_comp_local : ∀ {cn : Names} {x : Str}, cn.lookup x = some .local → (compNames sc cn).lookup x = some .local
  | [], _, h => by simp at h
  | p :: r, x, h => by
    rw [lookup_cons'] at h
    rw [lookup_comp_cons]
    by_cases hx : x = p.1
    · rw [if_pos hx] at h ⊢
      cases h' : p.2 <;> rw [h'] at h <;> cases h
      rfl
    · rw [if_neg hx] at h ⊢
      exact lookup_comp_local h
theorem lookup_comp_free : ∀ {cn : Names} {x : Str}, cn.lookup x = some .free → sc.lookup x = some .cell → (compNames sc cn).lookup x = some .cell
  | [], _, h, _ => by simp at h
  | p :: r, x, h, hc => by
    rw [lookup_cons'] at h
    rw [lookup_comp_cons]
    by_cases hx : x = p.1
    · rw [if_pos hx] at h ⊢
      cases h' : p.2 <;> rw [h'] at h <;> cases h
      rw [← hx, hc]
      rfl
    · rw [if_neg hx] at h ⊢
      exact lookup_comp_free h hc
theorem comp_cell : ∀ {cn : Names} {x : Str}, (∀ y ∈ cn, y.2 ≠ .cell) → (compNames sc cn).lookup x = some .cell → (x, NameKind.free) ∈ cn ∧ sc.lookup x = some .cell
  | [], _, _, h => by simp [compNames] at h
  | p :: r, x, hcell, h => by
    rw [lookup_comp_cons] at h
    have hr : ∀ y ∈ r, y.2 ≠ .cell := fun y hy => hcell y (List.mem_cons_of_mem _ hy)
    by_cases hx : x = p.1
    · rw [if_pos hx] at h
      by_cases hk : (p.2 == NameKind.free && List.lookup p.1 sc == some NameKind.cell) = true
      · simp only [Bool.and_eq_true, beq_iff_eq] at hk
        refine ⟨?_, hx ▸ hk.2⟩
        obtain ⟨a, b⟩ := p
        simp only at hx hk
        rw [hx, ← hk.1]
        exact List.mem_cons_self
      · rw [if_neg hk] at h
        exact absurd (Option.some.inj h) (hcell p List.mem_cons_self)
    · rw [if_neg hx] at h
      obtain ⟨a, b⟩ := comp_cell hr h
      exact ⟨List.mem_cons_of_mem _ a, b⟩
end
-- PL13

section
variable {C : Cx} {n : Nat} {sc : Names} {σ σ' : Sto} {own own' : Option (Str × List Int)}

/-- what a comprehension's scope must be like -/
structure CompOk (sc : Names) (σ : Sto) (scope : Scope) (σc : Sto) : Prop where
  kind : scope.kind = .function
  nocell : ∀ y ∈ scope.names, y.2 ≠ .cell
  names : ∀ y ∈ scope.names, y.2 = .local → scope.names.lookup y.1 = some .local
  free : ∀ y ∈ scope.names, y.2 = .free → sc.lookup y.1 = some .cell
  sub : ∀ y d, σc.lookup y = some d → σ.lookup y = some d ∧ scope.names.lookup y = some .free

def compE (scope : Scope) (env : Env) (Lc : Addr) : Env := { newEnv scope Lc env.globals (closeL env.cells scope.names []) env.qual none .none (some env) 0 with scope := relabel scope env }

theorem compE_for {scope : Scope} {env : Env} {Lc : Addr} {σc : Sto} (he : EnvFor sc env) (ck : CompOk sc σ scope σc) : EnvFor (compNames sc scope.names) (compE scope env Lc) where
  kind := ck.kind
  names := relabel_names he
  glob := he.glob
  blt := he.blt
  cells := fun x hx => by
    obtain ⟨h1, h2⟩ := comp_cell ck.nocell hx
    exact closeL_some env.cells scope.names [] x (.inr ⟨h1, he.cells x h2⟩)

/-- what stands at a comprehension's head -/
structure CS (C : Cx) (ow wr : List Addr) (s : Shared) (h hm : Heap) (D Lc : Addr) (rs : List V) (i : Nat) (s' : Shared) : Prop where
  kept : ∀ b o, b ∉ wr → h.get? b = some o → s'.heap.get? b = some o
  acc : ∃ ws k, s'.heap.get? D = some { cls := .type "list", data := .seq (List.toArray ws) k } ∧ Reps (Lc :: D :: (wr ++ ow)) s'.heap ws (rs.take i)
  ns : ∃ m, s'.heap.Ns Lc m
  wex : ∀ b ∈ wr, ∃ o, s'.heap.get? b = some o
  same : ∃ hh tt, s' = { s with heap := hh, toks := tt }
structure CF (C : Cx) (sc : Names) (σ : Sto) (ow wr fp : List Addr) (env : Env) (s : Shared) (h hm : Heap) (D Lc : Addr) : Prop where
  g : C.G s.heap
  o : OwOk ow s.heap
  hs : SRep sc σ ow env s.heap
  k1 : Keeps s.heap hm
  k2 : Keeps hm h
  hwr : ∀ b ∈ wr, hm.get? b = none ∧ ∃ o, h.get? b = some o
  hfp : ∀ b ∈ fp, ∃ o, h.get? b = some o
  hD : h.get? D = none
  hL : h.get? Lc = none
  hDL : D ≠ Lc

section
variable {ow wr fp : List Addr} {env : Env} {s : Shared} {h hm : Heap} {D Lc : Addr} {rs : List V} {i : Nat} {s' : Shared}
theorem CF.wfresh (F : CF C sc σ ow wr fp env s h hm D Lc) : ∀ b ∈ wr, s.heap.get? b = none := fun b hb => F.k1.none (F.hwr b hb).1
theorem CF.dwr (F : CF C sc σ ow wr fp env s h hm D Lc) : D ∉ wr := fun hb => by obtain ⟨o, e⟩ := (F.hwr D hb).2; rw [F.hD] at e; cases e
theorem CF.lwr (F : CF C sc σ ow wr fp env s h hm D Lc) : Lc ∉ wr := fun hb => by obtain ⟨o, e⟩ := (F.hwr Lc hb).2; rw [F.hL] at e; cases e
theorem CS.keeps (F : CF C sc σ ow wr fp env s h hm D Lc) (S : CS C ow wr s h hm D Lc rs i s') : Keeps s.heap s'.heap := fun b o e => S.kept b o (fun hb => by rw [F.wfresh b hb] at e; cases e) (Keeps.trans F.k1 F.k2 b o e)
theorem CS.keepsM (F : CF C sc σ ow wr fp env s h hm D Lc) (S : CS C ow wr s h hm D Lc rs i s') : Keeps hm s'.heap := fun b o e => S.kept b o (fun hb => by rw [(F.hwr b hb).1] at e; cases e) (F.k2 b o e)
theorem CF.off (F : CF C sc σ ow wr fp env s h hm D Lc) {b : Addr} {o : Obj} (e : hm.get? b = some o) (hb : b ∉ ow) : b ∉ Lc :: D :: (wr ++ ow) := fun hm' => by
  have e2 := F.k2 b o e
  rcases List.mem_cons.mp hm' with q | q
  · rw [q, F.hL] at e2
    cases e2
  · rcases List.mem_cons.mp q with q | q
    · rw [q, F.hD] at e2
      cases e2
    · rcases List.mem_append.mp q with q | q
      · rw [(F.hwr b q).1] at e
        cases e
      · exact hb q
theorem CS.item (F : CF C sc σ ow wr fp env s h hm D Lc) (S : CS C ow wr s h hm D Lc rs i s') {v : Value} {d : V} (rv : Rep ow hm v d) : Rep (Lc :: D :: (wr ++ ow)) s'.heap v d :=
  rv.mono (S.keepsM F).seq fun b o e hn => F.off e hn
theorem CS.owok (F : CF C sc σ ow wr fp env s h hm D Lc) (S : CS C ow wr s h hm D Lc rs i s') : OwOk (Lc :: D :: (wr ++ ow)) s'.heap := fun b hb => by
  rcases List.mem_cons.mp hb with q | q
  · obtain ⟨m, o, _, _, e, _⟩ := S.ns
    exact ⟨o, q ▸ e⟩
  · rcases List.mem_cons.mp q with q | q
    · obtain ⟨ws, k, e, _⟩ := S.acc
      exact ⟨_, q ▸ e⟩
    · rcases List.mem_append.mp q with q | q
      · exact S.wex b q
      · obtain ⟨o, e⟩ := F.o b q
        exact ⟨o, S.keeps F b o e⟩
theorem CS.turn (F : CF C sc σ ow wr fp env s h hm D Lc) (S : CS C ow wr s h hm D Lc rs i s') {h1 : Heap} {tk1 : Nat} (hk : ∀ b o, b ∉ wr → s'.heap.get? b = some o → h1.get? b = some o) (hex : ∀ b ∈ wr, ∃ o, h1.get? b = some o) :
    CS C ow wr s h hm D Lc rs i { s' with heap := h1, toks := tk1 } where
  kept := fun b o hb e => hk b o hb (S.kept b o hb e)
  acc := by
    obtain ⟨ws, k, e, r⟩ := S.acc
    exact ⟨ws, k, hk D _ F.dwr e, r.mono ⟨fun b c vs n hb e => hk b _ (fun hm' => hb (by simp [hm'])) e⟩ fun _ _ _ z => z⟩
  ns := by obtain ⟨m, x⟩ := S.ns; exact ⟨m, x.at fun o e => hk Lc o F.lwr e⟩
  wex := hex
  same := by obtain ⟨hh, tt, rfl⟩ := S.same; exact ⟨h1, tk1, rfl⟩
theorem CS.grow (F : CF C sc σ ow wr fp env s h hm D Lc) (S : CS C ow wr s h hm D Lc rs i s') {h1 : Heap} {tk1 : Nat} (hk : Keeps s'.heap h1) : CS C ow wr s h hm D Lc rs i { s' with heap := h1, toks := tk1 } where
  kept := fun b o hb e => hk b o (S.kept b o hb e)
  acc := by
    obtain ⟨ws, k, e, r⟩ := S.acc
    exact ⟨ws, k, hk D _ e, r.keeps hk⟩
  ns := by obtain ⟨m, x⟩ := S.ns; exact ⟨m, x.keeps hk⟩
  wex := fun b hb => by obtain ⟨o, e⟩ := S.wex b hb; exact ⟨o, hk b o e⟩
  same := by obtain ⟨hh, tt, rfl⟩ := S.same; exact ⟨h1, tk1, rfl⟩
theorem CS.name (F : CF C sc σ ow wr fp env s h hm D Lc) (S : CS C ow wr s h hm D Lc rs i s') {h1 : Heap} {tk1 : Nat} {m : Str → Option Value} (hn : h1.Ns Lc m) (hsb : Heap.SameBut Lc s'.heap h1) : CS C ow wr s h hm D Lc rs i { s' with heap := h1, toks := tk1 } where
  kept := fun b o hb e => (hsb.2 b (fun q => by rw [q, F.hL] at e; cases e)).trans (S.kept b o hb e)
  acc := by
    obtain ⟨ws, k, e, r⟩ := S.acc
    obtain ⟨m0, x⟩ := S.ns
    exact ⟨ws, k, (hsb.2 D F.hDL).trans e, r.mono (ns_not_seq x hsb) fun _ _ _ z => z⟩
  ns := ⟨m, hn⟩
  wex := fun b hb => by obtain ⟨o, e⟩ := S.wex b hb; exact ⟨o, (hsb.2 b (fun q => F.lwr (q ▸ hb))).trans e⟩
  same := by obtain ⟨hh, tt, rfl⟩ := S.same; exact ⟨h1, tk1, rfl⟩
theorem CS.push (F : CF C sc σ ow wr fp env s h hm D Lc) (S : CS C ow wr s h hm D Lc rs i s') {h1 : Heap} {tk1 : Nat} {ws : List Value} {v : Value} {d : V} {k : Nat} (hD : h1.PlainList D (ws.toArray.push v)) (hsb : Heap.SameBut D s'.heap h1)
    (e0 : s'.heap.get? D = some { cls := .type "list", data := .seq ws.toArray k }) (r0 : Reps (Lc :: D :: (wr ++ ow)) s'.heap ws (rs.take i)) (rv : Rep (Lc :: D :: (wr ++ ow)) s'.heap v d) (hd : rs[i]? = some d) : CS C ow wr s h hm D Lc rs (i + 1) { s' with heap := h1, toks := tk1 } where
  kept := fun b o hb e => (hsb.2 b (fun q => by rw [q, F.hD] at e; cases e)).trans (S.kept b o hb e)
  acc := by
    obtain ⟨k2, e⟩ := hD
    have sk : SeqKeep (Lc :: D :: (wr ++ ow)) s'.heap h1 := ⟨fun b c vs n hb e => (hsb.2 b (fun q => hb (by simp [q]))).trans e⟩
    refine ⟨ws ++ [v], k2, by simpa using e, ?_⟩
    rw [List.take_add_one, hd]
    exact ((r0.mono sk fun _ _ _ z => z)).append (.cons (rv.mono sk fun _ _ _ z => z) .nil)
  ns := by obtain ⟨m, x⟩ := S.ns; exact ⟨m, x.sameBut hsb F.hDL.symm⟩
  wex := fun b hb => by obtain ⟨o, e⟩ := S.wex b hb; exact ⟨o, (hsb.2 b (fun q => F.dwr (q ▸ hb))).trans e⟩
  same := by obtain ⟨hh, tt, rfl⟩ := S.same; exact ⟨h1, tk1, rfl⟩

/-- the captured names stand in the block -/
theorem CS.srep {scope : Scope} {σc : Sto} (he : EnvFor sc env) (ck : CompOk sc σ scope σc) (F : CF C sc σ ow wr fp env s h hm D Lc) (S : CS C ow wr s h hm D Lc rs i s') : SRep (compNames sc scope.names) σc (Lc :: D :: (wr ++ ow)) (compE scope env Lc) s'.heap := by
  intro y d e
  obtain ⟨e1, e2⟩ := ck.sub y d e
  obtain ⟨v, hv, rv⟩ := F.hs y d e1
  have hmem : (y, NameKind.free) ∈ scope.names := mem_of_lookup e2
  have hsc := ck.free _ hmem rfl
  refine ⟨v, ?_, rv.mono (S.keeps F).seq fun b o eb hn => F.off (F.k1 b o eb) hn⟩
  rcases hv with ⟨q, _⟩ | ⟨_, c, hc, hcell⟩
  · rw [hsc] at q
    cases q
  · refine .inr ⟨.inl (lookup_comp_free e2 hsc), c, ?_, hcell.keeps (S.keeps F)⟩
    obtain ⟨c', hc'⟩ := Option.isSome_iff_exists.mp (closeL_some env.cells scope.names [] y (.inr ⟨hmem, by rw [hc]; rfl⟩))
    have := closeL_lookup env.cells scope.names [] y (fun c e => by simp at e) c' hc'
    rw [hc] at this
    cases this
    exact hc'
end

theorem comp_core {elt iter : Expr} {x : Str} {px pos : Pos} {scope : Scope} {ds rs : List V} {σc : Sto} (ok : C.Ok) (hit : EvIt C n sc σ iter ds) (ck : CompOk sc σ scope σc) (hx : scope.names.lookup x = some .local)
    (helt : ∀ (i : Nat) (d : V), ds[i]? = some d → ∃ r, rs[i]? = some r ∧ Ev C n (compNames sc scope.names) ((x, d) :: σc) elt r) (hlen : rs.length = ds.length) (hz : ds.length ≤ 1000000)
    {A : Around} {env : Env} {s : Shared} {ow : List Addr} (rm : Room A n) (hen : EnvFor sc env) (g : C.G s.heap) (o : OwOk ow s.heap) (hs : SRep sc σ ow env s.heap) {RR : Value → Addr → Result → Shared → Prop}
    (hRR : ∀ D Lc h1 tk1 m, Keeps s.heap h1 → s.heap.get? Lc = none → h1.Ns Lc m → Rep (Lc :: ow) h1 (.ref D) (.list rs) → RR (.ref D) Lc (.ok .next) { s with heap := h1, toks := tk1 }) :
    wpAny C.M A (eval iter env) (fun xv s₁ => wpAny C.M A (pyIter xv) (fun it s₂ => wpAny C.M A (newList []) (fun acc s₃ => wpAny C.M A (newFunctionEnv scope env.globals (closeL env.cells scope.names []) [] env.qual none .none (some env)) (fun cenv s₄ =>
      codeAny C.M A (.compStart (.ListComp elt [⟨.Name x px, iter, [], 0⟩] scope pos) 0 it acc { cenv with scope := relabel scope env }) (RR acc cenv.locals) s₄) (fun _ _ => False) s₃) (fun _ _ => False) s₂) (fun _ _ => False) s₁) (fun _ _ => False) s := by
  refine hit.run A env s ow rm hen g o hs _ fun it h' tk k0 hitr => ?_
  obtain ⟨I, fp, wr, P, St, hm, rfl, W, hst, k1, k2, hwr, hfp, hlive, hP⟩ := hitr.ex
  refine wpAny_newList (wpAny_newFunctionEnv ck.nocell (by intro y hy; simp at hy) (fun h₁ hns₁ hsb₁ => ?_) ck.kind) (by simp)
  dsimp only at hns₁ hsb₁ ⊢
  generalize hHA : h'.push { cls := .type "list", data := .seq ([] : List Value).toArray } = hA at hns₁ hsb₁ ⊢
  have hAs : hA.objs.size = h'.objs.size + 1 := by rw [← hHA, Heap.size_push]
  have fresh : ∀ j : Nat, h'.objs.size ≤ j → h'.get? j = none := fun j hj => by
    cases e : h'.get? j with
    | none => rfl
    | some o' => exact absurd (Heap.lt_size e) (Nat.not_lt.mpr hj)
  have F : CF C sc σ ow wr fp env s h' hm h'.objs.size hA.objs.size := ⟨g, o, hs, k1, k2, hwr, fun b hb => (hfp b hb).elim (fun q => q.2) fun ⟨_, _, _, _, e⟩ => ⟨_, k2 _ _ e⟩,
    fresh _ (Nat.le_refl _), fresh _ (by rw [hAs]; exact Nat.le_succ _), by rw [hAs]; exact Nat.ne_of_lt (Nat.lt_succ_self _)⟩
  have old : ∀ b o', h'.get? b = some o' → h₁.get? b = some o' := fun b o' e => (hsb₁.2 b (fun q => by rw [q, F.hL] at e; cases e)).trans (Heap.get?_push_of_some _ (hHA ▸ Heap.get?_push_of_some _ e))
  have hD₁ : h₁.get? h'.objs.size = some { cls := .type "list", data := .seq ([] : List Value).toArray } := (hsb₁.2 _ F.hDL).trans (Heap.get?_push_of_some _ (hHA ▸ Heap.get?_push_size _ rfl))
  have S₀ : ∀ t, CS C ow wr s h' hm h'.objs.size hA.objs.size rs 0 { s with heap := h₁, toks := t } := fun t => ⟨fun b o' _ e => old b o' e, ⟨[], 0, hD₁, .nil⟩, ⟨_, hns₁⟩, fun b hb => by obtain ⟨o', e⟩ := (hwr b hb).2; exact ⟨o', old b o' e⟩, h₁, t, rfl⟩
  have hst₁ : St 0 h₁ := W.frame _ _ _ hst fun b _ o' e => old b o' e
  have loop : ∀ t : Nat, codeAny C.M A (.compLoop (.ListComp elt [⟨.Name x px, iter, [], 0⟩] scope pos) 0 (.ref I) (.ref h'.objs.size) (compE scope env hA.objs.size)) (RR (.ref h'.objs.size) hA.objs.size) { s with heap := h₁, toks := t } := by
    intro t
    refine codeAny_compLoop_any (fun k s' => ∃ i, i ≤ ds.length ∧ k = ds.length - i ∧ St i s'.heap ∧ CS C ow wr s h' hm h'.objs.size hA.objs.size rs i s') ?_ ds.length ⟨0, Nat.zero_le _, rfl, hst₁, S₀ t⟩
    rintro k s' ⟨i, hi, rfl, hSt, S⟩
    by_cases hlt : i < ds.length
    · refine W.item i s' _ _ hlt hSt fun v h1 tk1 hPv hSt1 hk => ?_
      have S1 := S.turn (tk1 := tk1) F hk (hlive (i + 1) h1 hSt1)
      obtain ⟨d, hd, rv⟩ := hP i v hPv hlt
      obtain ⟨r, hr, hev⟩ := helt i d hd
      refine wpAny_pure ?_
      obtain ⟨m1, hm1⟩ := S1.ns
      refine wpAny_assign_Name (wpAny_storeName_local (env := compE scope env hA.objs.size) (by rw [(compE_for hen ck).kindOf]; exact lookup_comp_local hx) hm1 (fun h2 hn2 hs2 => ?_) (by rw [(compE_for hen ck).kind]; rfl))
      have S2 := S1.name (tk1 := tk1 + 1) F hn2 hs2
      have hSt2 : St (i + 1) h2 := W.frame _ _ _ hSt1 fun b hb o' e => (hs2.2 b (fun q => by obtain ⟨oq, eq⟩ := F.hfp b hb; rw [q] at eq; exact absurd (eq.symm.trans F.hL) (by simp))).trans e
      have rep2 : SRep (compNames sc scope.names) ((x, d) :: σc) (hA.objs.size :: h'.objs.size :: (wr ++ ow)) (compE scope env hA.objs.size) h2 := by
        intro y e hy
        rw [List.lookup_cons] at hy
        by_cases hyx : y = x
        · subst hyx
          simp only [beq_self_eq_true] at hy
          cases hy
          exact ⟨v, .inl ⟨lookup_comp_local hx, _, hn2, if_pos rfl⟩, S2.item F rv⟩
        · have : (y == x) = false := by simpa using hyx
          rw [this] at hy
          exact S2.srep hen ck F y e hy
      refine wpAny_noRaise (hev.run A _ { s' with heap := h2, toks := tk1 + 1 } _ rm (compE_for hen ck) (ok.mono (S2.keeps F) g) (S2.owok F) rep2 _ fun v3 h3 tk3 k3 rv3 => ?_)
      have S3 := S2.grow (tk1 := tk3) F k3
      have hSt3 : St (i + 1) h3 := W.frame _ _ _ hSt2 fun b _ o' e => k3 b o' e
      obtain ⟨ws, k4, e4, r4⟩ := S3.acc
      have hwl : ws.length = min i rs.length := by rw [r4.length, List.length_take]
      refine wpAny_list_append_plain ⟨k4, e4⟩ (fun h5 hp5 hs5 => ?_) (by rw [List.size_toArray, hwl, sizeLine_eq]; lia)
      have S5 := S3.push (tk1 := tk3) F hp5 hs5 e4 r4 rv3 hr
      exact ⟨ds.length - (i + 1), by lia, i + 1, hlt, rfl, W.frame _ _ _ hSt3 (fun b hb o' e => (hs5.2 b (fun q => by obtain ⟨oq, eq⟩ := F.hfp b hb; rw [q] at eq; exact absurd (eq.symm.trans F.hD) (by simp))).trans e), S5⟩
    · have hin : i = ds.length := by lia
      subst hin
      refine W.done _ _ _ hSt fun h1 tk1 hk => ?_
      obtain ⟨m, hn⟩ := S.ns
      obtain ⟨ws, k4, e4, r4⟩ := S.acc
      obtain ⟨hh, tt, rfl⟩ := S.same
      have kk : Keeps s.heap h1 := fun b o' e => hk b o' (fun hb => by rw [F.wfresh b hb] at e; cases e) (S.keeps F b o' e)
      refine hRR _ _ h1 tk1 m kk (Keeps.none (Keeps.trans k1 k2) F.hL) (hn.at fun o' e => hk _ o' F.lwr e) (.list (hk _ _ F.dwr e4) (fun hm' => ?_) ?_)
      · rcases List.mem_cons.mp hm' with q | q
        · exact F.hDL q
        · obtain ⟨oq, eq⟩ := o _ q
          have := Keeps.trans k1 k2 _ _ eq
          rw [F.hD] at this
          cases this
      · rw [← hlen, List.take_length] at r4
        exact r4.mono ⟨fun b c vs n hb e => hk b _ (fun hm' => hb (by simp [hm'])) e⟩ fun b o' _ hn hm' => hn (by
          rcases List.mem_cons.mp hm' with q | q
          · simp [q]
          · simp [q])
  exact codeAny_compStart_list (loop _) (W.self 0 _ _ _ hst₁ (loop _))

theorem Ev.comp {elt iter : Expr} {x : Str} {px pos : Pos} {scope : Scope} {ds rs : List V} {σc : Sto} (ok : C.Ok) (hit : EvIt C n sc σ iter ds) (ck : CompOk sc σ scope σc) (hx : scope.names.lookup x = some .local)
    (helt : ∀ (i : Nat) (d : V), ds[i]? = some d → ∃ r, rs[i]? = some r ∧ Ev C n (compNames sc scope.names) ((x, d) :: σc) elt r) (hlen : rs.length = ds.length) (hz : ds.length ≤ 1000000)
    (hfold : ∀ env x, foldedSetIterable iter env x = pure x := by intro _ _; with_unfolding_all rfl) : Ev C n sc σ (.ListComp elt [⟨.Name x px, iter, [], 0⟩] scope pos) (.list rs) := by
  with_unfolding_all intro A env s ow rm hen g o hs Q hQ
  rw [eval_ListComp]
  refine wpAny_comprehension_free (use := none) rfl (hfold env) (closureFor_eq fun y hy hk => hen.cells _ (ck.free y hy hk)) ck.kind ck.names (comp_core (RR := fun acc Lc => compPost C.M A (fun _ _ => False) none Q acc Lc) ok hit ck hx helt hlen hz rm hen g o hs ?_)
  intro D Lc h1 tk1 m kk hL hn rv
  refine ⟨m, hn, fun h2 hs2 => hQ _ h2 tk1 (fun b o' e => (hs2.2 b (fun q => by rw [q, hL] at e; cases e)).trans (kk b o' e)) (rv.mono (ns_not_seq hn hs2) fun _ _ _ z hm' => z (List.mem_cons_of_mem _ hm'))⟩
end
-- PL14

section
variable {C : Cx} {n : Nat} {sc : Names} {σ σ' : Sto} {own own' : Option (Str × List Int)}

theorem comp_core2 {elt iter : Expr} {x y : Str} {px py pt pos : Pos} {kt : Nat} {scope : Scope} {ds : List (V × V)} {rs : List V} {σc : Sto} (ok : C.Ok) (hit : EvIt2 C n sc σ iter ds) (ck : CompOk sc σ scope σc) (hx : scope.names.lookup x = some .local) (hy : scope.names.lookup y = some .local)
    (helt : ∀ (i : Nat) (d d2 : V), ds[i]? = some (d, d2) → ∃ r, rs[i]? = some r ∧ Ev C n (compNames sc scope.names) ((y, d2) :: (x, d) :: σc) elt r) (hlen : rs.length = ds.length) (hz : ds.length ≤ 1000000)
    {A : Around} {env : Env} {s : Shared} {ow : List Addr} (rm : Room A n) (hen : EnvFor sc env) (g : C.G s.heap) (o : OwOk ow s.heap) (hs : SRep sc σ ow env s.heap) {RR : Value → Addr → Result → Shared → Prop}
    (hRR : ∀ D Lc h1 tk1 m, Keeps s.heap h1 → s.heap.get? Lc = none → h1.Ns Lc m → Rep (Lc :: ow) h1 (.ref D) (.list rs) → RR (.ref D) Lc (.ok .next) { s with heap := h1, toks := tk1 }) :
    wpAny C.M A (eval iter env) (fun xv s₁ => wpAny C.M A (pyIter xv) (fun it s₂ => wpAny C.M A (newList []) (fun acc s₃ => wpAny C.M A (newFunctionEnv scope env.globals (closeL env.cells scope.names []) [] env.qual none .none (some env)) (fun cenv s₄ =>
      codeAny C.M A (.compStart (.ListComp elt [⟨.Tuple [.Name x px, .Name y py] kt pt, iter, [], 0⟩] scope pos) 0 it acc { cenv with scope := relabel scope env }) (RR acc cenv.locals) s₄) (fun _ _ => False) s₃) (fun _ _ => False) s₂) (fun _ _ => False) s₁) (fun _ _ => False) s := by
  refine hit.run A env s ow rm hen g o hs _ fun it h' tk k0 hitr => ?_
  obtain ⟨I, fp, wr, P, St, Mid, hm, rfl, W, hst, k1, k2, hwr, hfp, hlive, hliveM, hP⟩ := hitr.ex
  refine wpAny_newList (wpAny_newFunctionEnv ck.nocell (by intro y hy; simp at hy) (fun h₁ hns₁ hsb₁ => ?_) ck.kind) (by simp)
  dsimp only at hns₁ hsb₁ ⊢
  generalize hHA : h'.push { cls := .type "list", data := .seq ([] : List Value).toArray } = hA at hns₁ hsb₁ ⊢
  have hAs : hA.objs.size = h'.objs.size + 1 := by rw [← hHA, Heap.size_push]
  have fresh : ∀ j : Nat, h'.objs.size ≤ j → h'.get? j = none := fun j hj => by
    cases e : h'.get? j with
    | none => rfl
    | some o' => exact absurd (Heap.lt_size e) (Nat.not_lt.mpr hj)
  have F : CF C sc σ ow wr fp env s h' hm h'.objs.size hA.objs.size := ⟨g, o, hs, k1, k2, hwr, fun b hb => (hfp b hb).elim (fun q => q.2) fun ⟨_, _, _, _, e⟩ => ⟨_, k2 _ _ e⟩,
    fresh _ (Nat.le_refl _), fresh _ (by rw [hAs]; exact Nat.le_succ _), by rw [hAs]; exact Nat.ne_of_lt (Nat.lt_succ_self _)⟩
  have old : ∀ b o', h'.get? b = some o' → h₁.get? b = some o' := fun b o' e => (hsb₁.2 b (fun q => by rw [q, F.hL] at e; cases e)).trans (Heap.get?_push_of_some _ (hHA ▸ Heap.get?_push_of_some _ e))
  have hD₁ : h₁.get? h'.objs.size = some { cls := .type "list", data := .seq ([] : List Value).toArray } := (hsb₁.2 _ F.hDL).trans (Heap.get?_push_of_some _ (hHA ▸ Heap.get?_push_size _ rfl))
  have S₀ : ∀ t, CS C ow wr s h' hm h'.objs.size hA.objs.size rs 0 { s with heap := h₁, toks := t } := fun t => ⟨fun b o' _ e => old b o' e, ⟨[], 0, hD₁, .nil⟩, ⟨_, hns₁⟩, fun b hb => by obtain ⟨o', e⟩ := (hwr b hb).2; exact ⟨o', old b o' e⟩, h₁, t, rfl⟩
  have hst₁ : St 0 h₁ := W.frame _ _ _ hst fun b _ o' e => old b o' e
  have loop : ∀ t : Nat, codeAny C.M A (.compLoop (.ListComp elt [⟨.Tuple [.Name x px, .Name y py] kt pt, iter, [], 0⟩] scope pos) 0 (.ref I) (.ref h'.objs.size) (compE scope env hA.objs.size)) (RR (.ref h'.objs.size) hA.objs.size) { s with heap := h₁, toks := t } := by
    intro t
    refine codeAny_compLoop_any (fun k s' => ∃ i, i ≤ ds.length ∧ k = ds.length - i ∧ St i s'.heap ∧ CS C ow wr s h' hm h'.objs.size hA.objs.size rs i s') ?_ ds.length ⟨0, Nat.zero_le _, rfl, hst₁, S₀ t⟩
    rintro k s' ⟨i, hi, rfl, hSt, S⟩
    by_cases hlt : i < ds.length
    · refine W.item i s' _ _ hlt hSt fun T vals h1 tk1 hPv _ hT hMid hk => ?_
      have S1 := S.turn (tk1 := tk1) F hk (hliveM i T h1 hMid)
      obtain ⟨v0, v1, d, d2, rfl, hd, rv0, rv1⟩ := hP i vals hPv hlt
      obtain ⟨r, hr, hev⟩ := helt i d d2 hd
      refine W.go _ kt pt i T { s' with heap := h1, toks := tk1 } _ _ hMid fun hg hStg hkg => ?_
      have Sg := S1.turn (tk1 := tk1) F hkg (hlive (i + 1) hg hStg)
      have hTg : hg.IsTuple T #[v0, v1] := hT.at fun o e => hkg T o (W.apart i T h1 hMid) e
      refine wpAny_assign_Tuple rm.hh hTg rfl rfl fun ha hxa => ?_
      have ka : Keeps hg ha := fun b o e => hxa b o (Nat.ne_of_lt (Heap.lt_size e)) e
      have Sa := Sg.grow (tk1 := tk1) F ka
      have hSta : St (i + 1) ha := W.frame _ _ _ hStg fun b _ o' e => ka b o' e
      obtain ⟨m1, hm1⟩ := Sa.ns
      show wpAny C.M A (do holding [v1] (PySem.assign (.Name x px) (compE scope env hA.objs.size) v0); do holding [] (PySem.assign (.Name y py) (compE scope env hA.objs.size) v1); pure ()) _ _ _
      refine wpAny_bind (wpAny_holding (wpAny_assign_Name (wpAny_storeName_local (env := compE scope env hA.objs.size) (by rw [(compE_for hen ck).kindOf]; exact lookup_comp_local hx) hm1 (fun hb hnb hsb => ?_) (by rw [(compE_for hen ck).kind]; rfl))))
      have Sb := Sa.name (tk1 := tk1 + 1) F hnb hsb
      have hStb : St (i + 1) hb := W.frame _ _ _ hSta fun b hb o' e => (hsb.2 b (fun q => by obtain ⟨oq, eq⟩ := F.hfp b hb; rw [q] at eq; exact absurd (eq.symm.trans F.hL) (by simp))).trans e
      refine wpAny_bind (wpAny_holding (wpAny_assign_Name (wpAny_storeName_local (env := compE scope env hA.objs.size) (by rw [(compE_for hen ck).kindOf]; exact lookup_comp_local hy) hnb (fun h2 hn2 hs2 => wpAny_pure ?_) (by rw [(compE_for hen ck).kind]; rfl))))
      have S2 := Sb.name (tk1 := tk1 + 1 + 1) F hn2 hs2
      have hSt2 : St (i + 1) h2 := W.frame _ _ _ hStb fun b hb o' e => (hs2.2 b (fun q => by obtain ⟨oq, eq⟩ := F.hfp b hb; rw [q] at eq; exact absurd (eq.symm.trans F.hL) (by simp))).trans e
      have rep2 : SRep (compNames sc scope.names) ((y, d2) :: (x, d) :: σc) (hA.objs.size :: h'.objs.size :: (wr ++ ow)) (compE scope env hA.objs.size) h2 := by
        intro z e hz'
        rw [lookup_cons', lookup_cons'] at hz'
        by_cases hzy : z = y
        · rw [if_pos hzy] at hz'
          cases hz'
          exact ⟨v1, .inl ⟨hzy ▸ lookup_comp_local hy, _, hn2, if_pos hzy⟩, S2.item F rv1⟩
        · rw [if_neg hzy] at hz'
          by_cases hzx : z = x
          · rw [if_pos hzx] at hz'
            cases hz'
            exact ⟨v0, .inl ⟨hzx ▸ lookup_comp_local hx, _, hn2, (if_neg hzy).trans (if_pos hzx)⟩, S2.item F rv0⟩
          · rw [if_neg hzx] at hz'
            exact S2.srep hen ck F z e hz'
      refine wpAny_noRaise (hev.run A _ { s' with heap := h2, toks := tk1 + 1 + 1 } _ rm (compE_for hen ck) (ok.mono (S2.keeps F) g) (S2.owok F) rep2 _ fun v3 h3 tk3 k3 rv3 => ?_)
      have S3 := S2.grow (tk1 := tk3) F k3
      have hSt3 : St (i + 1) h3 := W.frame _ _ _ hSt2 fun b _ o' e => k3 b o' e
      obtain ⟨ws, k4, e4, r4⟩ := S3.acc
      have hwl : ws.length = min i rs.length := by rw [r4.length, List.length_take]
      refine wpAny_list_append_plain ⟨k4, e4⟩ (fun h5 hp5 hs5 => ?_) (by rw [List.size_toArray, hwl, sizeLine_eq]; lia)
      have S5 := S3.push (tk1 := tk3) F hp5 hs5 e4 r4 rv3 hr
      exact ⟨ds.length - (i + 1), by lia, i + 1, hlt, rfl, W.frame _ _ _ hSt3 (fun b hb o' e => (hs5.2 b (fun q => by obtain ⟨oq, eq⟩ := F.hfp b hb; rw [q] at eq; exact absurd (eq.symm.trans F.hD) (by simp))).trans e), S5⟩
    · have hin : i = ds.length := by lia
      subst hin
      refine W.done _ _ _ hSt fun h1 tk1 hk => ?_
      obtain ⟨m, hn⟩ := S.ns
      obtain ⟨ws, k4, e4, r4⟩ := S.acc
      obtain ⟨hh, tt, rfl⟩ := S.same
      have kk : Keeps s.heap h1 := fun b o' e => hk b o' (fun hb => by rw [F.wfresh b hb] at e; cases e) (S.keeps F b o' e)
      refine hRR _ _ h1 tk1 m kk (Keeps.none (Keeps.trans k1 k2) F.hL) (hn.at fun o' e => hk _ o' F.lwr e) (.list (hk _ _ F.dwr e4) (fun hm' => ?_) ?_)
      · rcases List.mem_cons.mp hm' with q | q
        · exact F.hDL q
        · obtain ⟨oq, eq⟩ := o _ q
          have := Keeps.trans k1 k2 _ _ eq
          rw [F.hD] at this
          cases this
      · rw [← hlen, List.take_length] at r4
        exact r4.mono ⟨fun b c vs n hb e => hk b _ (fun hm' => hb (by simp [hm'])) e⟩ fun b o' _ hn hm' => hn (by
          rcases List.mem_cons.mp hm' with q | q
          · simp [q]
          · simp [q])
  exact codeAny_compStart_list (loop _) (W.self 0 _ _ _ hst₁ (loop _))

theorem Ev.comp2 {elt iter : Expr} {x y : Str} {px py pt pos : Pos} {kt : Nat} {scope : Scope} {ds : List (V × V)} {rs : List V} {σc : Sto} (ok : C.Ok) (hit : EvIt2 C n sc σ iter ds) (ck : CompOk sc σ scope σc) (hx : scope.names.lookup x = some .local) (hy : scope.names.lookup y = some .local)
    (helt : ∀ (i : Nat) (d d2 : V), ds[i]? = some (d, d2) → ∃ r, rs[i]? = some r ∧ Ev C n (compNames sc scope.names) ((y, d2) :: (x, d) :: σc) elt r) (hlen : rs.length = ds.length) (hz : ds.length ≤ 1000000)
    (hfold : ∀ env x, foldedSetIterable iter env x = pure x := by intro _ _; with_unfolding_all rfl) : Ev C n sc σ (.ListComp elt [⟨.Tuple [.Name x px, .Name y py] kt pt, iter, [], 0⟩] scope pos) (.list rs) := by
  with_unfolding_all intro A env s ow rm hen g o hs Q hQ
  rw [eval_ListComp]
  refine wpAny_comprehension_free (use := none) rfl (hfold env) (closureFor_eq fun y hy hk => hen.cells _ (ck.free y hy hk)) ck.kind ck.names (comp_core2 (RR := fun acc Lc => compPost C.M A (fun _ _ => False) none Q acc Lc) ok hit ck hx hy helt hlen hz rm hen g o hs ?_)
  intro D Lc h1 tk1 m kk hL hn rv
  refine ⟨m, hn, fun h2 hs2 => hQ _ h2 tk1 (fun b o' e => (hs2.2 b (fun q => by rw [q, hL] at e; cases e)).trans (kk b o' e)) (rv.mono (ns_not_seq hn hs2) fun _ _ _ z hm' => z (List.mem_cons_of_mem _ hm'))⟩

/-- y = [.. for ..]: the block's own road -/
theorem Ex1.assignComp {elt iter : Expr} {x y : Str} {px py pos spos : Pos} {scope : Scope} {ds rs : List V} {σc : Sto} (ok : C.Ok) (hit : EvIt C n sc σ iter ds) (ck : CompOk sc σ scope σc) (hx : scope.names.lookup x = some .local)
    (helt : ∀ (i : Nat) (d : V), ds[i]? = some d → ∃ r, rs[i]? = some r ∧ Ev C n (compNames sc scope.names) ((x, d) :: σc) elt r) (hlen : rs.length = ds.length) (hz : ds.length ≤ 1000000) (hsy : Storable sc own y)
    (hsw : ∀ env, EnvFor sc env → swapsWith (.ListComp elt [⟨.Name x px, iter, [], 0⟩] scope pos) (some (.Name y py)) spos.line env = pure true)
    (hfold : ∀ env x, foldedSetIterable iter env x = pure x := by intro _ _; with_unfolding_all rfl) : Ex1 C n sc σ own (.Assign [.Name y py] (.ListComp elt [⟨.Name x px, iter, [], 0⟩] scope pos) spos) (.next ((y, .list rs) :: σ) own) := by
  with_unfolding_all intro A env s₀ s ow₀ oa rm hen g r Q hQ
  rw [exec_Assign_Name_used _ _ _ _ (hsw env hen)]
  refine wpAny_bind (wpAny_standAt (wpAny_bind ?_))
  show wpAny _ A (do let _ ← comprehension (.ListComp elt [⟨.Name x px, iter, [], 0⟩] scope pos) scope env _ (newList []) false (eval iter env) (some (PySem.assign (.Name y py) env))) _ _ s
  refine wpAny_bind (wpAny_mono (wpAny_comprehension_free (use := some (PySem.assign (.Name y py) env)) (Q := fun _ s' => Q .next s') rfl (hfold env) (closureFor_eq fun z hz hk => hen.cells _ (ck.free z hz hk)) ck.kind ck.names
    (comp_core (RR := fun acc Lc => compPost C.M A (fun _ _ => False) (some (PySem.assign (.Name y py) env)) (fun _ s' => Q .next s') acc Lc) ok hit ck hx helt hlen hz rm hen (ok.mono r.keep g) r.owok r.srep ?_)) (fun _ s' hq => wpAny_pure (wpAny_pure hq)) fun _ _ e => e)
  intro D Lc h1 tk1 m kk hL hn rv
  have hLo : ∃ o, h1.get? Lc = some o := by obtain ⟨o, _, _, e, _⟩ := hn; exact ⟨o, e⟩
  have r1 : StR sc σ own ([Lc] ++ ow₀) oa s₀ env { s with heap := h1, toks := tk1 } := r.more kk (fun b hb => by rw [List.mem_singleton.mp hb]; exact hL) (fun b hb => by rw [List.mem_singleton.mp hb]; exact hLo)
  show wpAny _ A (PySem.assign (.Name y py) env (.ref D)) _ _ _
  refine wpAny_assign_Name (r1.store hen (rv.mono (SeqKeep.refl _ _) fun b _ _ z hm' => z ?_) hsy (hen.cells y) fun h2 tk2 kb st => ?_)
  · simp only [List.mem_append, List.mem_cons, List.not_mem_nil, or_false] at hm' ⊢
    rcases hm' with q | q | q
    · exact .inr (.inl q)
    · exact .inl q
    · exact .inr (.inr q)
  obtain ⟨oL, _, _, eL, _⟩ := r.localsD
  have hLL : Lc ≠ env.locals := fun q => by rw [q, eL] at hL; cases hL
  have hLc : ∀ z c, env.cells.lookup z = some c → Lc ≠ c := fun z c hc q => by obtain ⟨oc, _, ec, _⟩ := r.cellsD z c hc; rw [q, ec] at hL; cases hL
  have hLo' : Lc ∉ oa := fun hm' => by obtain ⟨o, e⟩ := r.owok Lc (List.mem_append_left _ hm'); rw [hL] at e; cases e
  have hLw : Lc ∉ ow₀ := fun hm' => by obtain ⟨o, e⟩ := r.owok Lc (List.mem_append_right _ hm'); rw [hL] at e; cases e
  have hn2 : h2.Ns Lc m := hn.at fun o e => kb Lc o e hLL hLc hLo'
  refine ⟨m, hn2, fun h3 hs3 => hQ _ _ ?_⟩
  have st3 : StR sc ((y, .list rs) :: σ) own ow₀ oa s₀ env { s with heap := h3, toks := tk2 } := st.leave (tk := tk2) (fun b o hb e => (hs3.2 b (by simpa using hb)).trans e)
    (fun b hb => by rw [List.mem_singleton.mp hb]; exact ⟨r.keep.none hL, hLL, hLc⟩) (fun b hb hm' => hLw (List.mem_singleton.mp hm' ▸ hb))
  exact ⟨⟨h3, tk2, rfl⟩, fun b o e q1 q2 q3 => (hs3.2 b (fun q => by rw [q, hL] at e; cases e)).trans ((kk.kb.trans (OaOk.refl _ _) kb) b o e q1 q2 q3), rfl, oa, OaOk.refl _ _, st3⟩
end
-- PX

/-- the def that stands at place j of the text -/
def recAt (j : Nat) : Option DefRec := match PySem.Challenge.pw_nn0027_01.main.body[j]? with
  | some (.FunctionDef name params body _ _ _ scope _ _ pos) => some ⟨name, params, body, scope, pos⟩
  | _ => none
theorem recs_eq : recsOf Q = (List.range 56).filterMap recAt := by kernel_rfl
theorem body_len : PySem.Challenge.pw_nn0027_01.main.body.length = 56 := by kernel_rfl
theorem recAt_mem {j : Nat} {d : DefRec} (h : recAt j = some d) : d ∈ recsOf Q := by
  rw [recs_eq, List.mem_filterMap]
  refine ⟨j, List.mem_range.mpr ?_, h⟩
  rcases Nat.lt_or_ge j 56 with q | q
  · exact q
  · unfold recAt at h
    rw [List.getElem?_eq_none (by rw [body_len]; exact q)] at h
    cases h
def nameAt (j : Nat) : Str := match recAt j with
  | some d => d.name
  | none => Str.ofString ""
def Cx.ad (C : Cx) (j : Nat) : Addr := match C.mg (nameAt j) with
  | some (.ref a) => a
  | _ => 0
def gtab : List (Str × Nat) := [(Str.ofString "normal", 4), (Str.ofString "compare", 5), (Str.ofString "add", 6), (Str.ofString "sub", 7), (Str.ofString "add_at", 8), (Str.ofString "shift_left", 9), (Str.ofString "signed", 11), (Str.ofString "s_neg", 12), (Str.ofString "s_add", 13), (Str.ofString "s_sub", 14), (Str.ofString "s_mul", 15), (Str.ofString "pieces", 17),
  (Str.ofString "piece_size", 18), (Str.ofString "scaled", 19), (Str.ofString "exact_small", 20), (Str.ofString "both_values", 21), (Str.ofString "value_at_two", 22), (Str.ofString "value_at_half", 23), (Str.ofString "halves_of", 24), (Str.ofString "natural", 25), (Str.ofString "from_four", 26), (Str.ofString "from_five", 27), (Str.ofString "even_coefficients", 28),
  (Str.ofString "odd_coefficients", 29), (Str.ofString "from_seven", 30), (Str.ofString "recomposed", 31), (Str.ofString "products_of", 33), (Str.ofString "ends_of", 34), (Str.ofString "values_four", 35), (Str.ofString "values_five", 36), (Str.ofString "values_seven", 37), (Str.ofString "joined_five", 38), (Str.ofString "joined_seven", 39), (Str.ofString "common_size", 40),
  (Str.ofString "toom3", 41), (Str.ofString "toom4", 42), (Str.ofString "squares_of", 43), (Str.ofString "toom_sqr3", 44), (Str.ofString "toom_sqr4", 45), (Str.ofString "_law_nat", 47), (Str.ofString "_law_value", 48), (Str.ofString "_law_mul", 49), (Str.ofString "_law_sqr", 50), (Str.ofString "_law_number", 51), (Str.ofString "_law_signed", 52), (Str.ofString "_law_at", 53),
  (Str.ofString "_law_points_right", 54), (Str.ofString "law", 55)]
theorem gtab_ok : gtab.all (fun p => (recAt p.2).isSome && nameAt p.2 == p.1) = true := by kernel_rfl
def btab : List Str := [Str.ofString "len", Str.ofString "range", Str.ofString "reversed", Str.ofString "enumerate", Str.ofString "zip", Str.ofString "list", Str.ofString "max", Str.ofString "abs", Str.ofString "sum"]
/-- the context of this text -/
structure Tx (C : Cx) : Prop where
  ok : C.Ok
  fn : ∀ d ∈ recsOf Q, ∃ a o pm code doc, C.mg d.name = some (.ref a) ∧ (∀ h, C.G h → h.get? a = some o) ∧ o.data = .func (docDef d.name d.params d.body d.scope pm code doc) ∧ ∀ h, C.G h → h.CodeRec code d.name
  bn : ∀ x ∈ btab, C.mg x = none

section
variable {C : Cx} {n : Nat} {sc : Names} {σ σ' : Sto} {own own' : Option (Str × List Int)}

theorem nameAt_of {j : Nat} {d : DefRec} (h : recAt j = some d) : nameAt j = d.name := by unfold nameAt; rw [h]
theorem Tx.ad {C : Cx} (T : Tx C) {j : Nat} {d : DefRec} (h : recAt j = some d) : C.mg d.name = some (.ref (C.ad j)) := by
  obtain ⟨a, o, pm, code, doc, h1, _⟩ := T.fn d (recAt_mem h)
  unfold Cx.ad
  rw [nameAt_of h, h1]
theorem Ev.globM {x : Str} {pos : Pos} {a : Addr} (ok : C.Ok) (hx : sc.lookup x = some .globalImplicit) (e : C.mg x = some (.ref a))
    (hd : (x == ("__debug__" : Str)) = false := by decide +kernel) : Ev C n sc σ (.Name x pos) (.fn a) := by
  with_unfolding_all intro A env s ow r he g _ hs Q hQ
  refine Name_function_global he.kind (by rw [he.kindOf]; exact hx) (loadGlobal_global (by rw [he.glob]; exact ok.g g) e ?_) hd
  exact hQ _ s.heap s.toks (Keeps.refl _) (.fn a)
theorem Ev.builtinM {x : Str} {pos : Pos} {id : String} (ok : C.Ok) (hx : sc.lookup x = some .globalImplicit) (e : C.mg x = none) (hv : bootBuiltins x = some (.builtin id)) (hn : x ≠ "__name__")
    (hd : (x == ("__debug__" : Str)) = false := by decide +kernel) : Ev C n sc σ (.Name x pos) (.bi id) := by
  with_unfolding_all intro A env s ow r he g _ hs Q hQ
  refine Name_function_global he.kind (by rw [he.kindOf]; exact hx) (loadGlobal_builtin (by rw [he.glob]; exact ok.g g) e (by rw [he.blt]; exact ok.b g) ((ok.bu x hn).trans hv) ?_) hd
  exact hQ _ s.heap s.toks (Keeps.refl _) (.bi id)
theorem Ev.typeM {x : Str} {pos : Pos} {id : String} (ok : C.Ok) (hx : sc.lookup x = some .globalImplicit) (e : C.mg x = none) (hv : bootBuiltins x = some (.type id)) (hn : x ≠ "__name__")
    (hd : (x == ("__debug__" : Str)) = false := by decide +kernel) : Ev C n sc σ (.Name x pos) (.ty id) := by
  with_unfolding_all intro A env s ow r he g _ hs Q hQ
  refine Name_function_global he.kind (by rw [he.kindOf]; exact hx) (loadGlobal_builtin (by rw [he.glob]; exact ok.g g) e (by rw [he.blt]; exact ok.b g) ((ok.bu x hn).trans hv) ?_) hd
  exact hQ _ s.heap s.toks (Keeps.refl _) (.ty id)
theorem Ev.g (T : Tx C) {x : Str} {pos : Pos} {j : Nat} (hx : sc.lookup x = some .globalImplicit) (e : gtab.lookup x = some j) (hd : (x == ("__debug__" : Str)) = false := by decide +kernel) : Ev C n sc σ (.Name x pos) (.fn (C.ad j)) := by
  have h := List.all_eq_true.mp gtab_ok (x, j) (mem_of_lookup e)
  simp only [Bool.and_eq_true, beq_iff_eq] at h
  obtain ⟨d, hd'⟩ := Option.isSome_iff_exists.mp h.1
  refine Ev.globM T.ok hx ?_ hd
  have := T.ad hd'
  rwa [← nameAt_of hd', h.2] at this
theorem Ev.bb (T : Tx C) {x : Str} {pos : Pos} {id : String} (hx : sc.lookup x = some .globalImplicit) (e : x ∈ btab) (hv : bootBuiltins x = some (.builtin id)) (hn : (x == ("__name__" : Str)) = false := by decide +kernel) (hd : (x == ("__debug__" : Str)) = false := by decide +kernel) : Ev C n sc σ (.Name x pos) (.bi id) :=
  Ev.builtinM T.ok hx (T.bn x e) hv (by simpa using hn) hd
theorem Ev.bt (T : Tx C) {x : Str} {pos : Pos} {id : String} (hx : sc.lookup x = some .globalImplicit) (e : x ∈ btab) (hv : bootBuiltins x = some (.type id)) (hn : (x == ("__name__" : Str)) = false := by decide +kernel) (hd : (x == ("__debug__" : Str)) = false := by decide +kernel) : Ev C n sc σ (.Name x pos) (.ty id) :=
  Ev.typeM T.ok hx (T.bn x e) hv (by simpa using hn) hd
theorem bv_len : bootBuiltins "len" = some (.builtin "len") := by kernel_rfl
theorem bv_max : bootBuiltins "max" = some (.builtin "max") := by kernel_rfl
theorem bv_abs : bootBuiltins "abs" = some (.builtin "abs") := by kernel_rfl
theorem bv_sum : bootBuiltins "sum" = some (.builtin "sum") := by kernel_rfl
theorem bv_range : bootBuiltins "range" = some (.type "range") := by kernel_rfl
theorem bv_reversed : bootBuiltins "reversed" = some (.type "reversed") := by kernel_rfl
theorem bv_enumerate : bootBuiltins "enumerate" = some (.type "enumerate") := by kernel_rfl
theorem bv_zip : bootBuiltins "zip" = some (.type "zip") := by kernel_rfl
theorem bv_list : bootBuiltins "list" = some (.type "list") := by kernel_rfl
theorem Ev.len (T : Tx C) {pos : Pos} (hx : sc.lookup (Str.ofString "len") = some .globalImplicit) : Ev C n sc σ (.Name (Str.ofString "len") pos) (.bi "len") := .bb T hx (by simp [btab]) bv_len
theorem Ev.max (T : Tx C) {pos : Pos} (hx : sc.lookup (Str.ofString "max") = some .globalImplicit) : Ev C n sc σ (.Name (Str.ofString "max") pos) (.bi "max") := .bb T hx (by simp [btab]) bv_max
theorem Ev.abs (T : Tx C) {pos : Pos} (hx : sc.lookup (Str.ofString "abs") = some .globalImplicit) : Ev C n sc σ (.Name (Str.ofString "abs") pos) (.bi "abs") := .bb T hx (by simp [btab]) bv_abs
theorem Ev.sum (T : Tx C) {pos : Pos} (hx : sc.lookup (Str.ofString "sum") = some .globalImplicit) : Ev C n sc σ (.Name (Str.ofString "sum") pos) (.bi "sum") := .bb T hx (by simp [btab]) bv_sum
theorem Ev.range (T : Tx C) {pos : Pos} (hx : sc.lookup (Str.ofString "range") = some .globalImplicit) : Ev C n sc σ (.Name (Str.ofString "range") pos) (.ty "range") := .bt T hx (by simp [btab]) bv_range
theorem Ev.reversed (T : Tx C) {pos : Pos} (hx : sc.lookup (Str.ofString "reversed") = some .globalImplicit) : Ev C n sc σ (.Name (Str.ofString "reversed") pos) (.ty "reversed") := .bt T hx (by simp [btab]) bv_reversed
theorem Ev.enumerate (T : Tx C) {pos : Pos} (hx : sc.lookup (Str.ofString "enumerate") = some .globalImplicit) : Ev C n sc σ (.Name (Str.ofString "enumerate") pos) (.ty "enumerate") := .bt T hx (by simp [btab]) bv_enumerate
theorem Ev.zip (T : Tx C) {pos : Pos} (hx : sc.lookup (Str.ofString "zip") = some .globalImplicit) : Ev C n sc σ (.Name (Str.ofString "zip") pos) (.ty "zip") := .bt T hx (by simp [btab]) bv_zip
theorem Ev.lst (T : Tx C) {pos : Pos} (hx : sc.lookup (Str.ofString "list") = some .globalImplicit) : Ev C n sc σ (.Name (Str.ofString "list") pos) (.ty "list") := .bt T hx (by simp [btab]) bv_list

theorem Ev.itemI {o i : Expr} {pos : Pos} {ns : List Int} {k : Int} (T : Tx C) (ho : Ev C n sc σ o (.ints ns)) (hi : Ev C n sc σ i (.int k)) (h0 : 0 ≤ k) (h1 : k < ns.length) (hz : ns.length ≤ 1000000)
    (hs : ∀ o v, subscripted i false o v = operate [o, v] (getItem o v) := by intro _ _; with_unfolding_all rfl) : Ev C n sc σ (.Subscript o i pos) (.int (ns.getD k.toNat 0)) :=
  .item T.ok ho hi h0 (by omega) (by
    have hk : k.toNat < ns.length := by omega
    simp [hk]) hs

/-- what a def's record must be like -/
def dOk (d : DefRec) (ps : List Str) : Bool :=
  !d.scope.isCoroutine && !d.scope.isGenerator && d.scope.kind == .function && ps.all (fun x => d.scope.names.lookup x == some .local || d.scope.names.lookup x == some .cell)
theorem Fn.defK (T : Tx C) {j : Nat} {d : DefRec} {body : List Stmt} {k : Nat} {ps : List Str} {ds : List V} {r : V} (hfd : recAt j = some d) (hbody : d.body = body) (hok : dOk d ps = true)
    (hbind : ∀ vs : List Value, vs.length = ps.length → ∀ pm code doc, bindArgs (docDef d.name d.params d.body d.scope pm code doc) ⟨vs, []⟩ = pure (ps.zip vs)) (hlen : ds.length = ps.length) (hnd : ps.Nodup)
    (hex : Ex C k d.scope.names (ps.zip ds) none body (.ret r)) : Fn C (k + 1) (.fn (C.ad j)) ds r := by
  obtain ⟨a, o, pm, code, doc, h1, h2, h3, h4⟩ := T.fn d (recAt_mem hfd)
  have ha : a = C.ad j := by
    have := T.ad hfd
    rw [h1] at this
    simpa using this
  subst ha
  simp only [dOk, Bool.and_eq_true, beq_iff_eq, List.all_eq_true, Bool.or_eq_true, Bool.not_eq_true'] at hok
  obtain ⟨⟨⟨h5, h6⟩, h7⟩, h8⟩ := hok
  exact Fn.def T.ok h2 h3 h4 (congrArg FuncBody.stmts hbody) rfl rfl rfl (fun vs hv => hbind vs hv pm code doc) hlen hnd h8 h5 h6 h7 hex
end


section
variable {C : Cx} {n : Nat} {sc : Names} {σ σ' : Sto}
theorem Fn.lenI {ns : List Int} (hz : ns.length ≤ 1000000) : Fn C n (.bi "len") [.ints ns] (.int ns.length) := (Fn.len (by simpa using hz)).cast (by simp)
theorem Tru.ints {ns : List Int} (hz : ns.length ≤ 1000000) : Tru C n (.ints ns) (!ns.isEmpty) := by
  have := Tru.list (C := C) (n := n) (ds := ns.map V.int) (by simpa using hz)
  rwa [List.isEmpty_map] at this
theorem Ev.sliceToI {o e : Expr} {p pos : Pos} {ns : List Int} {y : Int} (ok : C.Ok) (ho : Ev C n sc σ o (.ints ns)) (hu : Ev C n sc σ e (.int y)) (h0 : 0 ≤ y) (hz : ns.length ≤ 1000000) : Ev C n sc σ (.Subscript o (.Slice none (some e) none p) pos) (.ints (ns.take y.toNat)) :=
  (Ev.sliceTo ok ho hu h0 (by simpa using hz)).cast (by simp [List.map_take])
theorem Ev.sliceFromI {o e : Expr} {p pos : Pos} {ns : List Int} {y : Int} (ok : C.Ok) (ho : Ev C n sc σ o (.ints ns)) (hu : Ev C n sc σ e (.int y)) (h0 : 0 ≤ y) (hz : ns.length ≤ 1000000) : Ev C n sc σ (.Subscript o (.Slice (some e) none none p) pos) (.ints (ns.drop y.toNat)) :=
  (Ev.sliceFrom ok ho hu h0 (by simpa using hz)).cast (by simp [List.map_drop])
theorem Ev.slice2I {o e e2 : Expr} {p pos : Pos} {ns : List Int} {x y : Int} (ok : C.Ok) (ho : Ev C n sc σ o (.ints ns)) (hl : Ev C n sc σ e (.int x)) (hu : Ev C n sc σ e2 (.int y)) (h0 : 0 ≤ x) (h1 : 0 ≤ y) (hz : ns.length ≤ 1000000) :
    Ev C n sc σ (.Subscript o (.Slice (some e) (some e2) none p) pos) (.ints ((ns.drop x.toNat).take (y.toNat - x.toNat))) :=
  (Ev.slice2 ok ho hl hu h0 h1 (by simpa using hz)).cast (by simp [List.map_take, List.map_drop])
theorem Ev.sliceAllI {o : Expr} {p pos : Pos} {ns : List Int} (ok : C.Ok) (ho : Ev C n sc σ o (.ints ns)) (hz : ns.length ≤ 1000000) : Ev C n sc σ (.Subscript o (.Slice none none none p) pos) (.ints ns) :=
  Ev.sliceAll ok ho (by simpa using hz)
theorem Ev.sliceRevI {o e : Expr} {p pos : Pos} {ns : List Int} {y : Int} (ok : C.Ok) (ho : Ev C n sc σ o (.ints ns)) (hu : Ev C n sc σ e (.int y)) (h0 : y = -1) (hz : ns.length ≤ 1000000) :
    Ev C n sc σ (.Subscript o (.Slice none none (some e) p) pos) (.ints ns.reverse) :=
  (Ev.sliceRev ok ho hu h0 (by simpa using hz)).cast (by simp [List.map_reverse])
theorem Bop.catI {a b : List Int} (hz : a.length + b.length ≤ 1000000) : Bop C n .Add (.ints a) (.ints b) (.ints (a ++ b)) := by
  have := Bop.cat (C := C) (n := n) (a := a.map V.int) (b := b.map V.int) (by simpa using hz)
  rwa [← List.map_append] at this
theorem Bop.repI {i x : Int} (h0 : 0 ≤ x) (hz : x ≤ 1000000) : Bop C n .Mult (.ints [i]) (.int x) (.ints (List.replicate x.toNat i)) := by
  have := Bop.rep (C := C) (n := n) (d := .int i) h0 hz
  rwa [← List.map_replicate] at this
theorem le_of_ble {a b : Nat} (h : Nat.ble a b = true) : a ≤ b := Nat.le_of_ble_eq_true h
end

theorem evq_name {C : Cx} {n : Nat} {sc : Names} {σ : Sto} {x : Str} {pos : Pos} {d : V} (h : Ev C n sc σ (.Name x pos) d) : Ev C n sc σ (.Name x pos) d := h
theorem evq_sub {C : Cx} {n : Nat} {sc : Names} {σ : Sto} {a b : Expr} {pos : Pos} {d : V} (h : Ev C n sc σ (.Subscript a b pos) d) : Ev C n sc σ (.Subscript a b pos) d := h
theorem evq_call {C : Cx} {n : Nat} {sc : Names} {σ : Sto} {a : Expr} {b : List Expr} {c : List Keyword} {pos : Pos} {d : V} (h : Ev C n sc σ (.Call a b c pos) d) : Ev C n sc σ (.Call a b c pos) d := h
theorem evq_bin {C : Cx} {n : Nat} {sc : Names} {σ : Sto} {a b : Expr} {op : Operator} {pos : Pos} {d : V} (h : Ev C n sc σ (.BinOp a op b pos) d) : Ev C n sc σ (.BinOp a op b pos) d := h
theorem evq_un {C : Cx} {n : Nat} {sc : Names} {σ : Sto} {a : Expr} {op : UnaryOp} {pos : Pos} {d : V} (h : Ev C n sc σ (.UnaryOp op a pos) d) : Ev C n sc σ (.UnaryOp op a pos) d := h
theorem evq_const {C : Cx} {n : Nat} {sc : Names} {σ : Sto} {a : Const} {k : Nat} {pos : Pos} {d : V} (h : Ev C n sc σ (.Constant a k pos) d) : Ev C n sc σ (.Constant a k pos) d := h
theorem evq_tup {C : Cx} {n : Nat} {sc : Names} {σ : Sto} {a : List Expr} {k : Nat} {pos : Pos} {d : V} (h : Ev C n sc σ (.Tuple a k pos) d) : Ev C n sc σ (.Tuple a k pos) d := h
theorem evq_list {C : Cx} {n : Nat} {sc : Names} {σ : Sto} {a : List Expr} {pos : Pos} {d : V} (h : Ev C n sc σ (.List a pos) d) : Ev C n sc σ (.List a pos) d := h
theorem evq_cmp {C : Cx} {n : Nat} {sc : Names} {σ : Sto} {a : Expr} {o : List CmpOp} {r : List Expr} {pos : Pos} {d : V} (h : Ev C n sc σ (.Compare a o r pos) d) : Ev C n sc σ (.Compare a o r pos) d := h
theorem etq_cmp {C : Cx} {n : Nat} {sc : Names} {σ : Sto} {a : Expr} {o : List CmpOp} {r : List Expr} {pos : Pos} {d : Bool} (h : Et C n sc σ (.Compare a o r pos) d) : Et C n sc σ (.Compare a o r pos) d := h
theorem etq_un {C : Cx} {n : Nat} {sc : Names} {σ : Sto} {a : Expr} {op : UnaryOp} {pos : Pos} {d : Bool} (h : Et C n sc σ (.UnaryOp op a pos) d) : Et C n sc σ (.UnaryOp op a pos) d := h
theorem etq_name {C : Cx} {n : Nat} {sc : Names} {σ : Sto} {x : Str} {pos : Pos} {d : Bool} (h : Et C n sc σ (.Name x pos) d) : Et C n sc σ (.Name x pos) d := h
theorem etq_sub {C : Cx} {n : Nat} {sc : Names} {σ : Sto} {a b : Expr} {pos : Pos} {d : Bool} (h : Et C n sc σ (.Subscript a b pos) d) : Et C n sc σ (.Subscript a b pos) d := h
theorem evsq {C : Cx} {n : Nat} {sc : Names} {σ : Sto} {es : List Expr} {ds : List V} (h : Evs C n sc σ es ds) : Evs C n sc σ es ds := h
theorem bopq {C : Cx} {n : Nat} {op : Operator} {a b r : V} (h : Bop C n op a b r) : Bop C n op a b r := h
theorem iopq {C : Cx} {n : Nat} {op : Operator} {a b r : V} (h : Iop C n op a b r) : Iop C n op a b r := h
theorem copq {C : Cx} {n : Nat} {op : CmpOp} {a b : V} {r : Bool} (h : Cop C n op a b r) : Cop C n op a b r := h
theorem truq {C : Cx} {n : Nat} {a : V} {r : Bool} (h : Tru C n a r) : Tru C n a r := h
theorem fnq {C : Cx} {n : Nat} {f : V} {ds : List V} {r : V} (h : Fn C n f ds r) : Fn C n f ds r := h
section
variable {C : Cx} {n : Nat} {sc : Names} {σ σ' : Sto} {own own' : Option (Str × List Int)}
theorem Ev.itemN {x : Str} {i : Expr} {p pos : Pos} {ns : List Int} {k : Int} (T : Tx C) (ho : σ.lookup x = some (.ints ns)) (hi : Ev C n sc σ i (.int k)) (h0 : 0 ≤ k) (h1 : k < ns.length) (hz : ns.length ≤ 1000000) (hd : (x == ("__debug__" : Str)) = false := by decide +kernel) (hc : (x == ("__classdict__" : Str)) = false := by decide +kernel)
    (hs : ∀ o v, subscripted i false o v = operate [o, v] (getItem o v) := by intro _ _; with_unfolding_all rfl) : Ev C n sc σ (.Subscript (.Name x p) i pos) (.int (ns.getD k.toNat 0)) := .itemI T (.name ho hd hc) hi h0 h1 hz hs
theorem Ev.tupN {x : Str} {p q pos : Pos} {ds : List V} {k : Int} {u : Nat} {d : V} (T : Tx C) (ho : σ.lookup x = some (.tup ds)) (h0 : 0 ≤ k) (hk : k < 2 ^ 63) (hd : ds[k.toNat]? = some d) (hd' : (x == ("__debug__" : Str)) = false := by decide +kernel) (hc : (x == ("__classdict__" : Str)) = false := by decide +kernel) :
    Ev C n sc σ (.Subscript (.Name x p) (.Constant (.int k) u q) pos) d := .itemT T.ok (.name ho hd' hc) .cint h0 hk hd (fun _ _ => rfl)
theorem Ev.listN {x : Str} {i : Expr} {p pos : Pos} {ds : List V} {k : Int} {d : V} (T : Tx C) (ho : σ.lookup x = some (.list ds)) (hi : Ev C n sc σ i (.int k)) (h0 : 0 ≤ k) (hk : k < 2 ^ 63) (hd : ds[k.toNat]? = some d) (hd' : (x == ("__debug__" : Str)) = false := by decide +kernel) (hc : (x == ("__classdict__" : Str)) = false := by decide +kernel)
    (hs : ∀ o v, subscripted i false o v = operate [o, v] (getItem o v) := by intro _ _; with_unfolding_all rfl) : Ev C n sc σ (.Subscript (.Name x p) i pos) d := .item T.ok (.name ho hd' hc) hi h0 hk hd hs
theorem Ev.listC {x : Str} {p q pos : Pos} {ds : List V} {k : Int} {u : Nat} {d : V} (T : Tx C) (ho : σ.lookup x = some (.list ds)) (h0 : 0 ≤ k) (hk : k < 2 ^ 63) (hd : ds[k.toNat]? = some d) (hd' : (x == ("__debug__" : Str)) = false := by decide +kernel) (hc : (x == ("__classdict__" : Str)) = false := by decide +kernel) :
    Ev C n sc σ (.Subscript (.Name x p) (.Constant (.int k) u q) pos) d := .item T.ok (.name ho hd' hc) .cint h0 hk hd (fun _ _ => rfl)
end
theorem Storable.mkN {sc : Names} {x : Str} (h : sc.lookup x = some .local ∨ sc.lookup x = some .cell) : Storable sc none x := ⟨h, fun p hp => nomatch hp⟩
theorem Storable.mkS {sc : Names} {x y : Str} {ns : List Int} (h : sc.lookup x = some .local ∨ sc.lookup x = some .cell) (e : (x == y) = false) : Storable sc (some (y, ns)) x := ⟨h, fun p hp => by cases hp; exact beq_eq_false_iff_ne.mp e⟩
theorem prq {p : Prop} (h : p) : p := h
theorem autoq1 {a b : Str} {t : Lean.Syntax} (h : (a == b) = false) : autoParam ((a == b) = false) t := h
theorem autoq2 {l : List V} {k : Nat} {t : Lean.Syntax} (h : l.length ≤ k) : autoParam (l.length ≤ k) t := h
theorem leq {a b : Nat} (h : a ≤ b) : a ≤ b := h

-- A1
/-- the digits of x, lowest first, no noughts on top -/
def dg (B x : Nat) : List Int := if h : x = 0 ∨ B < 2 then [] else ((x % B : Nat) : Int) :: dg B (x / B)
termination_by x
decreasing_by exact Nat.div_lt_self (by lia) (by lia)
def pad (B : Nat) : Nat → Nat → List Int
  | 0, _ => []
  | i + 1, x => ((x % B : Nat) : Int) :: pad B i (x / B)
theorem dg_zero (B : Nat) : dg B 0 = [] := by rw [dg]; simp
theorem dg_pos {B x : Nat} (hB : 2 ≤ B) (hx : 0 < x) : dg B x = ((x % B : Nat) : Int) :: dg B (x / B) := by rw [dg]; rw [dif_neg (by lia)]
theorem dg_ind {B : Nat} (hB : 2 ≤ B) {P : Nat → Prop} (h0 : P 0) (h1 : ∀ x, 0 < x → P (x / B) → P x) : ∀ x, P x := fun x => by
  induction x using Nat.strongRecOn with
  | _ x ih =>
    by_cases hx : x = 0
    · rw [hx]; exact h0
    · exact h1 x (by lia) (ih _ (Nat.div_lt_self (by lia) (by lia)))
theorem pad_length (B : Nat) : ∀ i x, (pad B i x).length = i
  | 0, _ => rfl
  | i + 1, x => by simp [pad, pad_length B i]
theorem pad_zero (B : Nat) : ∀ i, pad B i 0 = List.replicate i 0
  | 0 => rfl
  | i + 1 => by simp [pad, pad_zero B i, List.replicate_succ]
theorem pad_succ (B : Nat) : ∀ i x, pad B (i + 1) x = pad B i x ++ [((x / B ^ i % B : Nat) : Int)]
  | 0, x => by simp [pad]
  | i + 1, x => by
    rw [pad, pad_succ B i (x / B), pad, Nat.div_div_eq_div_mul, Nat.pow_succ, Nat.mul_comm B]; rfl
theorem pad_append (B : Nat) : ∀ i j x, pad B (i + j) x = pad B i x ++ pad B j (x / B ^ i)
  | 0, j, x => by simp [pad]
  | i + 1, j, x => by
    rw [show i + 1 + j = (i + j) + 1 by lia, pad, pad_append B i j (x / B), pad, Nat.div_div_eq_div_mul, Nat.pow_succ, Nat.mul_comm B]; rfl
theorem pad_mod {B : Nat} (hB : 0 < B) : ∀ i x, pad B i (x % B ^ i) = pad B i x
  | 0, _ => rfl
  | i + 1, x => by
    rw [pad, pad, Nat.pow_succ, Nat.mul_comm, Nat.mod_mul_right_mod, Nat.mod_mul_right_div_self, pad_mod hB i]
/-- as many digits as there are -/
theorem dg_pad {B : Nat} (hB : 2 ≤ B) : ∀ i x, x < B ^ i → (∀ j, i = j + 1 → B ^ j ≤ x) → dg B x = pad B i x
  | 0, x, h, _ => by rw [show x = 0 by simpa using h]; exact dg_zero B
  | i + 1, x, h, h2 => by
    have h3 := h2 i rfl
    have hp : 0 < B ^ i := Nat.pow_pos (by lia)
    rw [dg_pos hB (by lia), pad, dg_pad hB i (x / B) ?_ ?_]
    · exact Nat.div_lt_of_lt_mul (by rw [Nat.mul_comm, ← Nat.pow_succ]; exact h)
    · intro j hj
      subst hj
      exact (Nat.le_div_iff_mul_le (by lia)).mpr (by rw [← Nat.pow_succ]; exact h3)
theorem dg_len {B : Nat} (hB : 2 ≤ B) : ∀ x, x < B ^ (dg B x).length ∧ ∀ j, (dg B x).length = j + 1 → B ^ j ≤ x := by
  refine dg_ind hB ⟨by simp [dg_zero], by simp [dg_zero]⟩ fun x hx ih => ?_
  rw [dg_pos hB hx, List.length_cons]
  obtain ⟨h1, h2⟩ := ih
  refine ⟨?_, fun j hj => ?_⟩
  · rw [Nat.pow_succ]
    exact (Nat.div_lt_iff_lt_mul (by lia)).mp h1
  · have hj' : (dg B (x / B)).length = j := by lia
    cases j with
    | zero => simp; lia
    | succ j =>
      rw [Nat.pow_succ]
      exact (Nat.le_div_iff_mul_le (by lia)).mp (h2 j hj')
theorem dg_is_pad {B : Nat} (hB : 2 ≤ B) (x : Nat) : dg B x = pad B (dg B x).length x := dg_pad hB _ _ (dg_len hB x).1 (dg_len hB x).2
theorem dg_len_le {B : Nat} (hB : 2 ≤ B) {x i : Nat} : (dg B x).length ≤ i ↔ x < B ^ i := by
  constructor
  · intro h
    exact Nat.lt_of_lt_of_le (dg_len hB x).1 (Nat.pow_le_pow_right (by lia) h)
  · intro h
    refine Nat.le_of_not_lt fun h2 => ?_
    cases hl : (dg B x).length with
    | zero => lia
    | succ j =>
      have := (dg_len hB x).2 j hl
      have := Nat.pow_le_pow_right (n := B) (by lia) (show i ≤ j by lia)
      lia
theorem dg_len_mono {B : Nat} (hB : 2 ≤ B) {x y : Nat} (h : x ≤ y) : (dg B x).length ≤ (dg B y).length := (dg_len_le hB).mpr (Nat.lt_of_le_of_lt h (dg_len hB y).1)
theorem pad_getD {B : Nat} : ∀ i x j, j < i → (pad B i x).getD j 0 = ((x / B ^ j % B : Nat) : Int)
  | 0, _, _, h => by lia
  | i + 1, x, 0, _ => by simp [pad]
  | i + 1, x, j + 1, h => by
    rw [pad, List.getD_cons_succ, pad_getD i (x / B) j (by lia), Nat.div_div_eq_div_mul, Nat.pow_succ, Nat.mul_comm B]
theorem dg_getD {B : Nat} (hB : 2 ≤ B) (x j : Nat) : (dg B x).getD j 0 = ((x / B ^ j % B : Nat) : Int) := by
  by_cases h : j < (dg B x).length
  · rw [dg_is_pad hB x, pad_getD _ _ _ h]
  · rw [List.getD_eq_getElem?_getD, List.getElem?_eq_none (by lia)]
    have := (dg_len_le hB).mp (Nat.le_of_not_lt h)
    rw [Nat.div_eq_of_lt this]; simp
theorem dg_nil {B : Nat} (hB : 2 ≤ B) {x : Nat} : dg B x = [] ↔ x = 0 := by
  constructor
  · intro h
    have := (dg_len hB x).1
    rw [h] at this
    simpa using this
  · rintro rfl; exact dg_zero B
theorem dg_len0 {B : Nat} (hB : 2 ≤ B) {x : Nat} : (dg B x).length = 0 ↔ x = 0 := by rw [List.length_eq_zero_iff, dg_nil hB]
theorem dg_drop {B : Nat} (hB : 2 ≤ B) : ∀ i x, (dg B x).drop i = dg B (x / B ^ i)
  | 0, x => by simp
  | i + 1, x => by
    by_cases hx : x = 0
    · simp [hx, dg_zero]
    · rw [dg_pos hB (by lia), List.drop_succ_cons, dg_drop hB i, Nat.div_div_eq_div_mul, Nat.pow_succ, Nat.mul_comm B]
theorem dg_take {B : Nat} (hB : 2 ≤ B) (i x : Nat) (h : i ≤ (dg B x).length) : (dg B x).take i = pad B i x := by
  rw [dg_is_pad hB x]
  generalize (dg B x).length = k at h
  obtain ⟨j, rfl⟩ := Nat.exists_eq_add_of_le h
  rw [pad_append, List.take_left' (pad_length B i x)]
/-- noughts on top dropped -/
def stripLen (l : List Int) : Nat → Nat
  | 0 => 0
  | e + 1 => if l.getD e 0 = 0 then stripLen l e else e + 1
theorem strip_pad {B : Nat} (hB : 2 ≤ B) (n X : Nat) : ∀ e, e ≤ n → X < B ^ e → (pad B n X).take (stripLen (pad B n X) e) = dg B X
  | 0, _, h => by rw [show X = 0 by simpa using h]; simp [stripLen, dg_zero]
  | e + 1, h, hX => by
    unfold stripLen
    rw [pad_getD n X e (by lia)]
    have hd : X / B ^ e < B := Nat.div_lt_of_lt_mul (by rw [← Nat.pow_succ]; exact hX)
    rw [Nat.mod_eq_of_lt hd]
    have hp : 0 < B ^ e := Nat.pow_pos (by lia)
    by_cases h0 : X / B ^ e = 0
    · rw [if_pos (by simp [h0])]
      exact strip_pad hB n X e (by lia) ((Nat.div_eq_zero_iff_lt hp).mp h0)
    · rw [if_neg (by lia)]
      obtain ⟨j, rfl⟩ := Nat.exists_eq_add_of_le h
      rw [pad_append, List.take_left' (pad_length B _ X), dg_pad hB (e + 1) X hX fun j hj => ?_]
      have : j = e := by lia
      subst this
      refine Nat.le_of_not_lt fun h3 => h0 (Nat.div_eq_of_lt h3)
theorem norm_pad {B : Nat} (hB : 2 ≤ B) {n X : Nat} (h : X < B ^ n) : (pad B n X).take (stripLen (pad B n X) (pad B n X).length) = dg B X := by
  rw [pad_length]; exact strip_pad hB n X n (Nat.le_refl _) h
theorem dg_mem {B : Nat} (hB : 2 ≤ B) : ∀ x, ∀ d ∈ dg B x, 0 ≤ d ∧ d < (B : Int) := by
  refine dg_ind hB (by simp [dg_zero]) fun x hx ih d hd => ?_
  rw [dg_pos hB hx] at hd
  rcases List.mem_cons.mp hd with rfl | hd
  · have := Nat.mod_lt x (show B > 0 by lia); lia
  · exact ih d hd
theorem dg_inj {B : Nat} (hB : 2 ≤ B) {x y : Nat} (h : dg B x = dg B y) : x = y := by
  revert h
  revert y
  refine dg_ind hB (P := fun x => ∀ {y}, dg B x = dg B y → x = y) ?_ ?_ x
  · intro y h
    rw [dg_zero] at h
    exact ((dg_nil hB).mp h.symm).symm
  · intro x hx ih y h
    by_cases hy : y = 0
    · subst hy; rw [dg_zero] at h; exact (dg_nil hB).mp h
    · rw [dg_pos hB hx, dg_pos hB (show 0 < y by lia)] at h
      have h1 := (List.cons.inj h).1
      have h2 := ih (List.cons.inj h).2
      have e1 := Nat.div_add_mod x B
      have e2 := Nat.div_add_mod y B
      rw [← e1, ← e2, h2]; lia
/-- one more digit on the bottom -/
theorem dg_cons {B : Nat} (hB : 2 ≤ B) {d x : Nat} (hd : d < B) (h : 0 < d ∨ 0 < x) : dg B (d + B * x) = (d : Int) :: dg B x := by
  have hp : 0 < d + B * x := by
    rcases h with h | h
    · lia
    · have := Nat.mul_pos (show 0 < B by lia) h; lia
  rw [dg_pos hB hp, Nat.add_mul_mod_self_left, Nat.mod_eq_of_lt hd, Nat.add_mul_div_left _ _ (by lia), Nat.div_eq_of_lt hd, Nat.zero_add]
/-- the last carry is put on top, if it is not nought -/
theorem pad_top {B : Nat} (hB : 2 ≤ B) {i X : Nat} (h : X / B ^ i < B) (h0 : 0 < X / B ^ i) : pad B i X ++ [((X / B ^ i : Nat) : Int)] = dg B X := by
  have hp : 0 < B ^ i := Nat.pow_pos (by lia)
  rw [dg_pad hB (i + 1) X, pad_succ, Nat.mod_eq_of_lt h]
  · rw [Nat.pow_succ]; exact (Nat.div_lt_iff_lt_mul hp).mp h |> fun x => by rw [Nat.mul_comm]; exact x
  · intro j hj
    have : j = i := by lia
    subst this
    exact Nat.le_of_not_lt fun h3 => by rw [Nat.div_eq_of_lt h3] at h0; lia
theorem bitOr_low (c m k : Nat) (h : c < 2 ^ k) : Builtin.bitOr (c : Int) ((m : Int) * 2 ^ k) = c + m * 2 ^ k := by
  have : ∀ (k c : Nat), c < 2 ^ k → Builtin.bitAnd (c : Int) ((m : Int) * 2 ^ k) = 0 := by
    intro k
    induction k with
    | zero => intro c h; rw [show c = 0 by simpa using h, bitAnd_comm]; exact bitAnd_zero _
    | succ k ih =>
      intro c h
      rw [kbt_halves, show ((c : Nat) : Int) / 2 = ((c / 2 : Nat) : Int) by omega, show (m : Int) * 2 ^ (k + 1) / 2 = m * 2 ^ k by rw [Int.pow_succ, ← Int.mul_assoc]; omega, ih (c / 2) (by rw [Nat.pow_succ] at h; omega)]
      rw [if_neg]; · rfl
      rw [Int.pow_succ, ← Int.mul_assoc]; lia
  have h2 := this k c h
  have : Builtin.bitOr (c : Int) ((m : Int) * 2 ^ k) = c + m * 2 ^ k - Builtin.bitAnd (c : Int) ((m : Int) * 2 ^ k) := by
    rw [bitOr_and]
  rw [this, h2]; lia
-- A2
/-- division told by its two answers -/
theorem dm {B v r q : Int} (hB : 0 < B) (h : v = r + B * q) (h0 : 0 ≤ r) (h1 : r < B) : v % B = r ∧ v / B = q := by
  subst h
  rw [Int.add_mul_emod_self_left, Int.add_mul_ediv_left _ _ (by lia), Int.emod_eq_of_lt h0 h1, Int.ediv_eq_zero_of_lt h0 h1]
  lia
theorem div_succ (x B i : Nat) : x / B ^ (i + 1) = x / B ^ i / B := by rw [Nat.pow_succ, Nat.div_div_eq_div_mul]
theorem split_at (x B i : Nat) : ((x / B ^ i : Nat) : Int) = ((x / B ^ i % B : Nat) : Int) + (B : Int) * ((x / B ^ (i + 1) : Nat) : Int) := by
  rw [div_succ]
  have := Nat.mod_add_div (x / B ^ i) B
  exact_mod_cast this.symm
/-- the carry into place i of x + y -/
def cyA (B x y i : Nat) : Int := ((x + y) / B ^ i : Nat) - (x / B ^ i : Nat) - (y / B ^ i : Nat)
theorem cyA_step {B : Nat} (hB : 0 < B) (x y i : Nat) : (cyA B x y i + ((x / B ^ i % B : Nat) + (y / B ^ i % B : Nat))) % (B : Int) = ((x + y) / B ^ i % B : Nat) ∧ (cyA B x y i + ((x / B ^ i % B : Nat) + (y / B ^ i % B : Nat))) / (B : Int) = cyA B x y (i + 1) := by
  have h1 := split_at x B i
  have h2 := split_at y B i
  have h3 := split_at (x + y) B i
  have h4 := Nat.mod_lt ((x + y) / B ^ i) hB
  refine dm (by lia) ?_ (by lia) (by lia)
  simp only [cyA, Int.mul_sub]
  lia
theorem cyA_zero (B x y : Nat) : cyA B x y 0 = 0 := by simp [cyA]; lia
/-- beyond the second's digits -/
theorem cyA_step1 {B : Nat} (hB : 0 < B) (x y i : Nat) (h : y / B ^ i = 0) : (cyA B x y i + (x / B ^ i % B : Nat)) % (B : Int) = ((x + y) / B ^ i % B : Nat) ∧ (cyA B x y i + (x / B ^ i % B : Nat)) / (B : Int) = cyA B x y (i + 1) := by
  have := cyA_step hB x y i
  rw [h] at this
  simpa using this
theorem cyA_top {B : Nat} (x y i : Nat) (hx : x / B ^ i = 0) (hy : y / B ^ i = 0) : cyA B x y i = ((x + y) / B ^ i : Nat) := by simp [cyA, hx, hy]
theorem cyA_bound {B : Nat} (hB : 0 < B) (x y i : Nat) : 0 ≤ cyA B x y i ∧ cyA B x y i ≤ 1 := by
  have hp : 0 < B ^ i := Nat.pow_pos hB
  have h1 := Nat.div_add_mod x (B ^ i)
  have h2 := Nat.div_add_mod y (B ^ i)
  have h3 := Nat.mod_lt x hp
  have h4 := Nat.mod_lt y hp
  have e : (x + y) / B ^ i = x / B ^ i + y / B ^ i + (x % B ^ i + y % B ^ i) / B ^ i := by
    have : x + y = (x % B ^ i + y % B ^ i) + B ^ i * (x / B ^ i + y / B ^ i) := by rw [Nat.mul_add]; lia
    rw [this, Nat.add_mul_div_left _ _ hp]; lia
  have h5 : (x % B ^ i + y % B ^ i) / B ^ i < 2 := Nat.div_lt_of_lt_mul (by lia)
  unfold cyA
  rw [e]
  generalize (x % B ^ i + y % B ^ i) / B ^ i = q at h5 ⊢
  generalize x / B ^ i = u
  generalize y / B ^ i = v
  lia
/-- the borrow into place i of x - y -/
def cyS (B x y i : Nat) : Int := (x / B ^ i : Nat) - (y / B ^ i : Nat) - ((x - y) / B ^ i : Nat)
theorem cyS_zero (B : Nat) {x y : Nat} (h : y ≤ x) : cyS B x y 0 = 0 := by simp [cyS]; lia
theorem cyS_bound {B : Nat} (hB : 0 < B) {x y : Nat} (h : y ≤ x) (i : Nat) : 0 ≤ cyS B x y i ∧ cyS B x y i ≤ 1 := by
  have := cyA_bound hB (x - y) y i
  unfold cyA at this
  rw [Nat.sub_add_cancel h] at this
  unfold cyS
  lia
theorem cyS_step {B : Nat} (hB : 0 < B) {x y : Nat} (h : y ≤ x) (i : Nat) : ((x / B ^ i % B : Nat) : Int) - cyS B x y i - (y / B ^ i % B : Nat) = ((x - y) / B ^ i % B : Nat) - B * cyS B x y (i + 1) := by
  have h1 := split_at x B i
  have h2 := split_at y B i
  have h3 := split_at (x - y) B i
  simp only [cyS, Int.mul_sub]
  lia
-- PY
section
variable {C : Cx} {n : Nat} {sc : Names} {σ σ' : Sto} {own own' : Option (Str × List Int)}

theorem ForR.inv {x : Str} {body : List Stmt} : ∀ (ds : List V) (τ : Nat → Sto) (ow : Nat → Option (Str × List Int)), (∀ i, Storable sc (ow i) x) →
    (∀ i d, ds[i]? = some d → ∃ τ1, Ex C n sc ((x, d) :: τ i) (ow i) body (.next τ1 (ow (i + 1))) ∧ Sub (τ (i + 1)) τ1) → ForR C n sc x body ds (τ 0) (ow 0) (.next (τ ds.length) (ow ds.length))
  | [], τ, ow, _, _ => .nil
  | d :: ds, τ, ow, hx, h => by
    obtain ⟨τ1, h1, h2⟩ := h 0 d rfl
    exact .next (hx 0) h1 h2 (ForR.inv ds (fun i => τ (i + 1)) (fun i => ow (i + 1)) (fun i => hx (i + 1)) fun i d hd => h (i + 1) d hd)
theorem ForR.inv_ret {x : Str} {body : List Stmt} {r : V} : ∀ (k : Nat) (ds : List V) (τ : Nat → Sto) (ow : Nat → Option (Str × List Int)), (∀ i, Storable sc (ow i) x) →
    (∀ i d, i < k → ds[i]? = some d → ∃ τ1, Ex C n sc ((x, d) :: τ i) (ow i) body (.next τ1 (ow (i + 1))) ∧ Sub (τ (i + 1)) τ1) → (∃ d, ds[k]? = some d ∧ Ex C n sc ((x, d) :: τ k) (ow k) body (.ret r)) → ForR C n sc x body ds (τ 0) (ow 0) (.ret r)
  | _, [], τ, ow, _, _, hk => by obtain ⟨d, hd, _⟩ := hk; simp at hd
  | 0, d :: ds, τ, ow, hx, _, hk => by
    obtain ⟨d', hd, hr⟩ := hk
    cases hd
    exact .ret (hx 0) hr
  | k + 1, d :: ds, τ, ow, hx, h, hk => by
    obtain ⟨τ1, h1, h2⟩ := h 0 d (Nat.zero_lt_succ _) rfl
    exact .next (hx 0) h1 h2 (ForR.inv_ret k ds (fun i => τ (i + 1)) (fun i => ow (i + 1)) (fun i => hx (i + 1)) (fun i d hi hd => h (i + 1) d (Nat.succ_lt_succ hi) hd) hk)
theorem ForR2.inv {x y : Str} {body : List Stmt} : ∀ (ds : List (V × V)) (τ : Nat → Sto) (ow : Nat → Option (Str × List Int)), (∀ i, Storable sc (ow i) x) → (∀ i, Storable sc (ow i) y) →
    (∀ i d d2, ds[i]? = some (d, d2) → ∃ τ1, Ex C n sc ((y, d2) :: (x, d) :: τ i) (ow i) body (.next τ1 (ow (i + 1))) ∧ Sub (τ (i + 1)) τ1) → ForR2 C n sc x y body ds (τ 0) (ow 0) (.next (τ ds.length) (ow ds.length))
  | [], τ, ow, _, _, _ => .nil
  | (d, d2) :: ds, τ, ow, hx, hy, h => by
    obtain ⟨τ1, h1, h2⟩ := h 0 d d2 rfl
    exact .next (hx 0) (hy 0) h1 h2 (ForR2.inv ds (fun i => τ (i + 1)) (fun i => ow (i + 1)) (fun i => hx (i + 1)) (fun i => hy (i + 1)) fun i d d2 hd => h (i + 1) d d2 hd)
theorem rangeV_get {a c : Int} {m i : Nat} {d : V} (h : (rangeV a c m)[i]? = some d) : i < m ∧ d = .int (a + i * c) := by
  unfold rangeV at h
  rw [List.getElem?_map, Option.map_eq_some_iff] at h
  obtain ⟨j, hj, rfl⟩ := h
  have hi : i < m := by
    rcases Nat.lt_or_ge i m with q | q
    · exact q
    · rw [List.getElem?_eq_none (by simpa using q)] at hj; cases hj
  rw [List.getElem?_range hi] at hj
  cases hj
  exact ⟨hi, rfl⟩
theorem rangeV_length {a c : Int} {m : Nat} : (rangeV a c m).length = m := by simp [rangeV]
theorem rangeV_at {a c : Int} {m i : Nat} (h : i < m) : (rangeV a c m)[i]? = some (.int (a + i * c)) := by simp [rangeV, h]

/-- a natural number, laid out -/
abbrev N (w x : Nat) : V := .ints (dg (2 ^ w) x)
abbrev S (w : Nat) (z : Int) : V := .tup [.bool (decide (z < 0)), N w z.natAbs]
/-- what is small -/
def lid : Nat := Nat.pow 2 3000
structure W (w : Nat) : Prop where
  lo : 1 ≤ w
  hi : w ≤ 9
theorem W.B {w : Nat} (h : W w) : 2 ≤ 2 ^ w := by
  have := Nat.pow_le_pow_right (n := 2) (by omega) h.lo
  simpa using this
theorem W.B9 {w : Nat} (h : W w) : 2 ^ w ≤ 512 := Nat.pow_le_pow_right (n := 2) (by omega) h.hi
theorem W.bits {w : Nat} (h : W w) : (Builtin.Int.intBits 1 : Int) + (w : Int) ≤ 2 ^ 27 := by
  have := h.hi
  have e : Builtin.Int.intBits 1 = 1 := by decide +kernel
  rw [e]; omega
theorem len_le {w x : Nat} (h : W w) (hx : x < lid) : (dg (2 ^ w) x).length ≤ 3000 := by
  rw [dg_len_le h.B]
  refine Nat.lt_of_lt_of_le hx ?_
  show 2 ^ 3000 ≤ _
  rw [← Nat.pow_mul]
  exact Nat.pow_le_pow_right (by omega) (by have := h.lo; exact Nat.le_mul_of_pos_left _ (by omega))

theorem Ex1.ifT {t : Expr} {x y : List Stmt} {pos : Pos} {b : Bool} {fl : Fl} (ht : EtO C n sc σ own t b) (e : b = true) (hx : Ex C n sc σ own x fl) : Ex1 C n sc σ own (.If t x y pos) fl :=
  .ite ht (fun _ => hx) fun h => by rw [e] at h; cases h
theorem Ex1.ifF {t : Expr} {x y : List Stmt} {pos : Pos} {b : Bool} {fl : Fl} (ht : EtO C n sc σ own t b) (e : b = false) (hy : Ex C n sc σ own y fl) : Ex1 C n sc σ own (.If t x y pos) fl :=
  .ite ht (fun h => by rw [e] at h; cases h) fun _ => hy
theorem Ev.iteT {t x y : Expr} {pos : Pos} {b : Bool} {d : V} (ok : C.Ok) (ht : Et C n sc σ t b) (e : b = true) (hx : Ev C n sc σ x d) : Ev C n sc σ (.IfExp t x y pos) d := .ite ok ht (fun _ => hx) fun h => by rw [e] at h; cases h
theorem Ev.iteF {t x y : Expr} {pos : Pos} {b : Bool} {d : V} (ok : C.Ok) (ht : Et C n sc σ t b) (e : b = false) (hy : Ev C n sc σ y d) : Ev C n sc σ (.IfExp t x y pos) d := .ite ok ht (fun h => by rw [e] at h; cases h) fun _ => hy

theorem EvO.cast {e : Expr} {d d' : V} (h : EvO C n sc σ own e d) (hd : d = d') : EvO C n sc σ own e d' := hd ▸ h
/-- return e -/
theorem Ex.rete {e : Expr} {pos : Pos} {rest : List Stmt} {d d' : V} (ok : C.Ok) (h : Ev C n sc σ e d) (hd : d = d') : Ex C n sc σ none (.Return (some e) pos :: rest) (.ret d') := .retS (.ret (.cast (.sh ok h) hd))
theorem Ex.retV' {e : Expr} {pos : Pos} {rest : List Stmt} {d d' : V} {x : Str} {ns : List Int} (ok : C.Ok) (h : Ev C n sc ((x, .ints ns) :: σ) e d) (hd : d = d') : Ex C n sc σ (some (x, ns)) (.Return (some e) pos :: rest) (.ret d') := hd ▸ Ex.retV ok h
theorem mulok {a b : Int} (h : 0 ≤ a) (h2 : a < 2 ^ 60) : IntMulOk a b := by
  refine .of_left (intBits_le_iff.mpr ?_)
  omega
theorem Sub.cons' {x : Str} {d d' : V} {σ τ : Sto} (h : τ.lookup x = some d') (e : d' = d) (h2 : Sub σ τ) : Sub ((x, d) :: σ) τ := .cons (e ▸ h) h2
theorem Ex.ownc {ss : List Stmt} {x : Str} {ns ns' : List Int} (h : Ex C n sc σ own ss (.next σ' (some (x, ns)))) (e : ns = ns') : Ex C n sc σ own ss (.next σ' (some (x, ns'))) := e ▸ h
theorem Ex1.ownc {ss : Stmt} {x : Str} {ns ns' : List Int} (h : Ex1 C n sc σ own ss (.next σ' (some (x, ns)))) (e : ns = ns') : Ex1 C n sc σ own ss (.next σ' (some (x, ns'))) := e ▸ h
theorem Ev.int {e : Expr} {i j : Int} (h : Ev C n sc σ e (.int i)) (e' : i = j) : Ev C n sc σ e (.int j) := e' ▸ h
end

-- PZ
section
variable {C : Cx} {n : Nat} {sc : Names} {σ σ' : Sto} {own own' : Option (Str × List Int)}
theorem swapped2 {x y : Str} {xp yp tp vp : Pos} {kt kv : Nat} {e1 e2 : Expr} (hx : sc.lookup x = some .local) (hy : sc.lookup y = some .local) (hl : (yp.line == xp.line) = true) (ne : (y == x) = false)
    (h1 : notStar e1 = true) (h2 : notStar e2 = true) (hf : [e1, e2].all (foldedForSure 8) = false) (hc : [e1, e2].all (constantsAlone 8) = false) :
    ∀ env, EnvFor sc env → swappedStores [.Tuple [.Name x xp, .Name y yp] kt tp] (.Tuple [e1, e2] kv vp) env = pure (some [x, y]) := by
  intro env he
  have k1 : (env.kindOf x == some .local) = true := by rw [he.kindOf, hx]; rfl
  have k2 : (env.kindOf y == some .local) = true := by rw [he.kindOf, hy]; rfl
  have ne' : (x == y) = false := by rw [beq_eq_false_iff_ne] at ne ⊢; exact fun q => ne q.symm
  have b : (env.blockKind != .function) = false := by rw [blockKind_of he.kind]; rfl
  unfold swappedStores
  simp only [pure_bind, List.length_cons, List.length_nil, b, hf, hc, List.filterMap_cons, List.filterMap_nil, k1, k2, hl, List.head?_cons, Option.map_some, Option.getD_some, Expr.pos, beq_self_eq_true, Bool.and_self, if_true, Bool.or_false, bne_self_eq_false, Bool.not_true, Bool.true_or, Bool.false_eq_true, if_false]
  simp [List.eraseDups_cons, ne, ne']
  intro h
  exfalso
  rcases h with h | h
  · cases e1 <;> first | (simp [notStar] at h1; done) | (simp at h; done)
  · cases e2 <;> first | (simp [notStar] at h2; done) | (simp at h; done)
theorem swapped3 {x y z : Str} {xp yp zp tp vp : Pos} {kt kv : Nat} {e1 e2 e3 : Expr} (hx : sc.lookup x = some .local) (hy : sc.lookup y = some .local) (hz : sc.lookup z = some .local) (hl : (yp.line == xp.line) = true) (hl2 : (zp.line == xp.line) = true) (ne : (y == x) = false) (ne2 : (z == x) = false) (ne3 : (z == y) = false)
    (h1 : notStar e1 = true) (h2 : notStar e2 = true) (h3 : notStar e3 = true) (hf : [e1, e2, e3].all (foldedForSure 8) = false) (hc : [e1, e2, e3].all (constantsAlone 8) = false) :
    ∀ env, EnvFor sc env → swappedStores [.Tuple [.Name x xp, .Name y yp, .Name z zp] kt tp] (.Tuple [e1, e2, e3] kv vp) env = pure (some [x, y, z]) := by
  intro env he
  have k1 : (env.kindOf x == some .local) = true := by rw [he.kindOf, hx]; rfl
  have k2 : (env.kindOf y == some .local) = true := by rw [he.kindOf, hy]; rfl
  have k3 : (env.kindOf z == some .local) = true := by rw [he.kindOf, hz]; rfl
  have b : (env.blockKind != .function) = false := by rw [blockKind_of he.kind]; rfl
  unfold swappedStores
  simp only [pure_bind, List.length_cons, List.length_nil, b, hf, hc, List.filterMap_cons, List.filterMap_nil, k1, k2, k3, hl, hl2, List.head?_cons, Option.map_some, Option.getD_some, Expr.pos, beq_self_eq_true, Bool.and_self, if_true, Bool.or_false, bne_self_eq_false, Bool.not_true, Bool.true_or, Bool.false_eq_true, if_false]
  simp [List.eraseDups_cons, ne, ne2, ne3]
  intro h
  exfalso
  rcases h with h | h | h
  · cases e1 <;> first | (simp [notStar] at h1; done) | (simp at h; done)
  · cases e2 <;> first | (simp [notStar] at h2; done) | (simp at h; done)
  · cases e3 <;> first | (simp [notStar] at h3; done) | (simp at h; done)
end
section
variable {C : Cx} {n : Nat} {sc : Names} {σ σ' : Sto} {own own' : Option (Str × List Int)}
/-- for at in range(s, e) -/
theorem ForR.up {x : Str} {body : List Stmt} {a : Int} {k m s : Nat} (τ : Nat → Sto) (ow : Nat → Option (Str × List Int)) (hx : ∀ i, Storable sc (ow i) x)
    (h : ∀ i, i < m → ∃ τ1, Ex C n sc ((x, .int ((s + i : Nat) : Int)) :: τ i) (ow i) body (.next τ1 (ow (i + 1))) ∧ Sub (τ (i + 1)) τ1) (ha : a = (s : Int)) (hk : k = m) : ForR C n sc x body (rangeV a 1 k) (τ 0) (ow 0) (.next (τ m) (ow m)) := by
  subst ha hk
  have := ForR.inv (C := C) (n := n) (sc := sc) (body := body) (rangeV (s : Int) 1 k) τ ow hx fun i d hd => by
    obtain ⟨hi, rfl⟩ := rangeV_get hd
    have := h i hi
    rwa [show ((s + i : Nat) : Int) = (s : Int) + (i : Int) * 1 by omega] at this
  rwa [rangeV_length] at this
theorem Ev.iteC {t x y : Expr} {pos : Pos} {b : Bool} {d : V} (ok : C.Ok) (ht : Et C n sc σ t b) (hx : b = true → ∃ d', Ev C n sc σ x d' ∧ d' = d) (hy : b = false → ∃ d', Ev C n sc σ y d' ∧ d' = d) : Ev C n sc σ (.IfExp t x y pos) d :=
  .ite ok ht (fun h => by obtain ⟨_, h1, rfl⟩ := hx h; exact h1) fun h => by obtain ⟨_, h1, rfl⟩ := hy h; exact h1
theorem shl_one (w : Nat) : (1 * 2 ^ ((w : Int)).toNat : Int) = ((2 ^ w : Nat) : Int) := by rw [Int.one_mul, Int.toNat_natCast, Int.natCast_pow]; rfl
theorem Ev.not {x : Expr} {pos : Pos} {d : V} {b : Bool} (ok : C.Ok) (h : Ev C n sc σ x d) (ht : Tru C n d b) : Ev C n sc σ (.UnaryOp .Not x pos) (.bool (!b)) := by
  with_unfolding_all intro A env s ow rm he g o hs Q hQ
  refine UnaryOp_ (h.run A env s ow rm he g o hs _ fun v h' tk k rv => not_of (ht.run A _ ow _ rm (ok.mono k g) rv _ fun h2 tk2 k2 => ?_))
  exact hQ _ h2 tk2 (k.trans k2) (.bool _)
theorem ForR.each {x : Str} {body : List Stmt} {ns : List Int} {m : Nat} (τ : Nat → Sto) (ow : Nat → Option (Str × List Int)) (hx : ∀ i, Storable sc (ow i) x)
    (h : ∀ i, i < m → ∃ τ1, Ex C n sc ((x, .int (ns.getD i 0)) :: τ i) (ow i) body (.next τ1 (ow (i + 1))) ∧ Sub (τ (i + 1)) τ1) (hk : ns.length = m) : ForR C n sc x body (ns.map V.int) (τ 0) (ow 0) (.next (τ m) (ow m)) := by
  subst hk
  have := ForR.inv (C := C) (n := n) (sc := sc) (body := body) (ns.map V.int) τ ow hx fun i d hd => by
    rw [List.getElem?_map, Option.map_eq_some_iff] at hd
    obtain ⟨j, hj, rfl⟩ := hd
    have hi : i < ns.length := by
      rcases Nat.lt_or_ge i ns.length with q | q
      · exact q
      · rw [List.getElem?_eq_none q] at hj; cases hj
    have := h i hi
    rwa [List.getD_eq_getElem?_getD, hj] at this
  rwa [List.length_map] at this
theorem EvIt.revI {f e : Expr} {pos : Pos} {ns : List Int} (ok : C.Ok) (hf : Ev C n sc σ f (.ty "reversed")) (he : Ev C n sc σ e (.ints ns)) (hn : notStar e = true := by with_unfolding_all rfl)
    (hev : ∀ env, eval (.Call f [e] [] pos) env = (do callWith pos (← eval f env) [] (backTo pos (starEach [e] env)) (backToKw pos (keywordEach [] env))) := by intro _; with_unfolding_all rfl) : EvIt C n sc σ (.Call f [e] [] pos) (ns.reverse.map V.int) :=
  (EvIt.rev ok hf he hn hev).cast (by rw [List.map_reverse])
-- comprehensions
theorem swaps_true {elt : Expr} {gens : List Comprehension} {scope : Scope} {pos py : Pos} {y : Str} {line : Nat} (hx : sc.lookup y = some .local) (hl : (py.line == pos.line) = true) (hno : (scope.names.any fun (n, k) => n == y && (k == .local || k == .cell)) = false) :
    ∀ env, EnvFor sc env → swapsWith (.ListComp elt gens scope pos) (some (.Name y py)) line env = pure true := by
  intro env he
  have : swapsWith (.ListComp elt gens scope pos) (some (.Name y py)) line env = pure (env.blockKind == .function && env.kindOf y == some .local && py.line == pos.line && !(scope.names.any fun (n, k) => n == y && (k == .local || k == .cell))) := rfl
  rw [this, blockKind_of he.kind, he.kindOf, hx, hl, hno]
  rfl
def CSub (σ : Sto) (cn : Names) (σc : Sto) : Prop := ∀ y d, σc.lookup y = some d → σ.lookup y = some d ∧ cn.lookup y = some .free
theorem CSub.nil {cn : Names} : CSub σ cn [] := fun _ _ e => by simp at e
theorem CSub.cons {cn : Names} {x : Str} {d : V} {σc : Sto} (h : σ.lookup x = some d) (h2 : cn.lookup x = some .free) (r : CSub σ cn σc) : CSub σ cn ((x, d) :: σc) := fun y e hy => by
  rw [lookup_cons'] at hy
  by_cases hyx : y = x
  · rw [if_pos hyx] at hy
    have := Option.some.inj hy
    subst this hyx
    exact ⟨h, h2⟩
  · rw [if_neg hyx] at hy; exact r y e hy
def scOk (sc cn : Names) : Bool := cn.all fun y => y.2 != .cell && (y.2 != .local || cn.lookup y.1 == some .local) && (y.2 != .free || sc.lookup y.1 == some .cell)
theorem CompOk.of {scope : Scope} {σc : Sto} (hk : scope.kind = .function) (h : scOk sc scope.names = true) (hs : CSub σ scope.names σc) : CompOk sc σ scope σc := by
  simp only [scOk, List.all_eq_true, Bool.and_eq_true, Bool.or_eq_true, bne_iff_ne, beq_iff_eq] at h
  exact ⟨hk, fun y hy => (h y hy).1.1, fun y hy q => ((h y hy).1.2).resolve_left (fun z => z q), fun y hy q => ((h y hy).2).resolve_left (fun z => z q), hs⟩
theorem mask_mod (v : Int) (w : Nat) : Builtin.bitAnd v (1 * 2 ^ ((w : Int)).toNat - 1) = v % ((2 ^ w : Nat) : Int) := by
  rw [Int.one_mul, Int.toNat_natCast, kbt_mask, Int.natCast_pow]; rfl
theorem shr_div (v : Int) (w : Nat) : v / 2 ^ ((w : Int)).toNat = v / ((2 ^ w : Nat) : Int) := by
  rw [Int.toNat_natCast, Int.natCast_pow]; rfl
end
-- PM
local macro_rules
  | `(tactic| walk_at "bind") => `(tactic| (intro vs h; (try simp only [List.length_cons, List.length_nil] at h); (rcases vs with _ | ⟨v1, _ | ⟨v2, _ | ⟨v3, _ | ⟨v4, _ | ⟨v5, _ | ⟨v6, _ | ⟨v7, vs⟩⟩⟩⟩⟩⟩⟩ <;> first | (exact rfl) | (exact fun _ _ _ => rfl) | (exact absurd h (by simp)))))
  | `(tactic| walk_at "lc") => `(tactic| first | exact .inl rfl | exact .inr rfl)
  | `(tactic| walk_at "sto") => `(tactic| first
    | exact Storable.mkN (by walk_at "lc")
    | exact Storable.mkS (by walk_at "lc") (by decide +kernel))
  | `(tactic| walk_at "len") => `(tactic| ((with_reducible refine prq ?_); first | lia | (with_reducible assumption) | ((try simp only [List.length_map, List.length_take, List.length_drop, List.length_append, List.length_reverse, List.length_replicate, List.length_cons, List.length_nil, List.length_set, List.length_dropLast]); lia)))
  | `(tactic| walk_at "fn") => `(tactic| first
    | (with_reducible assumption)
    | ((with_reducible apply Fn.listT (n := 0)); exact le_of_ble rfl)
    | (with_reducible exact Fn.sum (n := 0))
    | ((with_reducible first | apply Fn.lenI (n := 0) | apply Fn.len (n := 0)); walk_at "len")
    | (with_reducible first | exact Fn.abs (n := 0) | exact Fn.max2 (n := 0) | exact Fn.max3 (n := 0)))
  | `(tactic| walk_at "bop") => `(tactic| first
    | (with_reducible first | exact Bop.add | exact Bop.sub | exact Bop.band | apply Bop.mod | apply Bop.div | apply Bop.shr | apply Bop.shl | apply Bop.mul)
    | ((with_reducible first | apply Bop.catI | apply Bop.cat); walk_at "len"))
  | `(tactic| walk_at "iop") => `(tactic| with_reducible first | exact Iop.add | exact Iop.sub | exact Iop.bor | apply Iop.shr)
  | `(tactic| walk_at "cop") => `(tactic| with_reducible first | exact Cop.neNil | exact Cop.eq | exact Cop.ne | exact Cop.lt | exact Cop.le | exact Cop.gt | exact Cop.ge | exact Cop.eqBool | exact Cop.neBool)
  | `(tactic| walk_at "tru") => `(tactic| first
    | (with_reducible first | exact Tru.int | exact Tru.bool)
    | ((with_reducible apply Tru.ints); walk_at "len"))
  | `(tactic| walk_at "nm") => `(tactic| first
    | ((with_reducible apply Ev.name); exact rfl; all_goals (try decide +kernel))
    | ((with_reducible apply Ev.g (by assumption)); exact rfl; exact rfl)
    | ((with_reducible first | apply Ev.len (by assumption) | apply Ev.max (by assumption) | apply Ev.abs (by assumption) | apply Ev.sum (by assumption) | apply Ev.range (by assumption) | apply Ev.lst (by assumption)); exact rfl))
  | `(tactic| walk_at "sub") => `(tactic| first
    | ((with_reducible apply Ev.listC (by assumption)); exact rfl; decide; decide; exact rfl)
    | ((with_reducible first | apply Ev.sliceRevI (Tx.ok (by assumption)) | apply Ev.sliceToI (Tx.ok (by assumption)) | apply Ev.slice2I (Tx.ok (by assumption)) | apply Ev.sliceFromI (Tx.ok (by assumption)) | apply Ev.sliceAllI (Tx.ok (by assumption))); all_goals (try walk_at "len"))
    | ((with_reducible apply Ev.tupN (by assumption)); exact rfl; decide; decide; exact rfl)
    | ((with_reducible apply Ev.itemN (by assumption)); exact rfl))
  | `(tactic| walk_at "pl") => `(tactic| with_reducible apply Et.plain (Tx.ok (by assumption)))
  | `(tactic| walk_at "ev1") => `(tactic| first
    | (with_reducible first | apply Et.cmp2 (Tx.ok (by assumption)) | apply Ev.not (Tx.ok (by assumption)) | exact Ev.cint | exact Ev.cbool | exact Ev.cnone)
    | ((with_reducible apply evq_name); walk_at "nm")
    | (with_reducible apply Ev.bin (Tx.ok (by assumption)))
    | ((with_reducible apply bopq); walk_at "bop")
    | ((with_reducible apply iopq); walk_at "iop")
    | ((with_reducible apply copq); walk_at "cop")
    | ((with_reducible apply truq); walk_at "tru")
    | ((with_reducible apply evq_sub); walk_at "sub")
    | (with_reducible first | apply Ev.call (Tx.ok (by assumption)) | exact Evs.nil | apply Evs.cons (Tx.ok (by assumption)))
    | ((with_reducible apply fnq); walk_at "fn")
    | (with_reducible first | apply Et.cmp (Tx.ok (by assumption)) | apply Ev.cmp (Tx.ok (by assumption)) | apply Et.not | apply Ev.neg | apply Ev.tup | apply Ev.list)
    | ((with_reducible first | apply etq_name | apply etq_sub); walk_at "pl")
    | ((with_reducible first | apply leq | apply autoq2); exact le_of_ble rfl)
    | ((with_reducible apply autoq1); decide +kernel))
  | `(tactic| walk_at "it0") => `(tactic| with_reducible first | apply EvIt.range1 (Tx.ok (by assumption)) | apply EvIt.range2 (Tx.ok (by assumption)) | apply EvIt.range3 (Tx.ok (by assumption)))
  | `(tactic| walk_at "sh") => `(tactic| with_reducible apply EvO.sh (Tx.ok (by assumption)))
  | `(tactic| walk_at "vis") => `(tactic| with_reducible apply EtO.vis (Tx.ok (by assumption)))
  | `(tactic| walk_at "ev") => `(tactic| repeat' (walk_at "ev1"))
  | `(tactic| walk_at "ar") => `(tactic| first | lia | ((with_reducible refine prq ?_); with_reducible assumption) | (simp; done) | (simp; lia))
  | `(tactic| walk_at "evs") => `(tactic| (walk_at "ev"; all_goals (try ((with_reducible refine prq ?_); first | lia | (with_reducible assumption) | ((with_reducible refine mulok ?_ ?_) <;> lia)))))
  | `(tactic| walk_at "it") => `(tactic| (walk_at "it0" <;> walk_at "evs"))
  | `(tactic| walk_at "t") => `(tactic| (walk_at "vis"; walk_at "evs"))
  | `(tactic| walk_at "v") => `(tactic| (walk_at "sh"; walk_at "evs"))
  | `(tactic| walk_at "nn") => `(tactic| exact fun _ h => absurd h List.not_mem_nil)
  | `(tactic| walk_at "stos") => `(tactic| repeat' (first | (refine List.forall_mem_cons.mpr ⟨?_, ?_⟩) | walk_at "nn" | walk_at "sto"))
  | `(tactic| walk_at "wu") => `(tactic| with_unfolding_all rfl)
  | `(tactic| walk_at "swp") => `(tactic| first
    | exact swapped2 rfl rfl rfl (by decide +kernel) rfl rfl (by walk_at "wu") (by walk_at "wu")
    | exact swapped3 rfl rfl rfl rfl rfl (by decide +kernel) (by decide +kernel) (by decide +kernel) rfl rfl rfl (by walk_at "wu") (by walk_at "wu"))
  | `(tactic| walk_at "mems") => `(tactic| (simp only [List.forall_mem_cons]; repeat' (first | (refine And.intro ?_ ?_) | walk_at "nn")))
-- F1
section
variable {C : Cx} {n : Nat} {sc : Names} {σ σ' : Sto} {own own' : Option (Str × List Int)}
theorem normal_loop {test : Expr} {body : List Stmt} (l : List Int) (ht : ∀ e : Nat, e ≤ l.length → EtO C n sc [(Str.ofString "end", .int e), (Str.ofString "a", .ints l)] none test (decide ((e : Int) > 0) && (l.getD ((e : Int) - 1).toNat 0 == 0)))
    (hb : ∀ e : Nat, Ex C n sc [(Str.ofString "end", .int e), (Str.ofString "a", .ints l)] none body (.next [(Str.ofString "end", .int ((e : Int) - 1)), (Str.ofString "end", .int e), (Str.ofString "a", .ints l)] none)) :
    ∀ e : Nat, e ≤ l.length → WhileR C n sc test body e [(Str.ofString "end", .int e), (Str.ofString "a", .ints l)] none (.next [(Str.ofString "end", .int (stripLen l e : Nat)), (Str.ofString "a", .ints l)] none)
  | 0, h => .done (by have := ht 0 h; simpa using this)
  | e + 1, h => by
    have h1 := ht (e + 1) h
    rw [show (((e + 1 : Nat) : Int) - 1).toNat = e by omega, show decide (((e + 1 : Nat) : Int) > 0) = true by simp, Bool.true_and] at h1
    unfold stripLen
    by_cases h0 : l.getD e 0 = 0
    · rw [if_pos h0]
      rw [show (l.getD e 0 == 0) = true by simpa using h0] at h1
      have hb1 := hb (e + 1)
      rw [show ((e + 1 : Nat) : Int) - 1 = (e : Int) by omega] at hb1
      exact .next h1 hb1 (.cons rfl (.cons rfl .nil)) (normal_loop l ht hb e (by omega))
    · rw [if_neg h0]
      rw [show (l.getD e 0 == 0) = false by simpa using h0] at h1
      exact .done h1

theorem fn_normal (T : Tx C) (l : List Int) (hl : l.length ≤ 100000) : Fn C 2 (.fn (C.ad 4)) [.ints l] (.ints (l.take (stripLen l l.length))) := by
  refine Fn.defK T (ps := [Str.ofString "a"]) rfl rfl (by kernel_rfl) (by walk_at "bind") rfl (by decide +kernel) ?_
  dsimp only [List.zip, List.zipWith]
  refine' Ex.seq (Ex1.assign (.sh T.ok (.call T.ok (.len T rfl) (.cons T.ok (.name rfl) .nil) (Fn.lenI (n := 0) ?_) (Nat.zero_le _))) (by walk_at "sto")) ?_
  · omega
  refine' Ex.seq (Ex1.while_ (normal_loop l ?_ ?_ l.length (Nat.le_refl _))) ?_
  · intro e he
    refine' EtO.vis T.ok (Et.and T.ok (b := decide ((e : Int) > 0)) (.cmp T.ok (.name rfl) .cint .gt) fun h => Et.and1 (.cmp T.ok (.itemI T (.name rfl) (.bin T.ok (.name rfl) .cint .sub) ?_ ?_ ?_) .cint .eq))
    · simp at h; omega
    · simp at h; omega
    · omega
  · intro e
    refine' Ex.seq (Ex1.aug T.ok rfl (.sh T.ok .cint) Iop.sub (by walk_at "sto") rfl) Ex.nil
  · refine' Ex.retS (Ex1.ret (.sh T.ok (.cast (.sliceToI T.ok (.name rfl) (.name rfl) ?_ ?_) ?_)))
    · omega
    · omega
    · simp
theorem fn_normal_pad (T : Tx C) {w n X : Nat} (hw : W w) (h : X < (2 ^ w) ^ n) (hn : n ≤ 100000) : Fn C 2 (.fn (C.ad 4)) [.ints (pad (2 ^ w) n X)] (N w X) := by
  have := fn_normal T (pad (2 ^ w) n X) (by rw [pad_length]; exact hn)
  rwa [norm_pad hw.B h] at this
end
-- F2
section
variable {C : Cx} {n : Nat} {sc : Names} {σ σ' : Sto} {own own' : Option (Str × List Int)}
def cmpI (x y : Nat) : Int := if x < y then -1 else if x = y then 0 else 1
theorem cmpI_ge {x y : Nat} (h : y ≤ x) : decide (cmpI x y < 0) = false := by unfold cmpI; rw [if_neg (by lia)]; split <;> decide
theorem cmpI_lt {x y : Nat} (h : x < y) : decide (cmpI x y < 0) = true := by unfold cmpI; rw [if_pos h]; rfl
theorem cmp_at {B x y k n : Nat} (hB : 2 ≤ B) (h : x / B ^ (n - k) = y / B ^ (n - k)) (hk : k < n) (hne : x / B ^ (n - (k + 1)) ≠ y / B ^ (n - (k + 1))) : (x / B ^ (n - (k + 1)) % B ≠ y / B ^ (n - (k + 1)) % B) ∧ x ≠ y ∧ (x / B ^ (n - (k + 1)) % B < y / B ^ (n - (k + 1)) % B ↔ x < y) := by
  have e : n - k = n - (k + 1) + 1 := by lia
  rw [e, div_succ, div_succ] at h
  have h1 := Nat.div_add_mod (x / B ^ (n - (k + 1))) B
  have h2 := Nat.div_add_mod (y / B ^ (n - (k + 1))) B
  rw [h] at h1
  refine ⟨fun q => hne (by lia), fun q => hne (by rw [q]), ?_⟩
  have mono : ∀ u v : Nat, u ≤ v → u / B ^ (n - (k + 1)) ≤ v / B ^ (n - (k + 1)) := fun u v q => Nat.div_le_div_right q
  constructor
  · intro q
    refine Nat.lt_of_not_le fun q2 => ?_
    have := mono _ _ q2
    lia
  · intro q
    have := mono _ _ (Nat.le_of_lt q)
    lia


theorem fn_compare (T : Tx C) {w x y : Nat} (hw : W w) (hx : x < lid) (hy : y < lid) : Fn C 2 (.fn (C.ad 5)) [N w x, N w y] (.int (cmpI x y)) := by
  have lx := len_le hw hx
  have ly := len_le hw hy
  have hB := hw.B
  refine Fn.defK T (ps := [Str.ofString "a", Str.ofString "b"]) rfl rfl (by kernel_rfl) (by walk_at "bind") rfl (by decide +kernel) ?_
  dsimp only [List.zip, List.zipWith]
  by_cases hl : (dg (2 ^ w) x).length = (dg (2 ^ w) y).length
  · refine Ex.seq (Ex1.ifF (by walk_at "t") (by simp [hl]) Ex.nil) ?_
    generalize hnn : (dg (2 ^ w) x).length = nn at *
    have hc : ∀ i, i < nn → (nn : Int) - 1 + (i : Int) * (-1) = ((nn - (i + 1) : Nat) : Int) := fun i hi => by lia
    have hdx : ∀ i, (dg (2 ^ w) x).getD i 0 = ((x / (2 ^ w) ^ i % (2 ^ w) : Nat) : Int) := dg_getD hB x
    have hdy : ∀ i, (dg (2 ^ w) y).getD i 0 = ((y / (2 ^ w) ^ i % (2 ^ w) : Nat) : Int) := dg_getD hB y
    have hm : ((nn : Int) - 1 - -1).toNat = nn := by lia
    by_cases hxy : x = y
    · subst hxy
      refine Ex.seq (Ex1.for_ T.ok (by walk_at "it") (by rfl) (ForR.inv _ (fun _ => _) (fun _ => none) (by intro _; walk_at "sto") (by
        intro i d hd
        rw [hnn, hm] at hd
        obtain ⟨hi, rfl⟩ := rangeV_get hd
        rw [hc i hi]
        exact ⟨_, Ex.seq (Ex1.ifF (by walk_at "t") (by simp [hnn]) Ex.nil) Ex.nil, .cons rfl (.cons rfl .nil)⟩))) (Ex.rete T.ok .cint (by simp [cmpI]))
    · have hk : ∃ k, k < nn ∧ x / (2 ^ w) ^ (nn - k) = y / (2 ^ w) ^ (nn - k) ∧ x / (2 ^ w) ^ (nn - (k + 1)) ≠ y / (2 ^ w) ^ (nn - (k + 1)) := by
        refine Classical.byContradiction fun hno => hxy ?_
        have : ∀ k, k ≤ nn → x / (2 ^ w) ^ (nn - k) = y / (2 ^ w) ^ (nn - k) := fun k => by
          induction k with
          | zero => intro _; rw [Nat.sub_zero, Nat.div_eq_of_lt (hnn ▸ (dg_len hB x).1), Nat.div_eq_of_lt (hl ▸ (dg_len hB y).1)]
          | succ k ih => intro hk; exact Classical.byContradiction fun q => hno ⟨k, hk, ih (by lia), q⟩
        simpa using this nn (Nat.le_refl _)
      obtain ⟨k, hk, h1, h2⟩ := hk
      obtain ⟨q1, _, q3⟩ := cmp_at hB h1 hk h2
      refine Ex.retS (Ex1.for_ T.ok (by walk_at "it") (by rfl) (ForR.inv_ret k _ (fun _ => _) (fun _ => none) (by intro _; walk_at "sto") (by
        intro i d hik hd
        rw [hnn, hm] at hd
        obtain ⟨hi, rfl⟩ := rangeV_get hd
        rw [hc i hi]
        have h3 : x / (2 ^ w) ^ (nn - (i + 1)) = y / (2 ^ w) ^ (nn - (i + 1)) := by
          rw [show nn - (i + 1) = (nn - k) + (k - (i + 1)) by lia, Nat.pow_add, ← Nat.div_div_eq_div_mul, ← Nat.div_div_eq_div_mul, h1]
        exact ⟨_, Ex.seq (Ex1.ifF (by walk_at "t") (by simp only [hdx, hdy, h3, Int.toNat_natCast, bne_self_eq_false]) Ex.nil) Ex.nil, .cons rfl (.cons rfl .nil)⟩) ⟨_, (by rw [hnn, hm]; exact rangeV_at hk), (by
        rw [hc k hk]
        refine Ex.retS (Ex1.ifT (by walk_at "t") (by simp only [hdx, hdy, bne_iff_ne, ne_eq, Int.toNat_natCast]; lia) ?_)
        by_cases h4 : x < y
        · exact Ex.rete T.ok (Ev.iteT T.ok (by walk_at "evs") (by have := q3.mpr h4; simp only [hdx, hdy, decide_eq_true_eq, Int.toNat_natCast]; lia) (.neg .cint)) (by simp [cmpI, h4])
        · exact Ex.rete T.ok (Ev.iteF T.ok (by walk_at "evs") (by have := fun q => h4 (q3.mp q); simp only [hdx, hdy, decide_eq_false_iff_not, Int.toNat_natCast]; lia) .cint) (by simp [cmpI, h4, hxy]))⟩))
  · refine Ex.retS (Ex1.ifT (by walk_at "t") (by simp only [bne_iff_ne, ne_eq]; lia) (Ex.retS (Ex1.ret (EvO.vis T.ok ?_))))
    by_cases h2 : (dg (2 ^ w) x).length < (dg (2 ^ w) y).length
    · have : x < y := Nat.lt_of_not_le fun q => by have := dg_len_mono hB q; lia
      refine Ev.iteT T.ok (by walk_at "ev") (by simp only [decide_eq_true_eq]; lia) (.cast (.neg .cint) (by simp [cmpI, this]))
    · have : y < x := Nat.lt_of_not_le fun q => by have := dg_len_mono hB q; lia
      refine Ev.iteF T.ok (by walk_at "ev") (by simp only [decide_eq_false_iff_not]; lia) (.cast .cint (by simp only [cmpI, if_neg (show ¬ x < y by lia), if_neg (show ¬ x = y by lia)]))
end
-- F3
section
variable {C : Cx} {n : Nat} {sc : Names} {σ σ' : Sto} {own own' : Option (Str × List Int)}

theorem fn_add (T : Tx C) {w x y : Nat} (hw : W w) (hx : x < lid) (hy : y < lid) : Fn C 2 (.fn (C.ad 6)) [N w x, N w y, .int w] (N w (x + y)) := by
  have lx := len_le hw hx
  have ly := len_le hw hy
  have hB := hw.B
  have hb1 := hw.bits
  have hw1 := hw.lo
  have hw2 := hw.hi
  refine Fn.defK T (ps := [Str.ofString "a", Str.ofString "b", Str.ofString "w"]) rfl rfl (by kernel_rfl) (by walk_at "bind") rfl (by decide +kernel) ?_
  dsimp only [List.zip, List.zipWith]
  obtain ⟨u, v, hs, hlen, lu, lv, hcase⟩ : ∃ u v, u + v = x + y ∧ (dg (2 ^ w) v).length ≤ (dg (2 ^ w) u).length ∧ (dg (2 ^ w) u).length ≤ 3000 ∧ (dg (2 ^ w) v).length ≤ 3000 ∧
      (((dg (2 ^ w) x).length < (dg (2 ^ w) y).length ∧ u = y ∧ v = x) ∨ (¬ (dg (2 ^ w) x).length < (dg (2 ^ w) y).length ∧ u = x ∧ v = y)) := by
    by_cases h : (dg (2 ^ w) x).length < (dg (2 ^ w) y).length
    · exact ⟨y, x, by lia, by lia, ly, lx, .inl ⟨h, rfl, rfl⟩⟩
    · exact ⟨x, y, rfl, by lia, lx, ly, .inr ⟨h, rfl, rfl⟩⟩
  refine Ex.seq (σ' := [(Str.ofString "a", N w u), (Str.ofString "b", N w v), (Str.ofString "w", .int w)]) (own' := none) ?_ ?_
  · rcases hcase with ⟨h, rfl, rfl⟩ | ⟨h, rfl, rfl⟩
    · refine Ex1.ifT (by walk_at "t") (by simpa using h) (Ex.post (Ex.seq (Ex1.swap T.ok (xs := [Str.ofString "a", Str.ofString "b"]) (by walk_at "v") (by walk_at "stos") rfl (hw := by walk_at "swp")) Ex.nil) (.cons rfl (.cons rfl (.cons rfl .nil))))
    · exact Ex1.ifF (by walk_at "t") (by simpa using h) Ex.nil
  · rw [← hs]
    clear hcase hs hx hy lx ly
    clear x y
    have hdx : ∀ i, (dg (2 ^ w) u).getD i 0 = ((u / (2 ^ w) ^ i % (2 ^ w) : Nat) : Int) := dg_getD hB u
    have hdy : ∀ i, (dg (2 ^ w) v).getD i 0 = ((v / (2 ^ w) ^ i % (2 ^ w) : Nat) : Int) := dg_getD hB v
    have pl := pad_length (2 ^ w)
    generalize hla : (dg (2 ^ w) u).length = la at *
    generalize hlb : (dg (2 ^ w) v).length = lb at *
    refine Ex.seq (Ex1.post (σ' := [(Str.ofString "carry", .int (cyA (2 ^ w) u v 0)), (Str.ofString "mask", .int (1 * 2 ^ (w : Int).toNat - 1)), (Str.ofString "a", N w u), (Str.ofString "b", N w v), (Str.ofString "w", .int w)])
      (Ex1.swapOwn T.ok (x := Str.ofString "found") (xs := [Str.ofString "carry", Str.ofString "mask"]) EvNew.nil (by walk_at "evs") (by walk_at "stos") rfl rfl rfl (hw := by walk_at "swp")) (.cons' rfl (by rw [cyA_zero]) (.cons rfl (.cons rfl (.cons rfl (.cons rfl .nil)))))) ?_
    refine Ex.seq (Ex1.for_ T.ok (by walk_at "it") (by rfl) (ForR.up (s := 0) (m := lb) (fun i => [(Str.ofString "carry", .int (cyA (2 ^ w) u v i)), (Str.ofString "mask", .int (1 * 2 ^ (w : Int).toNat - 1)), (Str.ofString "a", N w u), (Str.ofString "b", N w v), (Str.ofString "w", .int w)])
      (fun i => some (Str.ofString "found", pad (2 ^ w) i (u + v))) (by intro _; walk_at "sto") (fun i hi => ⟨_, Ex.ownc (Ex.seq (Ex1.aug T.ok rfl (by walk_at "v") (by walk_at "iop") (by walk_at "sto") rfl) (Ex.seq (Ex1.append (by walk_at "v") (by rw [pl]; lia)) (Ex.seq (Ex1.aug T.ok rfl (by walk_at "v") (by walk_at "iop"; lia) (by walk_at "sto") rfl) Ex.nil))) ?_, .cons' rfl ?_ (.cons rfl (.cons rfl (.cons rfl (.cons rfl .nil))))⟩) (by rfl) (by lia))) ?_
    · rw [mask_mod, Nat.zero_add, Int.toNat_natCast, hdx, hdy, (cyA_step (by lia) u v i).1, pad_succ]
    · rw [shr_div, Nat.zero_add, Int.toNat_natCast, hdx, hdy, (cyA_step (by lia) u v i).2]
    have hu0 : u / (2 ^ w) ^ la = 0 := Nat.div_eq_of_lt (hla ▸ (dg_len hB u).1)
    have hv0 : ∀ i, lb ≤ i → v / (2 ^ w) ^ i = 0 := fun i hi => Nat.div_eq_of_lt ((dg_len_le hB).mp (by lia))
    refine Ex.seq (Ex1.for_ T.ok (by walk_at "it") (by rfl) (ForR.up (s := lb) (m := la - lb) (fun i => [(Str.ofString "carry", .int (cyA (2 ^ w) u v (lb + i))), (Str.ofString "mask", .int (1 * 2 ^ (w : Int).toNat - 1)), (Str.ofString "a", N w u), (Str.ofString "b", N w v), (Str.ofString "w", .int w)])
      (fun i => some (Str.ofString "found", pad (2 ^ w) (lb + i) (u + v))) (by intro _; walk_at "sto") (fun i hi => ⟨_, Ex.ownc (Ex.seq (Ex1.aug T.ok rfl (by walk_at "v") (by walk_at "iop") (by walk_at "sto") rfl) (Ex.seq (Ex1.append (by walk_at "v") (by rw [pl]; lia)) (Ex.seq (Ex1.aug T.ok rfl (by walk_at "v") (by walk_at "iop"; lia) (by walk_at "sto") rfl) Ex.nil))) ?_, .cons' rfl ?_ (.cons rfl (.cons rfl (.cons rfl (.cons rfl .nil))))⟩) (by rw [hlb]) (by lia))) ?_
    · rw [mask_mod, Int.toNat_natCast, hdx, (cyA_step1 (by lia) u v _ (hv0 _ (by lia))).1, ← Nat.add_assoc, pad_succ]
    · rw [shr_div, Int.toNat_natCast, hdx, (cyA_step1 (by lia) u v _ (hv0 _ (by lia))).2, ← Nat.add_assoc]
    rw [show lb + (la - lb) = la by lia, cyA_top u v la hu0 (hv0 la hlen)]
    have hbd := cyA_bound (B := 2 ^ w) (by lia) u v la
    rw [cyA_top u v la hu0 (hv0 la hlen)] at hbd
    by_cases h0 : 0 < (u + v) / (2 ^ w) ^ la
    · refine Ex.seq (Ex1.ifT (by walk_at "t") (by simp only [decide_eq_true_eq]; exact Int.ofNat_lt.mpr h0) (Ex.seq (Ex1.append (by walk_at "v") (by rw [pl]; lia)) Ex.nil)) (Ex.retV' T.ok (by walk_at "ev") ?_)
      rw [pad_top hB (by lia) h0]
    · refine Ex.seq (Ex1.ifF (by walk_at "t") (by simp only [decide_eq_false_iff_not]; exact fun q => h0 (Int.ofNat_lt.mp q)) Ex.nil) (Ex.retV' T.ok (by walk_at "ev") ?_)
      show V.ints _ = V.ints (dg (2 ^ w) (u + v))
      rw [dg_pad hB la (u + v) ?_ ?_]
      · exact (Nat.div_eq_zero_iff_lt (Nat.pow_pos (by lia))).mp (by lia)
      · intro j hj
        have := (dg_len hB u).2 j (by lia)
        lia
end
-- F4
section
variable {C : Cx} {n : Nat} {sc : Names} {σ σ' : Sto} {own own' : Option (Str × List Int)}

theorem fn_sub (T : Tx C) {w x y : Nat} (hw : W w) (hx : x < lid) (hy : y < lid) (hyx : y ≤ x) : Fn C 3 (.fn (C.ad 7)) [N w x, N w y, .int w] (N w (x - y)) := by
  have lx := len_le hw hx
  have ly := len_le hw hy
  have hB := hw.B
  have hb1 := hw.bits
  have hw1 := hw.lo
  have hw2 := hw.hi
  have hcmp := fn_compare T hw hx hy
  refine Fn.defK T (ps := [Str.ofString "a", Str.ofString "b", Str.ofString "w"]) rfl rfl (by kernel_rfl) (by walk_at "bind") rfl (by decide +kernel) ?_
  dsimp only [List.zip, List.zipWith]
  refine Ex.seq (Ex1.ifF (by walk_at "t") (cmpI_ge hyx) Ex.nil) ?_
  have hdx : ∀ i, (dg (2 ^ w) x).getD i 0 = ((x / (2 ^ w) ^ i % (2 ^ w) : Nat) : Int) := dg_getD hB x
  have hdy : ∀ i, (dg (2 ^ w) y).getD i 0 = ((y / (2 ^ w) ^ i % (2 ^ w) : Nat) : Int) := dg_getD hB y
  have pl := pad_length (2 ^ w)
  generalize hla : (dg (2 ^ w) x).length = la at *
  generalize hlb : (dg (2 ^ w) y).length = lb at *
  have hv0 : ∀ i, lb ≤ i → y / (2 ^ w) ^ i = 0 := fun i hi => Nat.div_eq_of_lt ((dg_len_le hB).mp (by lia))
  refine Ex.seq (Ex1.post (σ' := [(Str.ofString "borrow", .int (cyS (2 ^ w) x y 0)), (Str.ofString "base", .int ((2 ^ w : Nat) : Int)), (Str.ofString "a", N w x), (Str.ofString "b", N w y), (Str.ofString "w", .int w)])
    (Ex1.swapOwn T.ok (x := Str.ofString "found") (xs := [Str.ofString "borrow", Str.ofString "base"]) EvNew.nil (by walk_at "evs") (by walk_at "stos") rfl rfl rfl (hw := by walk_at "swp")) (.cons' rfl (by rw [cyS_zero _ hyx]) (.cons' rfl (by rw [shl_one]) (.cons rfl (.cons rfl (.cons rfl .nil)))))) ?_
  refine Ex.seq (Ex1.for_ T.ok (by walk_at "it") (by rfl) (ForR.up (s := 0) (m := la) (fun i => [(Str.ofString "borrow", .int (cyS (2 ^ w) x y i)), (Str.ofString "base", .int ((2 ^ w : Nat) : Int)), (Str.ofString "a", N w x), (Str.ofString "b", N w y), (Str.ofString "w", .int w)])
    (fun i => some (Str.ofString "found", pad (2 ^ w) i (x - y))) (by intro _; walk_at "sto") (fun i hi => ?_) (by rfl) (by lia))) ?_
  · have hs := cyS_step (B := 2 ^ w) (by lia) hyx i
    have hbd := cyS_bound (B := 2 ^ w) (by lia) hyx (i + 1)
    have hd := Nat.mod_lt ((x - y) / (2 ^ w) ^ i) (show 2 ^ w > 0 by lia)
    have hcs : cyS (2 ^ w) x y (i + 1) = 0 ∨ cyS (2 ^ w) x y (i + 1) = 1 := by lia
    refine ⟨_, Ex.ownc (Ex.seq (Ex1.assign (d := .int (((x - y) / (2 ^ w) ^ i % 2 ^ w : Nat) - ((2 ^ w : Nat) : Int) * cyS (2 ^ w) x y (i + 1))) (EvO.cast (by
        walk_at "v"
        · refine Ev.iteC (d := .int ((y / (2 ^ w) ^ i % 2 ^ w : Nat) : Int)) T.ok (by walk_at "evs") (fun hb => ?_) (fun hb => ?_)
          · simp only [decide_eq_true_eq] at hb
            exact ⟨_, by walk_at "evs", by rw [Nat.zero_add, Int.toNat_natCast, hdy]⟩
          · simp only [decide_eq_false_iff_not] at hb
            exact ⟨_, by walk_at "evs", by rw [hv0 i (by lia), Nat.zero_mod]; rfl⟩
        walk_at "evs") (by rw [Nat.zero_add, Int.toNat_natCast, hdx, hs])) (by walk_at "sto"))
      (Ex.seq (Ex1.assign (d := .int (cyS (2 ^ w) x y (i + 1))) (by
        apply EvO.sh T.ok
        refine Ev.iteC T.ok (by walk_at "evs") (fun hb => ?_) (fun hb => ?_)
        · simp only [decide_eq_true_eq] at hb
          refine ⟨_, by walk_at "evs", ?_⟩
          rcases hcs with q | q
          · rw [q] at hb; lia
          · rw [q]
        · simp only [decide_eq_false_iff_not] at hb
          refine ⟨_, by walk_at "evs", ?_⟩
          rcases hcs with q | q
          · rw [q]
          · rw [q] at hb; lia) (by walk_at "sto")) (Ex.seq (Ex1.append (i := ((x - y) / (2 ^ w) ^ i % 2 ^ w : Nat)) (by
        apply EvO.sh T.ok
        refine Ev.iteC T.ok (by walk_at "evs") (fun hb => ?_) (fun hb => ?_)
        · simp only [decide_eq_true_eq] at hb
          refine ⟨_, by walk_at "evs", ?_⟩
          rcases hcs with q | q
          · rw [q] at hb; lia
          · rw [q]; exact congrArg V.int (by lia)
        · simp only [decide_eq_false_iff_not] at hb
          refine ⟨_, by walk_at "evs", ?_⟩
          rcases hcs with q | q
          · rw [q]; exact congrArg V.int (by lia)
          · rw [q] at hb; lia) (by rw [pl]; lia)) Ex.nil))) ?_, .cons rfl (.cons rfl (.cons rfl (.cons rfl (.cons rfl .nil))))⟩
    rw [pad_succ]
  · have hnp := fn_normal_pad T (n := la) (X := x - y) hw (Nat.lt_of_le_of_lt (Nat.sub_le _ _) (hla ▸ (dg_len hB x).1)) (by lia)
    exact Ex.retV' T.ok (by walk_at "ev") rfl
end
-- A3

theorem dg_glue {B : Nat} (hB : 2 ≤ B) (i x : Nat) {y : Nat} (hy : 0 < y) : pad B i x ++ dg B y = dg B (x % B ^ i + B ^ i * y) := by
  have hp : 0 < B ^ i := Nat.pow_pos (by lia)
  have hm := Nat.mod_lt x hp
  obtain ⟨h1, h2⟩ := dg_len hB y
  generalize hl : (dg B y).length = l at h1 h2
  have hl0 : l ≠ 0 := fun q => by rw [q] at h1; simp at h1; lia
  have e1 : (x % B ^ i + B ^ i * y) / B ^ i = y := by rw [Nat.add_mul_div_left _ _ hp, Nat.div_eq_of_lt hm, Nat.zero_add]
  have e2 : pad B i (x % B ^ i + B ^ i * y) = pad B i x := by rw [← pad_mod (by lia) i (x % B ^ i + B ^ i * y), Nat.add_mul_mod_self_left, Nat.mod_mod, pad_mod (by lia)]
  rw [dg_pad hB (i + l) (x % B ^ i + B ^ i * y), pad_append, e1, e2]
  · congr 1
    rw [dg_is_pad hB y, hl]
  · rw [Nat.pow_add]
    have : B ^ i * (y + 1) ≤ B ^ i * B ^ l := Nat.mul_le_mul_left _ h1
    rw [Nat.mul_add] at this
    lia
  · intro j hj
    obtain ⟨k, rfl⟩ : ∃ k, l = k + 1 := ⟨l - 1, by lia⟩
    have := Nat.mul_le_mul_left (B ^ i) (h2 k rfl)
    rw [← Nat.pow_add] at this
    rw [show j = i + k by lia]
    exact Nat.le_trans this (Nat.le_add_left _ _)
theorem dg_fill {B : Nat} (hB : 2 ≤ B) {i x : Nat} (h : (dg B x).length ≤ i) : dg B x ++ List.replicate (i - (dg B x).length) 0 = pad B i x := by
  have h1 := (dg_len hB x).1
  have e : pad B i x = pad B ((dg B x).length + (i - (dg B x).length)) x := by rw [Nat.add_sub_cancel' h]
  rw [e, pad_append, Nat.div_eq_of_lt h1, pad_zero, ← dg_is_pad hB x]
/-- the carry into place i of x * 2 ^ f -/
def cyL (B f x i : Nat) : Nat := (x % B ^ i) * 2 ^ f / B ^ i
theorem cyL_zero (B f x : Nat) : cyL B f x 0 = 0 := by simp [cyL, Nat.mod_one]
theorem cyL_lt {B : Nat} (hB : 0 < B) (f x i : Nat) : cyL B f x i < 2 ^ f := by
  have hp : 0 < B ^ i := Nat.pow_pos hB
  refine Nat.div_lt_of_lt_mul ?_
  rw [Nat.mul_comm (B ^ i)]
  rw [Nat.mul_comm]
  exact Nat.mul_lt_mul_of_pos_left (Nat.mod_lt x hp) (Nat.pow_pos (by lia))
theorem cyL_is {B : Nat} (hB : 0 < B) (f x i : Nat) : x * 2 ^ f / B ^ i = cyL B f x i + x / B ^ i * 2 ^ f := by
  have hp : 0 < B ^ i := Nat.pow_pos hB
  have e : x * 2 ^ f = (x % B ^ i) * 2 ^ f + B ^ i * (x / B ^ i * 2 ^ f) := by
    rw [← Nat.mul_assoc, ← Nat.add_mul, Nat.mod_add_div]
  rw [e, Nat.add_mul_div_left _ _ hp]
  rfl
theorem cyL_step {B : Nat} (hB : 0 < B) (f x i : Nat) : (cyL B f x i + x / B ^ i % B * 2 ^ f) % B = x * 2 ^ f / B ^ i % B ∧ (cyL B f x i + x / B ^ i % B * 2 ^ f) / B = cyL B f x (i + 1) := by
  have h1 := cyL_is hB f x i
  have h2 := cyL_is hB f x (i + 1)
  have h3 := Nat.div_add_mod (x / B ^ i) B
  rw [← div_succ] at h3
  have h4 : x / B ^ i * 2 ^ f = B * (x / B ^ (i + 1) * 2 ^ f) + x / B ^ i % B * 2 ^ f := by
    rw [← Nat.mul_assoc, ← Nat.add_mul, h3]
  have h5 : x * 2 ^ f / B ^ i = (cyL B f x i + x / B ^ i % B * 2 ^ f) + B * (x / B ^ (i + 1) * 2 ^ f) := by lia
  constructor
  · rw [h5, Nat.add_mul_mod_self_left]
  · have h6 : x * 2 ^ f / B ^ (i + 1) = (cyL B f x i + x / B ^ i % B * 2 ^ f) / B + x / B ^ (i + 1) * 2 ^ f := by rw [div_succ, h5, Nat.add_mul_div_left _ _ hB]
    lia
theorem cyL_top {B : Nat} (hB : 0 < B) (f x i : Nat) (h : x / B ^ i = 0) : cyL B f x i = x * 2 ^ f / B ^ i := by rw [cyL_is hB, h]; lia
-- F5
section
variable {C : Cx} {n : Nat} {sc : Names} {σ σ' : Sto} {own own' : Option (Str × List Int)}

set_option maxHeartbeats 2000000 in
theorem fn_add_at (T : Tx C) {w x y s : Nat} (hw : W w) (hx : x < lid) (hy : y < lid) (hs : s ≤ 3000) : Fn C 3 (.fn (C.ad 8)) [N w x, N w y, .int s, .int w] (N w (x + (2 ^ w) ^ s * y)) := by
  have lx := len_le hw hx
  have ly := len_le hw hy
  have hB := hw.B
  refine Fn.defK T (ps := [Str.ofString "a", Str.ofString "b", Str.ofString "spot", Str.ofString "w"]) rfl rfl (by kernel_rfl) (by walk_at "bind") rfl (by decide +kernel) ?_
  dsimp only [List.zip, List.zipWith]
  by_cases h0 : y = 0
  · subst h0
    exact Ex.retS (Ex1.ifT (by walk_at "t") (by rw [dg_zero]; rfl) (Ex.rete T.ok (by walk_at "evs") (by simp)))
  have h9 : (dg (2 ^ w) y).length ≠ 0 := fun q => h0 ((dg_len0 hB).mp q)
  refine Ex.seq (Ex1.ifF (by walk_at "t") (by simp only [beq_eq_false_iff_ne, ne_eq]; lia) Ex.nil) ?_
  by_cases hl : (dg (2 ^ w) x).length ≤ s
  · refine Ex.retS (Ex1.ifT (by walk_at "t") (by simpa using hl) (Ex.rete T.ok (by
      walk_at "ev"
      · exact Bop.rep (by lia) (by lia)
      all_goals walk_at "evs") ?_))
    have e := dg_glue hB s x (Nat.pos_of_ne_zero h0)
    rw [← dg_fill hB hl, Nat.mod_eq_of_lt ((dg_len_le hB).mp hl)] at e
    show V.list _ = V.list ((dg (2 ^ w) _).map V.int)
    rw [← e, List.map_append, List.map_append, List.map_replicate, show ((s : Int) - ((dg (2 ^ w) x).length : Int)).toNat = s - (dg (2 ^ w) x).length by lia]
  · have hd : x / (2 ^ w) ^ s < lid := Nat.lt_of_le_of_lt (Nat.div_le_self _ _) hx
    have hadd := fn_add T hw hd hy
    rw [show N w (x / (2 ^ w) ^ s) = .ints ((dg (2 ^ w) x).drop (s : Int).toNat) by rw [Int.toNat_natCast, dg_drop hB]] at hadd
    have l2 := len_le hw (x := x) hx
    have l3 : (dg (2 ^ w) (x / (2 ^ w) ^ s + y)).length ≤ 3001 := by
      rw [dg_len_le hB]
      have h1 := (dg_len_le hB).mp (len_le hw hd)
      have h2 := (dg_len_le hB).mp ly
      rw [Nat.pow_succ]
      have := Nat.mul_le_mul_left ((2 ^ w) ^ 3000) hB
      lia
    refine Ex.seq (Ex1.ifF (by walk_at "t") (by simp only [ge_iff_le, decide_eq_false_iff_not]; lia) Ex.nil) (Ex.rete T.ok (by walk_at "evs") ?_)
    show V.ints _ = V.ints _
    rw [Int.toNat_natCast, dg_take hB _ _ (by lia), dg_glue hB s x (y := x / (2 ^ w) ^ s + y) (Nat.add_pos_right _ (Nat.pos_of_ne_zero h0)), Nat.mul_add, ← Nat.add_assoc, Nat.mod_add_div]

end
-- F6
section
variable {C : Cx} {n : Nat} {sc : Names} {σ σ' : Sto} {own own' : Option (Str × List Int)}
theorem bits9 {a : Int} (h0 : 0 ≤ a) (h1 : a < 512) : (Builtin.Int.intBits a : Int) ≤ 9 := by
  have : Builtin.Int.intBits a ≤ 9 := intBits_le_iff.mpr (by lia)
  lia
set_option maxHeartbeats 400000 in
theorem fn_shift_left (T : Tx C) {w x k : Nat} (hw : W w) (hx : x < lid) (hk : k ≤ 1000) : Fn C 2 (.fn (C.ad 9)) [N w x, .int k, .int w] (N w (x * 2 ^ k)) := by
  have lx := len_le hw hx
  have hB := hw.B
  have hB9 := hw.B9
  have hb1 := hw.bits
  have hw1 := hw.lo
  have hw2 := hw.hi
  refine Fn.defK T (ps := [Str.ofString "a", Str.ofString "n", Str.ofString "w"]) rfl rfl (by kernel_rfl) (by walk_at "bind") rfl (by decide +kernel) ?_
  dsimp only [List.zip, List.zipWith]
  by_cases h0 : x = 0
  · subst h0
    exact Ex.retS (Ex1.ifT (by walk_at "t") (by rw [dg_zero]; rfl) (Ex.rete T.ok (by walk_at "evs") (by rw [Nat.zero_mul]; show V.list _ = V.list ((dg _ 0).map V.int); rw [dg_zero]; rfl)))
  have h9 : (dg (2 ^ w) x).length ≠ 0 := fun q => h0 ((dg_len0 hB).mp q)
  refine Ex.seq (Ex1.ifF (by walk_at "t") (by simp only [beq_eq_false_iff_ne, ne_eq]; lia) Ex.nil) ?_
  have hsp : (k : Int) / (w : Int) = ((k / w : Nat) : Int) := by lia
  have hfe : (k : Int) % (w : Int) = ((k % w : Nat) : Int) := by lia
  have hsp2 : k / w ≤ 1000 := Nat.le_trans (Nat.div_le_self _ _) hk
  have hf := Nat.mod_lt k (show w > 0 by lia)
  have hkw : 2 ^ k = 2 ^ (k % w) * (2 ^ w) ^ (k / w) := by rw [← Nat.pow_mul, ← Nat.pow_add, Nat.mod_add_div]
  generalize hsv : k / w = sp at *
  generalize hfv : k % w = f at *
  refine Ex.seq (Ex1.post (σ' := [(Str.ofString "spots", .int sp), (Str.ofString "few", .int f), (Str.ofString "a", N w x), (Str.ofString "w", .int w)])
    (Ex1.swap T.ok (xs := [Str.ofString "spots", Str.ofString "few"]) (by walk_at "v") (by walk_at "stos") rfl (hw := by walk_at "swp")) (.cons' rfl (by rw [hsp]) (.cons' rfl (by rw [hfe]) (.cons rfl (.cons rfl .nil))))) ?_
  have hdx : ∀ i, (dg (2 ^ w) x).getD i 0 = ((x / (2 ^ w) ^ i % (2 ^ w) : Nat) : Int) := dg_getD hB x
  have pl := pad_length (2 ^ w)
  have hbx : ∀ i, (Builtin.Int.intBits ((dg (2 ^ w) x).getD i 0) : Int) ≤ 9 := fun i => by
    rw [hdx]
    have := Nat.mod_lt (x / (2 ^ w) ^ i) (show 2 ^ w > 0 by lia)
    exact bits9 (by lia) (by lia)
  generalize hla : (dg (2 ^ w) x).length = la at *
  refine Ex.seq (Ex1.post (σ' := [(Str.ofString "carry", .int (cyL (2 ^ w) f x 0)), (Str.ofString "mask", .int (1 * 2 ^ (w : Int).toNat - 1)), (Str.ofString "few", .int f), (Str.ofString "a", N w x), (Str.ofString "w", .int w)])
    (Ex1.ownc (ns' := List.replicate (sp : Int).toNat 0 ++ pad (2 ^ w) 0 (x * 2 ^ f)) (Ex1.swapOwn T.ok (x := Str.ofString "found") (ns := List.replicate (sp : Int).toNat 0) (xs := [Str.ofString "carry", Str.ofString "mask"]) (EvNew.rep (x := sp) T.ok .cint (by walk_at "ev") (by lia) (by lia)) (by walk_at "evs") (by walk_at "stos") rfl rfl rfl (hw := by walk_at "swp")) (List.append_nil _).symm)
      (.cons' rfl (by rw [cyL_zero]; rfl) (.cons rfl (.cons rfl (.cons rfl (.cons rfl .nil)))))) ?_
  refine Ex.seq (Ex1.for_ T.ok (EvIt.list T.ok (by walk_at "ev")) (by rfl) (ForR.each (m := la) (fun i => [(Str.ofString "carry", .int (cyL (2 ^ w) f x i)), (Str.ofString "mask", .int (1 * 2 ^ (w : Int).toNat - 1)), (Str.ofString "few", .int f), (Str.ofString "a", N w x), (Str.ofString "w", .int w)])
    (fun i => some (Str.ofString "found", List.replicate (sp : Int).toNat 0 ++ pad (2 ^ w) i (x * 2 ^ f))) (by intro _; walk_at "sto") (fun i hi => ⟨_, Ex.ownc (Ex.seq (Ex1.aug T.ok rfl (by walk_at "v"; have := hbx i; lia) (by walk_at "iop") (by walk_at "sto") rfl) (Ex.seq (Ex1.append (by walk_at "v") (by rw [List.length_append, pl, List.length_replicate, Int.toNat_natCast]; lia)) (Ex.seq (Ex1.aug T.ok rfl (by walk_at "v") (by walk_at "iop"; lia) (by walk_at "sto") rfl) Ex.nil))) ?_, .cons' rfl ?_ (.cons rfl (.cons rfl (.cons rfl (.cons rfl .nil))))⟩) hla)) ?_
  · rw [hdx, Int.toNat_natCast f, bitOr_low _ _ _ (cyL_lt (B := 2 ^ w) (by lia) f x i), mask_mod, pad_succ, ← List.append_assoc, ← (cyL_step (by lia) f x i).1]
    simp
  · rw [hdx, Int.toNat_natCast f, bitOr_low _ _ _ (cyL_lt (B := 2 ^ w) (by lia) f x i), shr_div, ← (cyL_step (by lia) f x i).2]
    simp
  have hu0 : x / (2 ^ w) ^ la = 0 := Nat.div_eq_of_lt (hla ▸ (dg_len hB x).1)
  have hX : 0 < x * 2 ^ f := Nat.mul_pos (by lia) (Nat.pow_pos (by lia))
  have hfin : List.replicate sp 0 ++ dg (2 ^ w) (x * 2 ^ f) = dg (2 ^ w) (x * 2 ^ k) := by
    have := dg_glue hB sp 0 hX
    rw [pad_zero, Nat.zero_mod, Nat.zero_add] at this
    rw [this, hkw, ← Nat.mul_assoc x, Nat.mul_comm ((2 ^ w) ^ sp)]
  have hlt := cyL_lt (B := 2 ^ w) (by lia) f x la
  have hpf : 2 ^ f ≤ 2 ^ w := Nat.pow_le_pow_right (by lia) (by lia)
  rw [cyL_top (by lia) f x la hu0] at *
  by_cases h1 : 0 < (x * 2 ^ f) / (2 ^ w) ^ la
  · refine Ex.seq (Ex1.ifT (by walk_at "t") (by simp only [decide_eq_true_eq]; exact Int.ofNat_lt.mpr h1) (Ex.seq (Ex1.append (by walk_at "v") (by rw [List.length_append, pl, List.length_replicate, Int.toNat_natCast]; lia)) Ex.nil)) (Ex.retV' T.ok (by walk_at "evs") ?_)
    rw [List.append_assoc, pad_top hB (by lia) h1, Int.toNat_natCast, hfin]
  · refine Ex.seq (Ex1.ifF (by walk_at "t") (by simp only [decide_eq_false_iff_not]; exact fun q => h1 (Int.ofNat_lt.mp q)) Ex.nil) (Ex.retV' T.ok (by walk_at "evs") ?_)
    show V.ints _ = V.ints _
    rw [← hfin, Int.toNat_natCast, dg_pad hB la (x * 2 ^ f) ?_ ?_]
    · exact (Nat.div_eq_zero_iff_lt (Nat.pow_pos (by lia))).mp (Nat.eq_zero_of_not_pos h1)
    · intro j hj
      have h2 := (dg_len hB x).2 j (by lia)
      have h3 := Nat.le_mul_of_pos_right x (show 0 < 2 ^ f from Nat.pow_pos (by lia))
      lia
end
-- F7
section
variable {C : Cx} {n : Nat} {sc : Names} {σ σ' : Sto} {own own' : Option (Str × List Int)}

abbrev lid2 : Nat := lid * lid
theorem lid_big : 2 ≤ lid := by
  show 2 ≤ 2 ^ 3000
  exact Nat.le_trans (show 2 ≤ 2 ^ 1 from Nat.le_refl _) (Nat.pow_le_pow_right (by omega) (by omega))
theorem len_le2 {w x : Nat} (h : W w) (hx : x < lid2) : (dg (2 ^ w) x).length ≤ 6000 := by
  rw [dg_len_le h.B]
  refine Nat.lt_of_lt_of_le hx ?_
  show 2 ^ 3000 * 2 ^ 3000 ≤ _
  rw [← Nat.pow_add, ← Nat.pow_mul]
  exact Nat.pow_le_pow_right (by omega) (by have := h.lo; exact Nat.le_mul_of_pos_left _ (by omega))
theorem add_lid2 {x y : Nat} (hx : x < lid) (hy : y < lid) : x + y < lid2 := by
  have := lid_big
  have h2 : 2 * lid ≤ lid * lid := Nat.mul_le_mul_right _ this
  show _ < lid * lid
  omega
theorem mul_lid2 {x y : Nat} (hx : x < lid) (hy : y < lid) : x * y < lid2 := Nat.mul_lt_mul'' hx hy
theorem lt_lid2 {x : Nat} (hx : x < lid) : x < lid2 := by have := add_lid2 hx hx; omega

theorem fn_signed0 (T : Tx C) {w x : Nat} {b : Bool} (hw : W w) (hx : x < lid2) : Fn C 2 (.fn (C.ad 11)) [.bool b, N w x] (.tup [.bool (b && decide (0 < x)), N w x]) := by
  have lx := len_le2 hw hx
  have hB := hw.B
  refine Fn.defK T (ps := [Str.ofString "is_below", Str.ofString "nat"]) rfl rfl (by kernel_rfl) (by walk_at "bind") rfl (by decide +kernel) ?_
  dsimp only [List.zip, List.zipWith]
  refine Ex.rete T.ok (Ev.tup (Evs.cons T.ok (Ev.and (b := b) (r := .bool (b && decide (0 < x))) T.ok (.name rfl) .bool (fun h => by rw [h]; rfl) (fun h => ⟨by walk_at "evs", ?_⟩)) (Evs.cons T.ok (.name rfl) .nil))) rfl
  rw [h, Bool.true_and]
  have h0 := dg_len0 hB (x := x)
  by_cases hx0 : 0 < x
  · rw [decide_eq_true hx0]; exact congrArg V.bool (decide_eq_true (by omega)).symm
  · rw [decide_eq_false hx0]; exact congrArg V.bool (decide_eq_false (by omega)).symm
theorem fn_signed (T : Tx C) {w x : Nat} {b : Bool} (z : Int) (hw : W w) (hx : x < lid2) (h : z.natAbs = x) (hb : x ≠ 0 → b = decide (z < 0)) : Fn C 2 (.fn (C.ad 11)) [.bool b, N w x] (S w z) := by
  subst h
  refine (fn_signed0 T hw hx).cast ?_
  by_cases h0 : z.natAbs = 0
  · rw [show z = 0 by omega]; simp
  · rw [hb h0, decide_eq_true (show 0 < z.natAbs by omega), Bool.and_true]

theorem fn_s_neg (T : Tx C) {w : Nat} {x : Int} (hw : W w) (hx : x.natAbs < lid) : Fn C 3 (.fn (C.ad 12)) [S w x] (S w (-x)) := by
  have hs := fn_signed (b := !decide (x < 0)) T (-x) hw (lt_lid2 hx) (by omega) (fun h => by rw [← decide_not]; exact decide_eq_decide.mpr (by omega))
  refine Fn.defK T (ps := [Str.ofString "x"]) rfl rfl (by kernel_rfl) (by walk_at "bind") rfl (by decide +kernel) ?_
  dsimp only [List.zip, List.zipWith]
  exact Ex.rete T.ok (by walk_at "evs") rfl
theorem fn_s_add (T : Tx C) {w : Nat} {x y : Int} (hw : W w) (hx : x.natAbs < lid) (hy : y.natAbs < lid) : Fn C 4 (.fn (C.ad 13)) [S w x, S w y, .int w] (S w (x + y)) := by
  have hcmp := fn_compare T hw hx hy
  refine Fn.defK T (ps := [Str.ofString "x", Str.ofString "y", Str.ofString "w"]) rfl rfl (by kernel_rfl) (by walk_at "bind") rfl (by decide +kernel) ?_
  dsimp only [List.zip, List.zipWith]
  by_cases h : decide (x < 0) = decide (y < 0)
  · have hadd := fn_add T hw hx hy
    have h' := decide_eq_decide.mp h
    have hs := fn_signed (b := decide (x < 0)) T (x + y) hw (add_lid2 hx hy) (by omega) (fun h => decide_eq_decide.mpr (by omega))
    exact Ex.retS (Ex1.ifT (by walk_at "t") (by rw [h]; simp) (Ex.rete T.ok (by walk_at "evs") rfl))
  · have h' : (x < 0 ∧ 0 ≤ y) ∨ (0 ≤ x ∧ y < 0) := by
      by_cases a : x < 0 <;> by_cases b : y < 0
      · exact absurd (by rw [decide_eq_true a, decide_eq_true b]) h
      · omega
      · omega
      · exact absurd (by rw [decide_eq_false a, decide_eq_false b]) h
    refine Ex.seq (Ex1.ifF (by walk_at "t") (by simpa using h) Ex.nil) ?_
    by_cases h2 : x.natAbs < y.natAbs
    · have hsub := fn_sub T hw hy hx (Nat.le_of_lt h2)
      have hs := fn_signed (x := y.natAbs - x.natAbs) (b := decide (y < 0)) T (x + y) hw (lt_lid2 (Nat.lt_of_le_of_lt (Nat.sub_le _ _) hy)) (by omega) (fun h => decide_eq_decide.mpr (by omega))
      exact Ex.retS (Ex1.ifT (by walk_at "t") (cmpI_lt h2) (Ex.rete T.ok (by walk_at "evs") rfl))
    · have hsub := fn_sub T hw hx hy (Nat.le_of_not_lt h2)
      have hs := fn_signed (x := x.natAbs - y.natAbs) (b := decide (x < 0)) T (x + y) hw (lt_lid2 (Nat.lt_of_le_of_lt (Nat.sub_le _ _) hx)) (by omega) (fun h => decide_eq_decide.mpr (by omega))
      exact Ex.seq (Ex1.ifF (by walk_at "t") (cmpI_ge (Nat.le_of_not_lt h2)) Ex.nil) (Ex.rete T.ok (by walk_at "evs") rfl)
theorem fn_s_sub (T : Tx C) {w : Nat} {x y : Int} (hw : W w) (hx : x.natAbs < lid) (hy : y.natAbs < lid) : Fn C 5 (.fn (C.ad 14)) [S w x, S w y, .int w] (S w (x - y)) := by
  have hn := fn_s_neg T hw hy
  have ha := fn_s_add (y := -y) T hw hx (by rw [Int.natAbs_neg]; exact hy)
  refine Fn.defK T (ps := [Str.ofString "x", Str.ofString "y", Str.ofString "w"]) rfl rfl (by kernel_rfl) (by walk_at "bind") rfl (by decide +kernel) ?_
  dsimp only [List.zip, List.zipWith]
  exact Ex.rete T.ok (by walk_at "evs") (by rw [Int.sub_eq_add_neg])
theorem fn_s_mul (T : Tx C) {w k : Nat} {x y : Int} {m : V} (hw : W w) (hk : 2 ≤ k) (hx : x.natAbs < lid) (hy : y.natAbs < lid) (hm : Fn C k m [N w x.natAbs, N w y.natAbs, .int w] (N w (x.natAbs * y.natAbs))) : Fn C (k + 1) (.fn (C.ad 15)) [S w x, S w y, .int w, m] (S w (x * y)) := by
  have hs := fn_signed (b := decide (x < 0) != decide (y < 0)) T (x * y) hw (mul_lid2 hx hy) (Int.natAbs_mul _ _) (fun h => by
    have h1 : x ≠ 0 := fun q => h (by rw [q]; simp)
    have h2 : y ≠ 0 := fun q => h (by rw [q]; simp)
    rcases Int.lt_or_gt_of_ne h1 with a | a <;> rcases Int.lt_or_gt_of_ne h2 with b | b
    · have := Int.mul_pos_of_neg_of_neg a b; simp [a, b]; omega
    · have := Int.mul_neg_of_neg_of_pos a b; simp [a, this]; omega
    · have := Int.mul_neg_of_pos_of_neg a b; simp [b, this]; omega
    · have := Int.mul_pos a b; rw [decide_eq_false (by omega), decide_eq_false (by omega), decide_eq_false (by omega)]; rfl)
  refine Fn.defK T (ps := [Str.ofString "x", Str.ofString "y", Str.ofString "w", Str.ofString "mul"]) rfl rfl (by kernel_rfl) (by walk_at "bind") rfl (by decide +kernel) ?_
  dsimp only [List.zip, List.zipWith]
  exact Ex.rete T.ok (by walk_at "evs") rfl
theorem fn_natural (T : Tx C) {w x : Nat} : Fn C 1 (.fn (C.ad 25)) [S w (x : Int)] (N w x) := by
  refine Fn.defK T (ps := [Str.ofString "x"]) rfl rfl (by kernel_rfl) (by walk_at "bind") rfl (by decide +kernel) ?_
  dsimp only [List.zip, List.zipWith]
  exact Ex.seq (Ex1.ifF (by walk_at "t") (by simp) Ex.nil) (Ex.rete T.ok (by walk_at "evs") rfl)
theorem fn_scaled (T : Tx C) {w k : Nat} {x : Int} (hw : W w) (hx : x.natAbs < lid) (hk : k ≤ 1000) : Fn C 3 (.fn (C.ad 19)) [S w x, .int k, .int w] (S w (x * 2 ^ k)) := by
  have hsh := fn_shift_left T hw hx hk
  refine Fn.defK T (ps := [Str.ofString "x", Str.ofString "n", Str.ofString "w"]) rfl rfl (by kernel_rfl) (by walk_at "bind") rfl (by decide +kernel) ?_
  dsimp only [List.zip, List.zipWith]
  have hp : (0 : Int) < 2 ^ k := Int.pow_pos (by decide)
  refine Ex.rete T.ok (by walk_at "evs") ?_
  have e1 : decide (x * 2 ^ k < 0) = decide (x < 0) := decide_eq_decide.mpr ⟨fun h => by
    refine Int.not_le.mp fun q => ?_
    have := Int.mul_nonneg q (Int.le_of_lt hp)
    omega, fun h => Int.mul_neg_of_neg_of_pos h hp⟩
  have e2 : (x * 2 ^ k).natAbs = x.natAbs * 2 ^ k := by rw [Int.natAbs_mul, Int.natAbs_pow]; rfl
  show _ = V.tup [.bool (decide (x * 2 ^ k < 0)), N w (x * 2 ^ k).natAbs]
  rw [e1, e2]
end
-- F8
section
variable {C : Cx} {n : Nat} {sc : Names} {σ σ' : Sto} {own own' : Option (Str × List Int)}

theorem ex_step {B d : Nat} (hB : 0 < B) (hd : 0 < d) (U U' : Nat) (h : U' / B = U) : ((U % d) * B + U' % B) / d = U' / d % B ∧ ((U % d) * B + U' % B) % d = U' % d ∧ U' / d / B = U / d := by
  have h1 := Nat.div_add_mod U' B
  have h2 := Nat.div_add_mod U d
  have h3 := Nat.mod_lt U hd
  have h4 := Nat.mod_lt U' hB
  rw [h] at h1
  have e : U' = ((U % d) * B + U' % B) + d * (U / d * B) := by
    have : B * U = B * (d * (U / d)) + B * (U % d) := by rw [← Nat.mul_add, h2]
    have e2 : B * (d * (U / d)) = d * (U / d * B) := by rw [Nat.mul_left_comm, Nat.mul_comm B]
    have e3 : B * (U % d) = (U % d) * B := Nat.mul_comm _ _
    lia
  have hlt : (U % d) * B + U' % B < d * B := by
    have : (U % d + 1) * B ≤ d * B := Nat.mul_le_mul_right _ h3
    rw [Nat.add_mul] at this
    lia
  have hq : ((U % d) * B + U' % B) / d < B := Nat.div_lt_of_lt_mul hlt
  generalize hwh : (U % d) * B + U' % B = wh at *
  have e5 : U' / d = wh / d + U / d * B := by rw [e, Nat.add_mul_div_left _ _ hd]
  refine ⟨?_, ?_, ?_⟩
  · rw [e5, Nat.add_mul_mod_self_right, Nat.mod_eq_of_lt hq]
  · rw [e, Nat.add_mul_mod_self_left]
  · rw [e5, Nat.add_mul_div_right _ _ hB, Nat.div_eq_of_lt hq, Nat.zero_add]
theorem getD_rev {l : List Int} {i : Nat} (h : i < l.length) : l.reverse.getD i 0 = l.getD (l.length - 1 - i) 0 := by
  simp only [List.getD_eq_getElem?_getD, List.getElem?_reverse h]

theorem fn_exact_small (T : Tx C) {w d : Nat} {z : Int} (hw : W w) (hx : (d * z).natAbs < lid) (hd : 0 < d) (hd9 : d ≤ 10) : Fn C 3 (.fn (C.ad 20)) [S w (d * z), .int d, .int w] (S w z) := by
  have lx := len_le hw hx
  have hB := hw.B
  have hb1 := hw.bits
  have hw1 := hw.lo
  have hw2 := hw.hi
  refine Fn.defK T (ps := [Str.ofString "x", Str.ofString "d", Str.ofString "w"]) rfl rfl (by kernel_rfl) (by walk_at "bind") rfl (by decide +kernel) ?_
  dsimp only [List.zip, List.zipWith]
  have hX : (d * z).natAbs = d * z.natAbs := by rw [Int.natAbs_mul]; rfl
  have hdx : ∀ i, (dg (2 ^ w) (d * z).natAbs).getD i 0 = (((d * z).natAbs / (2 ^ w) ^ i % (2 ^ w) : Nat) : Int) := dg_getD hB _
  have hlast := (dg_len hB (d * z).natAbs).1
  have pl := pad_length (2 ^ w)
  generalize hn : (dg (2 ^ w) (d * z).natAbs).length = nn at *
  have hbt : ∀ r : Nat, r < 512 → (Builtin.Int.intBits (r : Int) : Int) ≤ 9 := fun r hr => bits9 (by lia) (by lia)
  refine Ex.seq (Ex1.post (σ' := [(Str.ofString "rest", .int (((d * z).natAbs / (2 ^ w) ^ (nn - 0) % d : Nat) : Int)), (Str.ofString "x", S w (d * z)), (Str.ofString "d", .int d), (Str.ofString "w", .int w)])
    (Ex1.swapOwn T.ok (x := Str.ofString "found") (xs := [Str.ofString "rest"]) EvNew.nil (by walk_at "evs") (by walk_at "stos") rfl rfl rfl (hw := by walk_at "swp")) (.cons' rfl (by rw [Nat.sub_zero, Nat.div_eq_of_lt hlast, Nat.zero_mod]; rfl) (.cons rfl (.cons rfl (.cons rfl .nil))))) ?_
  refine Ex.seq (Ex1.for_ T.ok (EvIt.revI T.ok (.bt T rfl (by simp [btab]) bv_reversed) (by walk_at "ev")) (by rfl) (ForR.each (m := nn) (fun i => [(Str.ofString "rest", .int (((d * z).natAbs / (2 ^ w) ^ (nn - i) % d : Nat) : Int)), (Str.ofString "x", S w (d * z)), (Str.ofString "d", .int d), (Str.ofString "w", .int w)])
    (fun i => some (Str.ofString "found", (pad (2 ^ w) i ((d * z).natAbs / (2 ^ w) ^ (nn - i) / d)).reverse)) (by intro _; walk_at "sto") (fun i hi => ?_) (by rw [List.length_reverse, hn]))) ?_
  · have hst := ex_step (B := 2 ^ w) (d := d) (by lia) hd ((d * z).natAbs / (2 ^ w) ^ (nn - i)) ((d * z).natAbs / (2 ^ w) ^ (nn - (i + 1))) (by rw [← div_succ, show nn - (i + 1) + 1 = nn - i by lia])
    have hr : ((d * z).natAbs / (2 ^ w) ^ (nn - i)) % d < d := Nat.mod_lt _ hd
    have hl : (dg (2 ^ w) (d * z).natAbs).reverse.getD i 0 = (((d * z).natAbs / (2 ^ w) ^ (nn - (i + 1)) % 2 ^ w : Nat) : Int) := by
      rw [getD_rev (by lia), hn, hdx, show nn - 1 - i = nn - (i + 1) by lia]
    generalize (d * z).natAbs / (2 ^ w) ^ (nn - i) = U at *
    generalize (d * z).natAbs / (2 ^ w) ^ (nn - (i + 1)) = U' at *
    obtain ⟨s1, s2, s3⟩ := hst
    rw [hl]
    refine ⟨_, Ex.ownc (Ex.seq (Ex1.assign (d := .int ((U % d * 2 ^ w + U' % 2 ^ w : Nat) : Int)) (EvO.cast (by
        walk_at "v"
        have := hbt (U % d) (by lia)
        lia) (by rw [Int.toNat_natCast]; simp)) (by walk_at "sto")) (Ex.seq (Ex1.append (by walk_at "v") (by rw [List.length_reverse, pl]; lia)) (Ex.seq (Ex1.assign (by walk_at "v") (by walk_at "sto")) Ex.nil))) ?_, .cons' rfl ?_ (.cons rfl (.cons rfl (.cons rfl .nil)))⟩
    · rw [pad, List.reverse_cons, s3, ← s1]; rfl
    · rw [← s2]; rfl
  · have hn2 := fn_normal_pad T (n := nn) (X := z.natAbs) hw (Nat.lt_of_le_of_lt (by rw [hX]; exact Nat.le_mul_of_pos_left _ hd) hlast) (by lia)
    rw [Nat.sub_self, Nat.pow_zero, Nat.div_one, hX, Nat.mul_mod_right, Nat.mul_div_cancel_left _ hd]
    rw [← List.reverse_reverse (pad (2 ^ w) nn z.natAbs)] at hn2
    refine Ex.seq (Ex1.ifF (by walk_at "t") (by simp) Ex.nil) (Ex.retV' T.ok (by
      walk_at "evs"
      rw [List.length_reverse, pl]; lia) ?_)
    have e : decide (d * z < 0) = decide (z < 0) := decide_eq_decide.mpr ⟨fun h => Int.not_le.mp fun q => by have := Int.mul_nonneg (show (0 : Int) ≤ d by lia) q; lia, fun h => Int.mul_neg_of_pos_of_neg (by lia) h⟩
    rw [e]
end
-- F9
section
variable {C : Cx} {n : Nat} {sc : Names} {σ σ' : Sto} {own own' : Option (Str × List Int)}

theorem fn_piece_size (T : Tx C) {l m : Nat} (hm : 0 < m) (hm2 : m ≤ 100) : Fn C 1 (.fn (C.ad 18)) [.int l, .int m] (.int ((l + m - 1) / m : Nat)) := by
  refine Fn.defK T (ps := [Str.ofString "length", Str.ofString "many"]) rfl rfl (by kernel_rfl) (by walk_at "bind") rfl (by decide +kernel) ?_
  dsimp only [List.zip, List.zipWith]
  exact Ex.rete T.ok (by walk_at "evs") (congrArg V.int (by rw [Int.natCast_ediv]; congr 1; lia))
theorem take_strip {B : Nat} (hB : 2 ≤ B) (s X : Nat) : ((dg B X).take s).take (stripLen ((dg B X).take s) ((dg B X).take s).length) = dg B (X % B ^ s) := by
  have h1 : (dg B X).take s = pad B (min s (dg B X).length) (X % B ^ s) := by
    by_cases h : s ≤ (dg B X).length
    · rw [Nat.min_eq_left h, pad_mod (by lia), dg_take hB _ _ h]
    · have h2 := (dg_len_le hB).mp (show (dg B X).length ≤ s by lia)
      rw [Nat.min_eq_right (by lia), List.take_of_length_le (by lia), Nat.mod_eq_of_lt h2, ← dg_is_pad hB]
  rw [h1, norm_pad hB]
  by_cases h : s ≤ (dg B X).length
  · rw [Nat.min_eq_left h]; exact Nat.mod_lt _ (Nat.pow_pos (by lia))
  · rw [Nat.min_eq_right (by lia)]
    exact Nat.lt_of_le_of_lt (Nat.mod_le _ _) (dg_len hB X).1
/-- the pieces of x -/
def pcs (B x many size : Nat) : List Nat := (List.range (many - 1)).map (fun i => x / B ^ (i * size) % B ^ size) ++ [x / B ^ ((many - 1) * size)]
theorem fn_pieces (T : Tx C) {w x many size : Nat} (hw : W w) (hx : x < lid) (hm : 0 < many) (hm2 : many ≤ 10) (hs : size ≤ 3000) : Fn C 3 (.fn (C.ad 17)) [N w x, .int many, .int size] (.list ((pcs (2 ^ w) x many size).map (N w))) := by
  have lx := len_le hw hx
  have hB := hw.B
  refine Fn.defK T (ps := [Str.ofString "a", Str.ofString "many", Str.ofString "size"]) rfl rfl (by kernel_rfl) (by walk_at "bind") rfl (by decide +kernel) ?_
  dsimp only [List.zip, List.zipWith]
  have hbig : many * size ≤ 30000 := Nat.le_trans (Nat.mul_le_mul hm2 hs) (by lia)
  refine Ex.seq (Ex1.assignComp (rs := (List.range (many - 1)).map (fun i => N w (x / (2 ^ w) ^ (i * size) % (2 ^ w) ^ size))) (σc := [(Str.ofString "a", N w x), (Str.ofString "size", .int size)]) T.ok (by walk_at "it") (CompOk.of rfl (by decide +kernel) (.cons rfl rfl (.cons rfl rfl .nil))) rfl (fun i d hd => ?_) ?_ ?_ (by walk_at "sto") (swaps_true rfl rfl (by decide +kernel))) ?_
  · obtain ⟨hi, rfl⟩ := rangeV_get hd
    have hi' : i < many - 1 := by lia
    rw [show (0 + (i : Int) * 1) = (i : Int) by lia]
    have e1 : (i : Int) * (size : Int) = ((i * size : Nat) : Int) := by rw [Int.natCast_mul]
    have e2 : ((i : Int) + 1) * (size : Int) = ((i * size + size : Nat) : Int) := by rw [Int.add_mul, Int.one_mul, Int.natCast_add, Int.natCast_mul]
    have hn : Fn C 2 (.fn (C.ad 4)) [.ints (((dg (2 ^ w) x).drop ((i : Int) * (size : Int)).toNat).take ((((i : Int) + 1) * (size : Int)).toNat - ((i : Int) * (size : Int)).toNat))] (N w (x / (2 ^ w) ^ (i * size) % (2 ^ w) ^ size)) := by
      rw [e1, e2, Int.toNat_natCast, Int.toNat_natCast, show i * size + size - i * size = size by lia, dg_drop hB]
      have := fn_normal T ((dg (2 ^ w) (x / (2 ^ w) ^ (i * size))).take size) (by rw [List.length_take]; lia)
      rwa [take_strip hB] at this
    refine ⟨_, by rw [List.getElem?_map, List.getElem?_range hi']; rfl, ?_⟩
    walk_at "evs"
  · rw [rangeV_length, List.length_map, List.length_range]; lia
  · rw [rangeV_length]; lia
  · have e1 : ((many : Int) - 1) * (size : Int) = (((many - 1) * size : Nat) : Int) := by rw [Int.natCast_mul, Int.natCast_sub hm]; rfl
    have hn : Fn C 2 (.fn (C.ad 4)) [.ints ((dg (2 ^ w) x).drop (((many : Int) - 1) * (size : Int)).toNat)] (N w (x / (2 ^ w) ^ ((many - 1) * size))) := by
      rw [e1, Int.toNat_natCast, dg_drop hB, dg_is_pad hB]
      exact fn_normal_pad T hw (dg_len hB _).1 (by have := dg_len_mono hB (Nat.div_le_self x ((2 ^ w) ^ ((many - 1) * size))); lia)
    refine Ex.rete T.ok (by
      walk_at "evs"
      exact Bop.cat (by rw [List.length_map, List.length_range]; exact show many - 1 + 1 ≤ 1000000 by lia)) ?_
    rw [pcs, List.map_append, List.map_map]
    rfl
end
-- F10
section
variable {C : Cx} {n : Nat} {sc : Names} {σ σ' : Sto} {own own' : Option (Str × List Int)}

def mid : Nat := Nat.pow 2 2000
theorem mid_lid : 1000000 * mid ≤ lid := by
  show 1000000 * 2 ^ 2000 ≤ 2 ^ 3000
  rw [show 3000 = 20 + (980 + 2000) by rfl, Nat.pow_add, Nat.pow_add 2 980]
  have : 1 * 2 ^ 2000 ≤ 2 ^ 980 * 2 ^ 2000 := Nat.mul_le_mul_right _ (Nat.pow_pos (by lia))
  rw [Nat.one_mul] at this
  exact Nat.mul_le_mul (by decide) this
theorem mid_pos : 0 < mid := Nat.pow_pos (n := 2000) (show 0 < 2 by lia)
theorem S_nat (w x : Nat) : S w ((x : Nat) : Int) = .tup [.bool false, N w x] := by
  show V.tup [.bool (decide (((x : Nat) : Int) < 0)), N w ((x : Nat) : Int).natAbs] = _
  rw [decide_eq_false (by lia), Int.natAbs_natCast]
theorem fn_s_add' (T : Tx C) {w : Nat} {x y z : Int} (hw : W w) (hx : x.natAbs < lid) (hy : y.natAbs < lid) (h : x + y = z) : Fn C 4 (.fn (C.ad 13)) [S w x, S w y, .int w] (S w z) := h ▸ fn_s_add T hw hx hy
theorem fn_s_sub' (T : Tx C) {w : Nat} {x y z : Int} (hw : W w) (hx : x.natAbs < lid) (hy : y.natAbs < lid) (h : x - y = z) : Fn C 5 (.fn (C.ad 14)) [S w x, S w y, .int w] (S w z) := h ▸ fn_s_sub T hw hx hy
theorem fn_exact' (T : Tx C) {w : Nat} (d : Nat) {x z : Int} (hw : W w) (hx : x.natAbs < lid) (h : x = d * z) (hd : 0 < d) (hd9 : d ≤ 10) : Fn C 3 (.fn (C.ad 20)) [S w x, .int d, .int w] (S w z) := by
  subst h
  exact fn_exact_small T hw hx hd hd9
theorem fn_scaled' (T : Tx C) {w : Nat} (k : Nat) {x z : Int} (hw : W w) (hx : x.natAbs < lid) (hk : k ≤ 1000) (h : x * 2 ^ k = z) : Fn C 3 (.fn (C.ad 19)) [S w x, .int k, .int w] (S w z) := h ▸ fn_scaled T hw hx hk

def eo (ps : List Nat) (p par : Nat) : Nat → Nat
  | 0 => 0
  | i + 1 => eo ps p par i + (if i % 2 = par then ps.getD i 0 * 2 ^ (p * i) else 0)
theorem eo_le {ps : List Nat} {p par m : Nat} (h : ∀ i, ps.getD i 0 ≤ m) (hp : p ≤ 1) : ∀ i, i ≤ 7 → eo ps p par i ≤ i * (64 * m)
  | 0, _ => by simp [eo]
  | i + 1, hi => by
    have := eo_le (par := par) h hp i (by lia)
    have h2 : ps.getD i 0 * 2 ^ (p * i) ≤ m * 64 := Nat.mul_le_mul (h i) (by
      have : 2 ^ (p * i) ≤ 2 ^ 6 := Nat.pow_le_pow_right (by lia) (by
        have := Nat.mul_le_mul_right i hp
        lia)
      simpa using this)
    rw [eo, Nat.add_mul]
    split <;> lia
theorem getD_lt {ps : List Nat} {m : Nat} (hm : 0 < m) (h : ∀ x ∈ ps, x < m) (i : Nat) : ps.getD i 0 < m := by
  rw [List.getD_eq_getElem?_getD]
  cases e : ps[i]? with
  | none => exact hm
  | some x => exact h x (List.mem_of_getElem? e)
theorem Nmap_get {w : Nat} {ps : List Nat} {i : Nat} {d : V} (h : (ps.map (N w))[i]? = some d) : i < ps.length ∧ d = N w (ps.getD i 0) := by
  rw [List.getElem?_map, Option.map_eq_some_iff] at h
  obtain ⟨j, hj, rfl⟩ := h
  refine ⟨?_, by rw [List.getD_eq_getElem?_getD, hj]; rfl⟩
  rcases Nat.lt_or_ge i ps.length with q | q
  · exact q
  · rw [List.getElem?_eq_none q] at hj; cases hj
theorem ForR.eachN {w : Nat} {x : Str} {body : List Stmt} {ns : List Nat} {m : Nat} (τ : Nat → Sto) (ow : Nat → Option (Str × List Int)) (hx : ∀ i, Storable sc (ow i) x)
    (h : ∀ i, i < m → ∃ τ1, Ex C n sc ((x, N w (ns.getD i 0)) :: τ i) (ow i) body (.next τ1 (ow (i + 1))) ∧ Sub (τ (i + 1)) τ1) (hk : ns.length = m) : ForR C n sc x body (ns.map (N w)) (τ 0) (ow 0) (.next (τ m) (ow m)) := by
  subst hk
  have := ForR.inv (C := C) (n := n) (sc := sc) (body := body) (ns.map (N w)) τ ow hx fun i d hd => by
    obtain ⟨hi, rfl⟩ := Nmap_get hd
    exact h i hi
  rwa [List.length_map] at this
theorem ForR2.enumN {w : Nat} {x y : Str} {body : List Stmt} {ns : List Nat} {m : Nat} (τ : Nat → Sto) (ow : Nat → Option (Str × List Int)) (hx : ∀ i, Storable sc (ow i) x) (hy : ∀ i, Storable sc (ow i) y)
    (h : ∀ i, i < m → ∃ τ1, Ex C n sc ((y, N w (ns.getD i 0)) :: (x, .int (i : Int)) :: τ i) (ow i) body (.next τ1 (ow (i + 1))) ∧ Sub (τ (i + 1)) τ1) (hk : ns.length = m) :
    ForR2 C n sc x y body (((List.range (ns.map (N w)).length).map fun i : Nat => V.int i).zip (ns.map (N w))) (τ 0) (ow 0) (.next (τ m) (ow m)) := by
  subst hk
  have := ForR2.inv (C := C) (n := n) (sc := sc) (body := body) (((List.range (ns.map (N w)).length).map fun i : Nat => V.int i).zip (ns.map (N w))) τ ow hx hy fun i d d2 hd => by
    rw [List.getElem?_zip_eq_some] at hd
    obtain ⟨h1, h2⟩ := hd
    obtain ⟨hi, rfl⟩ := Nmap_get h2
    rw [List.getElem?_map, List.getElem?_range (by simpa using hi)] at h1
    cases h1
    exact h i hi
  rwa [show (((List.range (ns.map (N w)).length).map fun i : Nat => V.int i).zip (ns.map (N w))).length = ns.length by simp] at this

set_option maxHeartbeats 1000000 in
theorem fn_both_values (T : Tx C) {w p : Nat} {ps : List Nat} (hw : W w) (hps : ∀ x ∈ ps, x < mid) (hl : ps.length ≤ 7) (hp : p ≤ 1) : Fn C 6 (.fn (C.ad 21)) [.list (ps.map (N w)), .int p, .int w]
    (.tup [S w ((eo ps p 0 ps.length + eo ps p 1 ps.length : Nat) : Int), S w ((eo ps p 0 ps.length : Int) - (eo ps p 1 ps.length : Int))]) := by
  have hm := mid_lid
  have hmp := mid_pos
  have hg := fun i => getD_lt hmp hps i
  have he : ∀ par i, i ≤ 7 → eo ps p par i ≤ i * (64 * mid) := fun par i hi => eo_le (fun i => Nat.le_of_lt (hg i)) hp i hi
  have he2 : ∀ par i, i ≤ 7 → eo ps p par i ≤ 448 * mid := fun par i hi => Nat.le_trans (he par i hi) (by have := Nat.mul_le_mul_right (64 * mid) hi; omega)
  have hn : N w 0 = .list [] := by show V.list ((dg _ 0).map V.int) = _; rw [dg_zero]; rfl
  refine Fn.defK T (ps := [Str.ofString "parts", Str.ofString "power", Str.ofString "w"]) rfl rfl (by kernel_rfl) (by walk_at "bind") rfl (by decide +kernel) ?_
  dsimp only [List.zip, List.zipWith]
  refine Ex.seq (Ex1.post (σ' := [(Str.ofString "even", N w (eo ps p 0 0)), (Str.ofString "odd", N w (eo ps p 1 0)), (Str.ofString "parts", .list (ps.map (N w))), (Str.ofString "power", .int p), (Str.ofString "w", .int w)])
    (Ex1.swap T.ok (xs := [Str.ofString "even", Str.ofString "odd"]) (by walk_at "v") (by walk_at "stos") rfl (hw := by walk_at "swp")) (.cons' rfl hn.symm (.cons' rfl hn.symm (.cons rfl (.cons rfl (.cons rfl .nil)))))) ?_
  refine Ex.seq (Ex1.for2 T.ok (EvIt2.enum T.ok (.bt T rfl (by simp [btab]) bv_enumerate) (by walk_at "ev")) (by rfl) (by rfl) (ForR2.enumN (m := ps.length) (fun i => [(Str.ofString "even", N w (eo ps p 0 i)), (Str.ofString "odd", N w (eo ps p 1 i)), (Str.ofString "parts", .list (ps.map (N w))), (Str.ofString "power", .int p), (Str.ofString "w", .int w)])
    (fun _ => none) (by intro _; walk_at "sto") (by intro _; walk_at "sto") (fun i hi => ?_) rfl)) ?_
  · have e1 : (p : Int) * (i : Int) = ((p * i : Nat) : Int) := by rw [Int.natCast_mul]
    have hpi : p * i ≤ 6 := by have := Nat.mul_le_mul_right i hp; lia
    have hsh := fn_shift_left (x := ps.getD i 0) (k := p * i) T hw (by have := hg i; lia) (by lia)
    rw [← e1] at hsh
    have hpow : 2 ^ (p * i) ≤ 64 := by have := Nat.pow_le_pow_right (n := 2) (by lia) hpi; lia
    have ht : ps.getD i 0 * 2 ^ (p * i) ≤ mid * 64 := Nat.mul_le_mul (Nat.le_of_lt (hg i)) hpow
    by_cases hpar : i % 2 = 0
    · have hadd := fn_add (x := eo ps p 0 i) (y := ps.getD i 0 * 2 ^ (p * i)) T hw (by have := he2 0 i (by lia); lia) (by lia)
      exact ⟨_, Ex.seq (Ex1.assign (by walk_at "v") (by walk_at "sto")) (Ex.seq (Ex1.ifT (by walk_at "t") (by simp; lia) (Ex.seq (Ex1.assign (by walk_at "v") (by walk_at "sto")) Ex.nil)) Ex.nil),
        .cons' rfl (by rw [eo, if_pos hpar]) (.cons' rfl (by rw [eo, if_neg (by lia)]; rfl) (.cons rfl (.cons rfl (.cons rfl .nil))))⟩
    · have hadd := fn_add (x := eo ps p 1 i) (y := ps.getD i 0 * 2 ^ (p * i)) T hw (by have := he2 1 i (by lia); lia) (by lia)
      exact ⟨_, Ex.seq (Ex1.assign (by walk_at "v") (by walk_at "sto")) (Ex.seq (Ex1.ifF (by walk_at "t") (by simp; lia) (Ex.seq (Ex1.assign (by walk_at "v") (by walk_at "sto")) Ex.nil)) Ex.nil),
        .cons' rfl (by rw [eo, if_neg hpar]; rfl) (.cons' rfl (by rw [eo, if_pos (by lia)]) (.cons rfl (.cons rfl (.cons rfl .nil))))⟩
  · have h0 := he2 0 ps.length hl
    have h1 := he2 1 ps.length hl
    generalize eo ps p 0 ps.length = E at *
    generalize eo ps p 1 ps.length = O at *
    have hadd := fn_add (x := E) (y := O) T hw (by lia) (by lia)
    have hsub := fn_s_sub (x := E) (y := O) T hw (by lia) (by lia)
    rw [S_nat, S_nat] at hsub
    exact Ex.rete T.ok (by walk_at "evs") (by rw [S_nat])

def hn2 (l : List Nat) : Nat → Nat
  | 0 => 0
  | i + 1 => hn2 l i * 2 ^ 1 + l.getD i 0
theorem hn2_le {ps : List Nat} {m : Nat} (h : ∀ i, ps.getD i 0 ≤ m) : ∀ i, hn2 ps i ≤ (2 ^ i - 1) * m
  | 0 => by simp [hn2]
  | i + 1 => by
    have := hn2_le h i
    have h2 := h i
    have h3 : (2 ^ (i + 1) - 1) * m = 2 * ((2 ^ i - 1) * m) + m := by
      have : 0 < 2 ^ i := Nat.pow_pos (by lia)
      rw [← Nat.mul_assoc, show 2 ^ (i + 1) - 1 = 2 * (2 ^ i - 1) + 1 by rw [Nat.pow_succ]; lia, Nat.add_mul, Nat.one_mul]
    rw [hn2, h3]
    lia
theorem hn2_le7 {ps : List Nat} {m i : Nat} (h : ∀ i, ps.getD i 0 ≤ m) (hi : i ≤ 7) : hn2 ps i ≤ 127 * m := by
  refine Nat.le_trans (hn2_le h i) (Nat.mul_le_mul_right _ ?_)
  have := Nat.pow_le_pow_right (n := 2) (by lia) hi
  lia
theorem fn_value_at_half (T : Tx C) {w : Nat} {ps : List Nat} (hw : W w) (hps : ∀ x ∈ ps, x < mid) (hl : ps.length ≤ 7) : Fn C 3 (.fn (C.ad 23)) [.list (ps.map (N w)), .int w] (S w (hn2 ps ps.length : Nat)) := by
  have hm := mid_lid
  have hmp := mid_pos
  have hg := fun i => getD_lt hmp hps i
  have he2 : ∀ i, i ≤ 7 → hn2 ps i ≤ 127 * mid := fun i hi => hn2_le7 (fun i => Nat.le_of_lt (hg i)) hi
  have hn : N w 0 = .list [] := by show V.list ((dg _ 0).map V.int) = _; rw [dg_zero]; rfl
  refine Fn.defK T (ps := [Str.ofString "parts", Str.ofString "w"]) rfl rfl (by kernel_rfl) (by walk_at "bind") rfl (by decide +kernel) ?_
  dsimp only [List.zip, List.zipWith]
  refine Ex.seq (Ex1.post (σ' := [(Str.ofString "found", N w (hn2 ps 0)), (Str.ofString "parts", .list (ps.map (N w))), (Str.ofString "w", .int w)])
    (Ex1.assign (by walk_at "v") (by walk_at "sto")) (.cons' rfl hn.symm (.cons rfl (.cons rfl .nil)))) ?_
  refine Ex.seq (Ex1.for_ T.ok (EvIt.list T.ok (by walk_at "ev")) (by rfl) (ForR.eachN (m := ps.length) (fun i => [(Str.ofString "found", N w (hn2 ps i)), (Str.ofString "parts", .list (ps.map (N w))), (Str.ofString "w", .int w)])
    (fun _ => none) (by intro _; walk_at "sto") (fun i hi => ?_) rfl)) ?_
  · have h1 := he2 i (by lia)
    have h2 := hg i
    have hsh := fn_shift_left (x := hn2 ps i) (k := 1) T hw (by lia) (by lia)
    change Fn C 2 _ [_, .int 1, _] _ at hsh
    have hadd := fn_add (x := hn2 ps i * 2 ^ 1) (y := ps.getD i 0) T hw (by lia) (by lia)
    exact ⟨_, Ex.seq (Ex1.assign (by walk_at "v") (by walk_at "sto")) Ex.nil, .cons' rfl (by rw [hn2]) (.cons rfl (.cons rfl .nil))⟩
  · exact Ex.rete T.ok (by walk_at "evs") (by rw [S_nat])
theorem fn_value_at_two (T : Tx C) {w : Nat} {ps : List Nat} (hw : W w) (hps : ∀ x ∈ ps, x < mid) (hl : ps.length ≤ 7) : Fn C 3 (.fn (C.ad 22)) [.list (ps.map (N w)), .int w] (S w (hn2 ps.reverse ps.length : Nat)) := by
  have hm := mid_lid
  have hmp := mid_pos
  have hg := fun i => getD_lt (ps := ps.reverse) hmp (fun x hx => hps x (List.mem_reverse.mp hx)) i
  have he2 : ∀ i, i ≤ 7 → hn2 ps.reverse i ≤ 127 * mid := fun i hi => hn2_le7 (fun i => Nat.le_of_lt (hg i)) hi
  have hn : N w 0 = .list [] := by show V.list ((dg _ 0).map V.int) = _; rw [dg_zero]; rfl
  refine Fn.defK T (ps := [Str.ofString "parts", Str.ofString "w"]) rfl rfl (by kernel_rfl) (by walk_at "bind") rfl (by decide +kernel) ?_
  dsimp only [List.zip, List.zipWith]
  refine Ex.seq (Ex1.post (σ' := [(Str.ofString "found", N w (hn2 ps.reverse 0)), (Str.ofString "parts", .list (ps.map (N w))), (Str.ofString "w", .int w)])
    (Ex1.assign (by walk_at "v") (by walk_at "sto")) (.cons' rfl hn.symm (.cons rfl (.cons rfl .nil)))) ?_
  refine Ex.seq (Ex1.for_ T.ok ((EvIt.rev T.ok (.bt T rfl (by simp [btab]) bv_reversed) (by walk_at "ev")).cast (List.map_reverse (f := N w)).symm) (by rfl) (ForR.eachN (m := ps.length) (fun i => [(Str.ofString "found", N w (hn2 ps.reverse i)), (Str.ofString "parts", .list (ps.map (N w))), (Str.ofString "w", .int w)])
    (fun _ => none) (by intro _; walk_at "sto") (fun i hi => ?_) (by rw [List.length_reverse]))) ?_
  · have h1 := he2 i (by lia)
    have h2 := hg i
    have hsh := fn_shift_left (x := hn2 ps.reverse i) (k := 1) T hw (by lia) (by lia)
    change Fn C 2 _ [_, .int 1, _] _ at hsh
    have hadd := fn_add (x := hn2 ps.reverse i * 2 ^ 1) (y := ps.reverse.getD i 0) T hw (by lia) (by lia)
    exact ⟨_, Ex.seq (Ex1.assign (by walk_at "v") (by walk_at "sto")) Ex.nil, .cons' rfl (by rw [hn2]) (.cons rfl (.cons rfl .nil))⟩
  · exact Ex.rete T.ok (by walk_at "evs") (by rw [S_nat])
theorem fn_halves_of (T : Tx C) {w : Nat} {e o : Int} (hw : W w) (he : e.natAbs < 1000 * mid) (ho : o.natAbs < 1000 * mid) : Fn C 6 (.fn (C.ad 24)) [S w (e + o), S w (e - o), .int w] (.tup [S w e, S w o]) := by
  have hm := mid_lid
  have h1 := fn_s_add' (x := e + o) (y := e - o) (z := 2 * e) T hw (by lia) (by lia) (by lia)
  have h2 := fn_s_sub' (x := e + o) (y := e - o) (z := 2 * o) T hw (by lia) (by lia) (by lia)
  have h3 : Fn C 3 (.fn (C.ad 20)) [S w (2 * e), .int 2, .int w] (S w e) := fn_exact' T 2 hw (by lia) (by lia) (by lia) (by lia)
  have h4 : Fn C 3 (.fn (C.ad 20)) [S w (2 * o), .int 2, .int w] (S w o) := fn_exact' T 2 hw (by lia) (by lia) (by lia) (by lia)
  refine Fn.defK T (ps := [Str.ofString "plus", Str.ofString "minus", Str.ofString "w"]) rfl rfl (by kernel_rfl) (by walk_at "bind") rfl (by decide +kernel) ?_
  dsimp only [List.zip, List.zipWith]
  exact Ex.rete T.ok (by walk_at "evs") rfl
end
-- F11
section
variable {C : Cx} {n : Nat} {sc : Names} {σ σ' : Sto} {own own' : Option (Str × List Int)}

theorem lidOf {x : Int} {a : Nat} (h : x.natAbs ≤ a * mid) (ha : a ≤ 900000) : x.natAbs < lid := by
  have h1 := mid_lid
  have h2 := mid_pos
  have h3 := Nat.mul_le_mul_right mid ha
  lia
theorem lt1000 {x : Int} {a : Nat} (h : x.natAbs ≤ a * mid) (ha : a ≤ 999) : x.natAbs < 1000 * mid := by
  have h2 := mid_pos
  have h3 := Nat.mul_le_mul_right mid ha
  lia
theorem bsub {x y z : Int} {a b c : Nat} (hx : x.natAbs ≤ a * mid) (hy : y.natAbs ≤ b * mid) (h : x - y = z) (hc : a + b = c) : z.natAbs ≤ c * mid := by
  rw [← hc, Nat.add_mul]; lia
theorem bexa {x z : Int} {d a : Nat} (hx : x.natAbs ≤ a * mid) (h : x = (d : Int) * z) (hd : 0 < d) : z.natAbs ≤ a * mid := by
  refine Nat.le_trans ?_ hx
  rw [h, Int.natAbs_mul, Int.natAbs_natCast]
  exact Nat.le_mul_of_pos_left _ hd
theorem bsca {x z : Int} {k a b : Nat} (hx : x.natAbs ≤ a * mid) (h : x * 2 ^ k = z) (hb : a * 2 ^ k = b) : z.natAbs ≤ b * mid := by
  rw [← h, Int.natAbs_mul, Int.natAbs_pow, ← hb, Nat.mul_right_comm]
  exact Nat.mul_le_mul_right _ hx
theorem qe1 (c0 c1 c2 c3 : Int) : (c0 + c2) + (c1 + c3) = c0 + c1 + c2 + c3 := by lia
theorem qe2 (c0 c1 c2 c3 : Int) : (c0 + c2) - (c1 + c3) = c0 - c1 + c2 - c3 := by lia
theorem qe3 (c0 c1 c2 c3 : Int) : (c0 + c2) - (c0) = c2 := by lia
theorem qe4 (c0 c1 c2 c3 : Int) : (c1 + c3) - (c3) = c1 := by lia
theorem qe5 (c0 c1 c2 c3 c4 : Int) : (c0 + 2 * c1 + 4 * c2 + 8 * c3 + 16 * c4) - (c0 - c1 + c2 - c3 + c4) = 3 * c1 + 3 * c2 + 9 * c3 + 15 * c4 := by lia
theorem qe6 (c0 c1 c2 c3 c4 : Int) : 3 * c1 + 3 * c2 + 9 * c3 + 15 * c4 = 3 * (c1 + c2 + 3 * c3 + 5 * c4) := by lia
theorem qe7 (c0 c1 c2 c3 c4 : Int) : (c0 + c1 + c2 + c3 + c4) - (c0 - c1 + c2 - c3 + c4) = 2 * c1 + 2 * c3 := by lia
theorem qe8 (c0 c1 c2 c3 c4 : Int) : 2 * c1 + 2 * c3 = 2 * (c1 + c3) := by lia
theorem qe9 (c0 c1 c2 c3 c4 : Int) : (c0 + c1 + c2 + c3 + c4) - (c0) = c1 + c2 + c3 + c4 := by lia
theorem qe10 (c0 c1 c2 c3 c4 : Int) : (c1 + c2 + 3 * c3 + 5 * c4) - (c1 + c2 + c3 + c4) = 2 * c3 + 4 * c4 := by lia
theorem qe11 (c0 c1 c2 c3 c4 : Int) : 2 * c3 + 4 * c4 = 2 * (c3 + 2 * c4) := by lia
theorem qe12 (c0 c1 c2 c3 c4 : Int) : (c1 + c2 + c3 + c4) - (c1 + c3) = c2 + c4 := by lia
theorem qe13 (c0 c1 c2 c3 c4 : Int) : (c2 + c4) - (c4) = c2 := by lia
theorem qe14 (c0 c1 c2 c3 c4 : Int) : (c4) * 2 ^ 1 = 2 * c4 := by lia
theorem qe15 (c0 c1 c2 c3 c4 : Int) : (c3 + 2 * c4) - (2 * c4) = c3 := by lia
theorem qe16 (c0 c1 c2 c3 c4 : Int) : (c1 + c3) - (c3) = c1 := by lia
theorem qe17 (c0 c2 c4 c6 : Int) : (c0 + c2 + c4 + c6) - (c0) = c2 + c4 + c6 := by lia
theorem qe18 (c0 c2 c4 c6 : Int) : (c2 + c4 + c6) - (c6) = c2 + c4 := by lia
theorem qe19 (c0 c2 c4 c6 : Int) : (c0 + 4 * c2 + 16 * c4 + 64 * c6) - (c0) = 4 * c2 + 16 * c4 + 64 * c6 := by lia
theorem qe20 (c0 c2 c4 c6 : Int) : (c6) * 2 ^ 6 = 64 * c6 := by lia
theorem qe21 (c0 c2 c4 c6 : Int) : (4 * c2 + 16 * c4 + 64 * c6) - (64 * c6) = 4 * c2 + 16 * c4 := by lia
theorem qe22 (c0 c2 c4 c6 : Int) : 4 * c2 + 16 * c4 = 4 * (c2 + 4 * c4) := by lia
theorem qe23 (c0 c2 c4 c6 : Int) : (c2 + 4 * c4) - (c2 + c4) = 3 * c4 := by lia
theorem qe24 (c0 c2 c4 c6 : Int) : 3 * c4 = 3 * (c4) := by lia
theorem qe25 (c0 c2 c4 c6 : Int) : (c2 + c4) - (c4) = c2 := by lia
theorem qe26 (c1 c3 c5 : Int) : (c1 + 4 * c3 + 16 * c5) - (c1 + c3 + c5) = 3 * c3 + 15 * c5 := by lia
theorem qe27 (c1 c3 c5 : Int) : 3 * c3 + 15 * c5 = 3 * (c3 + 5 * c5) := by lia
theorem qe28 (c1 c3 c5 : Int) : (c1 + c3 + c5) * 2 ^ 4 = 16 * c1 + 16 * c3 + 16 * c5 := by lia
theorem qe29 (c1 c3 c5 : Int) : (16 * c1 + 16 * c3 + 16 * c5) - (16 * c1 + 4 * c3 + c5) = 12 * c3 + 15 * c5 := by lia
theorem qe30 (c1 c3 c5 : Int) : 12 * c3 + 15 * c5 = 3 * (4 * c3 + 5 * c5) := by lia
theorem qe31 (c1 c3 c5 : Int) : (4 * c3 + 5 * c5) - (c3 + 5 * c5) = 3 * c3 := by lia
theorem qe32 (c1 c3 c5 : Int) : 3 * c3 = 3 * (c3) := by lia
theorem qe33 (c1 c3 c5 : Int) : (c3 + 5 * c5) - (c3) = 5 * c5 := by lia
theorem qe34 (c1 c3 c5 : Int) : 5 * c5 = 5 * (c5) := by lia
theorem qe35 (c1 c3 c5 : Int) : (c1 + c3 + c5) - (c3) = c1 + c5 := by lia
theorem qe36 (c1 c3 c5 : Int) : (c1 + c5) - (c5) = c1 := by lia
theorem qe37 (c0 c1 c2 c3 c4 c5 c6 : Int) : (c0 + c2 + c4 + c6) + (c1 + c3 + c5) = c0 + c1 + c2 + c3 + c4 + c5 + c6 := by lia
theorem qe38 (c0 c1 c2 c3 c4 c5 c6 : Int) : (c0 + c2 + c4 + c6) - (c1 + c3 + c5) = c0 - c1 + c2 - c3 + c4 - c5 + c6 := by lia
theorem qe39 (c0 c1 c2 c3 c4 c5 c6 : Int) : (c0 + 4 * c2 + 16 * c4 + 64 * c6) + (2 * c1 + 8 * c3 + 32 * c5) = c0 + 2 * c1 + 4 * c2 + 8 * c3 + 16 * c4 + 32 * c5 + 64 * c6 := by lia
theorem qe40 (c0 c1 c2 c3 c4 c5 c6 : Int) : (c0 + 4 * c2 + 16 * c4 + 64 * c6) - (2 * c1 + 8 * c3 + 32 * c5) = c0 - 2 * c1 + 4 * c2 - 8 * c3 + 16 * c4 - 32 * c5 + 64 * c6 := by lia
theorem qe41 (c0 c1 c2 c3 c4 c5 c6 : Int) : (c0) * 2 ^ 6 = 64 * c0 := by lia
theorem qe42 (c0 c1 c2 c3 c4 c5 c6 : Int) : (64 * c0 + 32 * c1 + 16 * c2 + 8 * c3 + 4 * c4 + 2 * c5 + c6) - (64 * c0) = 32 * c1 + 16 * c2 + 8 * c3 + 4 * c4 + 2 * c5 + c6 := by lia
theorem qe43 (c0 c1 c2 c3 c4 c5 c6 : Int) : (c2) * 2 ^ 4 = 16 * c2 := by lia
theorem qe44 (c0 c1 c2 c3 c4 c5 c6 : Int) : (32 * c1 + 16 * c2 + 8 * c3 + 4 * c4 + 2 * c5 + c6) - (16 * c2) = 32 * c1 + 8 * c3 + 4 * c4 + 2 * c5 + c6 := by lia
theorem qe45 (c0 c1 c2 c3 c4 c5 c6 : Int) : (c4) * 2 ^ 2 = 4 * c4 := by lia
theorem qe46 (c0 c1 c2 c3 c4 c5 c6 : Int) : (32 * c1 + 8 * c3 + 4 * c4 + 2 * c5 + c6) - (4 * c4) = 32 * c1 + 8 * c3 + 2 * c5 + c6 := by lia
theorem qe47 (c0 c1 c2 c3 c4 c5 c6 : Int) : (32 * c1 + 8 * c3 + 2 * c5 + c6) - (c6) = 32 * c1 + 8 * c3 + 2 * c5 := by lia
theorem qe48 (c0 c1 c2 c3 c4 c5 c6 : Int) : 2 * c1 + 8 * c3 + 32 * c5 = 2 * (c1 + 4 * c3 + 16 * c5) := by lia
theorem qe49 (c0 c1 c2 c3 c4 c5 c6 : Int) : 32 * c1 + 8 * c3 + 2 * c5 = 2 * (16 * c1 + 4 * c3 + c5) := by lia

theorem fn_from_four (T : Tx C) {w c0 c1 c2 c3 : Nat} {P M : Int} (hw : W w) (h0 : c0 < mid) (h1 : c1 < mid) (h2 : c2 < mid) (h3 : c3 < mid) (hP : P = c0 + c1 + c2 + c3) (hM : M = c0 - c1 + c2 - c3) :
    Fn C 7 (.fn (C.ad 26)) [S w (c0 : Int), S w P, S w M, S w (c3 : Int), .int w] (.list (([c0, c1, c2, c3] : List Nat).map (N w))) := by
  have bcc0 : (c0 : Int).natAbs ≤ 1 * mid := by rw [Int.natAbs_natCast, Nat.one_mul]; exact Nat.le_of_lt h0
  have bcc1 : (c1 : Int).natAbs ≤ 1 * mid := by rw [Int.natAbs_natCast, Nat.one_mul]; exact Nat.le_of_lt h1
  have bcc2 : (c2 : Int).natAbs ≤ 1 * mid := by rw [Int.natAbs_natCast, Nat.one_mul]; exact Nat.le_of_lt h2
  have bcc3 : (c3 : Int).natAbs ≤ 1 * mid := by rw [Int.natAbs_natCast, Nat.one_mul]; exact Nat.le_of_lt h3
  have eP := hP
  have bP : P.natAbs ≤ 4 * mid := by rw [eP]; lia
  have eM := hM
  have bM : M.natAbs ≤ 4 * mid := by rw [eM]; lia
  obtain ⟨e, ee⟩ : ∃ v : Int, v = (c0 : Int) + c2 := ⟨_, rfl⟩
  have be : e.natAbs ≤ 2 * mid := by rw [ee]; lia
  obtain ⟨o, eo⟩ : ∃ v : Int, v = (c1 : Int) + c3 := ⟨_, rfl⟩
  have bo : o.natAbs ≤ 2 * mid := by rw [eo]; lia
  have g1 := fn_halves_of (e := e) (o := o) T hw (lt1000 be (by decide)) (lt1000 bo (by decide))
  rw [show e + o = P by rw [ee, eo, eP]; exact qe1 c0 c1 c2 c3, show e - o = M by rw [ee, eo, eM]; exact qe2 c0 c1 c2 c3] at g1
  have kg2 : e - (c0 : Int) = (c2 : Int) := by rw [ee]; exact qe3 c0 c1 c2 c3
  have g2 := fn_s_sub' (x := e) (y := (c0 : Int)) (z := (c2 : Int)) T hw (lidOf be (by decide)) (lidOf bcc0 (by decide)) kg2
  have kg3 : o - (c3 : Int) = (c1 : Int) := by rw [eo]; exact qe4 c0 c1 c2 c3
  have g3 := fn_s_sub' (x := o) (y := (c3 : Int)) (z := (c1 : Int)) T hw (lidOf bo (by decide)) (lidOf bcc3 (by decide)) kg3
  refine Fn.defK T (ps := [Str.ofString "at_zero", Str.ofString "plus", Str.ofString "minus", Str.ofString "at_far", Str.ofString "w"]) rfl rfl (by kernel_rfl) (by walk_at "bind") rfl (by decide +kernel) ?_
  dsimp only [List.zip, List.zipWith]
  refine Ex.seq (Ex1.unpack2 T.ok (by walk_at "v") (by walk_at "sto") (by walk_at "sto")) (Ex.seq (Ex1.assign (by walk_at "v") (by walk_at "sto")) (Ex.seq (Ex1.assign (by walk_at "v") (by walk_at "sto")) ?_))
  · have hnat : ∀ c : Nat, Fn C 1 (.fn (C.ad 25)) [S w (c : Int)] (N w c) := fun c => fn_natural T
    exact Ex.rete T.ok (Ev.comp (ds := ([c0, c1, c2, c3] : List Nat).map fun c : Nat => S w (c : Int)) (rs := ([c0, c1, c2, c3] : List Nat).map (N w)) (σc := []) T.ok (EvIt.tup T.ok (Ev.cast (by walk_at "ev") (by rfl))) (CompOk.of rfl (by decide +kernel) .nil) rfl (fun i d hd => by
      rw [List.getElem?_map, Option.map_eq_some_iff] at hd
      obtain ⟨c, hc, rfl⟩ := hd
      have := hnat c
      exact ⟨_, by rw [List.getElem?_map, hc]; rfl, by walk_at "evs"⟩) (by simp) (by simp)) rfl

theorem fn_from_five (T : Tx C) {w c0 c1 c2 c3 c4 : Nat} {P M D : Int} (hw : W w) (h0 : c0 < mid) (h1 : c1 < mid) (h2 : c2 < mid) (h3 : c3 < mid) (h4 : c4 < mid) (hP : P = c0 + c1 + c2 + c3 + c4) (hM : M = c0 - c1 + c2 - c3 + c4) (hD : D = c0 + 2 * c1 + 4 * c2 + 8 * c3 + 16 * c4) :
    Fn C 6 (.fn (C.ad 27)) [S w (c0 : Int), S w P, S w M, S w D, S w (c4 : Int), .int w] (.list (([c0, c1, c2, c3, c4] : List Nat).map (N w))) := by
  have bcc0 : (c0 : Int).natAbs ≤ 1 * mid := by rw [Int.natAbs_natCast, Nat.one_mul]; exact Nat.le_of_lt h0
  have bcc1 : (c1 : Int).natAbs ≤ 1 * mid := by rw [Int.natAbs_natCast, Nat.one_mul]; exact Nat.le_of_lt h1
  have bcc2 : (c2 : Int).natAbs ≤ 1 * mid := by rw [Int.natAbs_natCast, Nat.one_mul]; exact Nat.le_of_lt h2
  have bcc3 : (c3 : Int).natAbs ≤ 1 * mid := by rw [Int.natAbs_natCast, Nat.one_mul]; exact Nat.le_of_lt h3
  have bcc4 : (c4 : Int).natAbs ≤ 1 * mid := by rw [Int.natAbs_natCast, Nat.one_mul]; exact Nat.le_of_lt h4
  have eP := hP
  have bP : P.natAbs ≤ 5 * mid := by rw [eP]; lia
  have eM := hM
  have bM : M.natAbs ≤ 5 * mid := by rw [eM]; lia
  have eD := hD
  have bD : D.natAbs ≤ 31 * mid := by rw [eD]; lia
  obtain ⟨t1, et1⟩ : ∃ v : Int, v = 3 * c1 + 3 * c2 + 9 * c3 + 15 * c4 := ⟨_, rfl⟩
  obtain ⟨t2, et2⟩ : ∃ v : Int, v = c1 + c2 + 3 * c3 + 5 * c4 := ⟨_, rfl⟩
  obtain ⟨o2, eo2⟩ : ∃ v : Int, v = 2 * c1 + 2 * c3 := ⟨_, rfl⟩
  obtain ⟨o, eo⟩ : ∃ v : Int, v = c1 + c3 := ⟨_, rfl⟩
  obtain ⟨s1, es1⟩ : ∃ v : Int, v = c1 + c2 + c3 + c4 := ⟨_, rfl⟩
  obtain ⟨t3, et3⟩ : ∃ v : Int, v = 2 * c3 + 4 * c4 := ⟨_, rfl⟩
  obtain ⟨t4, et4⟩ : ∃ v : Int, v = c3 + 2 * c4 := ⟨_, rfl⟩
  obtain ⟨s2, es2⟩ : ∃ v : Int, v = c2 + c4 := ⟨_, rfl⟩
  obtain ⟨f2, ef2⟩ : ∃ v : Int, v = 2 * c4 := ⟨_, rfl⟩
  have kg1 : D - M = t1 := by rw [eD, eM, et1]; exact qe5 c0 c1 c2 c3 c4
  have g1 := fn_s_sub' (x := D) (y := M) (z := t1) T hw (lidOf bD (by decide)) (lidOf bM (by decide)) kg1
  have bt1 : t1.natAbs ≤ 36 * mid := bsub bD bM kg1 (by decide)
  have kg2 : t1 = ((3 : Nat) : Int) * t2 := by rw [et1, et2]; exact qe6 c0 c1 c2 c3 c4
  have g2 : Fn C 3 (.fn (C.ad 20)) [S w t1, .int 3, .int w] (S w t2) := fn_exact' T 3 hw (lidOf bt1 (by decide)) kg2 (by decide) (by decide)
  have bt2 : t2.natAbs ≤ 36 * mid := bexa bt1 kg2 (by decide)
  have kg3 : P - M = o2 := by rw [eP, eM, eo2]; exact qe7 c0 c1 c2 c3 c4
  have g3 := fn_s_sub' (x := P) (y := M) (z := o2) T hw (lidOf bP (by decide)) (lidOf bM (by decide)) kg3
  have bo2 : o2.natAbs ≤ 10 * mid := bsub bP bM kg3 (by decide)
  have kg4 : o2 = ((2 : Nat) : Int) * o := by rw [eo2, eo]; exact qe8 c0 c1 c2 c3 c4
  have g4 : Fn C 3 (.fn (C.ad 20)) [S w o2, .int 2, .int w] (S w o) := fn_exact' T 2 hw (lidOf bo2 (by decide)) kg4 (by decide) (by decide)
  have bo : o.natAbs ≤ 10 * mid := bexa bo2 kg4 (by decide)
  have kg5 : P - (c0 : Int) = s1 := by rw [eP, es1]; exact qe9 c0 c1 c2 c3 c4
  have g5 := fn_s_sub' (x := P) (y := (c0 : Int)) (z := s1) T hw (lidOf bP (by decide)) (lidOf bcc0 (by decide)) kg5
  have bs1 : s1.natAbs ≤ 6 * mid := bsub bP bcc0 kg5 (by decide)
  have kg6 : t2 - s1 = t3 := by rw [et2, es1, et3]; exact qe10 c0 c1 c2 c3 c4
  have g6 := fn_s_sub' (x := t2) (y := s1) (z := t3) T hw (lidOf bt2 (by decide)) (lidOf bs1 (by decide)) kg6
  have bt3 : t3.natAbs ≤ 42 * mid := bsub bt2 bs1 kg6 (by decide)
  have kg7 : t3 = ((2 : Nat) : Int) * t4 := by rw [et3, et4]; exact qe11 c0 c1 c2 c3 c4
  have g7 : Fn C 3 (.fn (C.ad 20)) [S w t3, .int 2, .int w] (S w t4) := fn_exact' T 2 hw (lidOf bt3 (by decide)) kg7 (by decide) (by decide)
  have bt4 : t4.natAbs ≤ 42 * mid := bexa bt3 kg7 (by decide)
  have kg8 : s1 - o = s2 := by rw [es1, eo, es2]; exact qe12 c0 c1 c2 c3 c4
  have g8 := fn_s_sub' (x := s1) (y := o) (z := s2) T hw (lidOf bs1 (by decide)) (lidOf bo (by decide)) kg8
  have bs2 : s2.natAbs ≤ 16 * mid := bsub bs1 bo kg8 (by decide)
  have kg9 : s2 - (c4 : Int) = (c2 : Int) := by rw [es2]; exact qe13 c0 c1 c2 c3 c4
  have g9 := fn_s_sub' (x := s2) (y := (c4 : Int)) (z := (c2 : Int)) T hw (lidOf bs2 (by decide)) (lidOf bcc4 (by decide)) kg9
  have kg10 : (c4 : Int) * 2 ^ 1 = f2 := by rw [ef2]; exact qe14 c0 c1 c2 c3 c4
  have g10 : Fn C 3 (.fn (C.ad 19)) [S w (c4 : Int), .int 1, .int w] (S w f2) := fn_scaled' T 1 hw (lidOf bcc4 (by decide)) (by decide) kg10
  have bf2 : f2.natAbs ≤ 2 * mid := bsca bcc4 kg10 (by decide)
  have kg11 : t4 - f2 = (c3 : Int) := by rw [et4, ef2]; exact qe15 c0 c1 c2 c3 c4
  have g11 := fn_s_sub' (x := t4) (y := f2) (z := (c3 : Int)) T hw (lidOf bt4 (by decide)) (lidOf bf2 (by decide)) kg11
  have kg12 : o - (c3 : Int) = (c1 : Int) := by rw [eo]; exact qe16 c0 c1 c2 c3 c4
  have g12 := fn_s_sub' (x := o) (y := (c3 : Int)) (z := (c1 : Int)) T hw (lidOf bo (by decide)) (lidOf bcc3 (by decide)) kg12
  refine Fn.defK T (ps := [Str.ofString "at_zero", Str.ofString "plus", Str.ofString "minus", Str.ofString "at_two", Str.ofString "at_far", Str.ofString "w"]) rfl rfl (by kernel_rfl) (by walk_at "bind") rfl (by decide +kernel) ?_
  dsimp only [List.zip, List.zipWith]
  refine Ex.seq (Ex1.assign (by walk_at "v") (by walk_at "sto")) (Ex.seq (Ex1.assign (by walk_at "v") (by walk_at "sto")) (Ex.seq (Ex1.assign (by walk_at "v") (by walk_at "sto")) (Ex.seq (Ex1.assign (by walk_at "v") (by walk_at "sto")) (Ex.seq (Ex1.assign (by walk_at "v") (by walk_at "sto")) (Ex.seq (Ex1.assign (by walk_at "v") (by walk_at "sto")) (Ex.seq (Ex1.assign (by walk_at "v") (by walk_at "sto")) ?_))))))
  · have hnat : ∀ c : Nat, Fn C 1 (.fn (C.ad 25)) [S w (c : Int)] (N w c) := fun c => fn_natural T
    exact Ex.rete T.ok (Ev.comp (ds := ([c0, c1, c2, c3, c4] : List Nat).map fun c : Nat => S w (c : Int)) (rs := ([c0, c1, c2, c3, c4] : List Nat).map (N w)) (σc := []) T.ok (EvIt.tup T.ok (Ev.cast (by walk_at "ev") (by rfl))) (CompOk.of rfl (by decide +kernel) .nil) rfl (fun i d hd => by
      rw [List.getElem?_map, Option.map_eq_some_iff] at hd
      obtain ⟨c, hc, rfl⟩ := hd
      have := hnat c
      exact ⟨_, by rw [List.getElem?_map, hc]; rfl, by walk_at "evs"⟩) (by simp) (by simp)) rfl

theorem fn_even_coefficients (T : Tx C) {w c0 c2 c4 c6 : Nat} {P D : Int} (hw : W w) (h0 : c0 < mid) (h2 : c2 < mid) (h4 : c4 < mid) (h6 : c6 < mid) (hP : P = c0 + c2 + c4 + c6) (hD : D = c0 + 4 * c2 + 16 * c4 + 64 * c6) :
    Fn C 6 (.fn (C.ad 28)) [S w P, S w D, S w (c0 : Int), S w (c6 : Int), .int w] (.tup [S w (c2 : Int), S w (c4 : Int)]) := by
  have bcc0 : (c0 : Int).natAbs ≤ 1 * mid := by rw [Int.natAbs_natCast, Nat.one_mul]; exact Nat.le_of_lt h0
  have bcc2 : (c2 : Int).natAbs ≤ 1 * mid := by rw [Int.natAbs_natCast, Nat.one_mul]; exact Nat.le_of_lt h2
  have bcc4 : (c4 : Int).natAbs ≤ 1 * mid := by rw [Int.natAbs_natCast, Nat.one_mul]; exact Nat.le_of_lt h4
  have bcc6 : (c6 : Int).natAbs ≤ 1 * mid := by rw [Int.natAbs_natCast, Nat.one_mul]; exact Nat.le_of_lt h6
  have eP := hP
  have bP : P.natAbs ≤ 4 * mid := by rw [eP]; lia
  have eD := hD
  have bD : D.natAbs ≤ 85 * mid := by rw [eD]; lia
  obtain ⟨u1, eu1⟩ : ∃ v : Int, v = c2 + c4 + c6 := ⟨_, rfl⟩
  obtain ⟨u2, eu2⟩ : ∃ v : Int, v = c2 + c4 := ⟨_, rfl⟩
  obtain ⟨v1, ev1⟩ : ∃ v : Int, v = 4 * c2 + 16 * c4 + 64 * c6 := ⟨_, rfl⟩
  obtain ⟨v2, ev2⟩ : ∃ v : Int, v = 64 * c6 := ⟨_, rfl⟩
  obtain ⟨v3, ev3⟩ : ∃ v : Int, v = 4 * c2 + 16 * c4 := ⟨_, rfl⟩
  obtain ⟨v4, ev4⟩ : ∃ v : Int, v = c2 + 4 * c4 := ⟨_, rfl⟩
  obtain ⟨v5, ev5⟩ : ∃ v : Int, v = 3 * c4 := ⟨_, rfl⟩
  have kg1 : P - (c0 : Int) = u1 := by rw [eP, eu1]; exact qe17 c0 c2 c4 c6
  have g1 := fn_s_sub' (x := P) (y := (c0 : Int)) (z := u1) T hw (lidOf bP (by decide)) (lidOf bcc0 (by decide)) kg1
  have bu1 : u1.natAbs ≤ 5 * mid := bsub bP bcc0 kg1 (by decide)
  have kg2 : u1 - (c6 : Int) = u2 := by rw [eu1, eu2]; exact qe18 c0 c2 c4 c6
  have g2 := fn_s_sub' (x := u1) (y := (c6 : Int)) (z := u2) T hw (lidOf bu1 (by decide)) (lidOf bcc6 (by decide)) kg2
  have bu2 : u2.natAbs ≤ 6 * mid := bsub bu1 bcc6 kg2 (by decide)
  have kg3 : D - (c0 : Int) = v1 := by rw [eD, ev1]; exact qe19 c0 c2 c4 c6
  have g3 := fn_s_sub' (x := D) (y := (c0 : Int)) (z := v1) T hw (lidOf bD (by decide)) (lidOf bcc0 (by decide)) kg3
  have bv1 : v1.natAbs ≤ 86 * mid := bsub bD bcc0 kg3 (by decide)
  have kg4 : (c6 : Int) * 2 ^ 6 = v2 := by rw [ev2]; exact qe20 c0 c2 c4 c6
  have g4 : Fn C 3 (.fn (C.ad 19)) [S w (c6 : Int), .int 6, .int w] (S w v2) := fn_scaled' T 6 hw (lidOf bcc6 (by decide)) (by decide) kg4
  have bv2 : v2.natAbs ≤ 64 * mid := bsca bcc6 kg4 (by decide)
  have kg5 : v1 - v2 = v3 := by rw [ev1, ev2, ev3]; exact qe21 c0 c2 c4 c6
  have g5 := fn_s_sub' (x := v1) (y := v2) (z := v3) T hw (lidOf bv1 (by decide)) (lidOf bv2 (by decide)) kg5
  have bv3 : v3.natAbs ≤ 150 * mid := bsub bv1 bv2 kg5 (by decide)
  have kg6 : v3 = ((4 : Nat) : Int) * v4 := by rw [ev3, ev4]; exact qe22 c0 c2 c4 c6
  have g6 : Fn C 3 (.fn (C.ad 20)) [S w v3, .int 4, .int w] (S w v4) := fn_exact' T 4 hw (lidOf bv3 (by decide)) kg6 (by decide) (by decide)
  have bv4 : v4.natAbs ≤ 150 * mid := bexa bv3 kg6 (by decide)
  have kg7 : v4 - u2 = v5 := by rw [ev4, eu2, ev5]; exact qe23 c0 c2 c4 c6
  have g7 := fn_s_sub' (x := v4) (y := u2) (z := v5) T hw (lidOf bv4 (by decide)) (lidOf bu2 (by decide)) kg7
  have bv5 : v5.natAbs ≤ 156 * mid := bsub bv4 bu2 kg7 (by decide)
  have kg8 : v5 = ((3 : Nat) : Int) * (c4 : Int) := by rw [ev5]; exact qe24 c0 c2 c4 c6
  have g8 : Fn C 3 (.fn (C.ad 20)) [S w v5, .int 3, .int w] (S w (c4 : Int)) := fn_exact' T 3 hw (lidOf bv5 (by decide)) kg8 (by decide) (by decide)
  have kg9 : u2 - (c4 : Int) = (c2 : Int) := by rw [eu2]; exact qe25 c0 c2 c4 c6
  have g9 := fn_s_sub' (x := u2) (y := (c4 : Int)) (z := (c2 : Int)) T hw (lidOf bu2 (by decide)) (lidOf bcc4 (by decide)) kg9
  refine Fn.defK T (ps := [Str.ofString "even_one", Str.ofString "even_two", Str.ofString "at_zero", Str.ofString "at_far", Str.ofString "w"]) rfl rfl (by kernel_rfl) (by walk_at "bind") rfl (by decide +kernel) ?_
  dsimp only [List.zip, List.zipWith]
  exact Ex.seq (Ex1.assign (by walk_at "v") (by walk_at "sto")) (Ex.seq (Ex1.assign (by walk_at "v") (by walk_at "sto")) (Ex.seq (Ex1.assign (by walk_at "v") (by walk_at "sto")) (Ex.rete T.ok (by walk_at "evs") rfl)))

theorem fn_odd_coefficients (T : Tx C) {w c1 c3 c5 : Nat} {P D H : Int} (hw : W w) (h1 : c1 < mid) (h3 : c3 < mid) (h5 : c5 < mid) (hP : P = c1 + c3 + c5) (hD : D = c1 + 4 * c3 + 16 * c5) (hH : H = 16 * c1 + 4 * c3 + c5) :
    Fn C 6 (.fn (C.ad 29)) [S w P, S w D, S w H, .int w] (.tup [S w (c1 : Int), S w (c3 : Int), S w (c5 : Int)]) := by
  have bcc1 : (c1 : Int).natAbs ≤ 1 * mid := by rw [Int.natAbs_natCast, Nat.one_mul]; exact Nat.le_of_lt h1
  have bcc3 : (c3 : Int).natAbs ≤ 1 * mid := by rw [Int.natAbs_natCast, Nat.one_mul]; exact Nat.le_of_lt h3
  have bcc5 : (c5 : Int).natAbs ≤ 1 * mid := by rw [Int.natAbs_natCast, Nat.one_mul]; exact Nat.le_of_lt h5
  have eP := hP
  have bP : P.natAbs ≤ 3 * mid := by rw [eP]; lia
  have eD := hD
  have bD : D.natAbs ≤ 21 * mid := by rw [eD]; lia
  have eH := hH
  have bH : H.natAbs ≤ 21 * mid := by rw [eH]; lia
  obtain ⟨l1, el1⟩ : ∃ v : Int, v = 3 * c3 + 15 * c5 := ⟨_, rfl⟩
  obtain ⟨l2, el2⟩ : ∃ v : Int, v = c3 + 5 * c5 := ⟨_, rfl⟩
  obtain ⟨p4, ep4⟩ : ∃ v : Int, v = 16 * c1 + 16 * c3 + 16 * c5 := ⟨_, rfl⟩
  obtain ⟨k1, ek1⟩ : ∃ v : Int, v = 12 * c3 + 15 * c5 := ⟨_, rfl⟩
  obtain ⟨k2, ek2⟩ : ∃ v : Int, v = 4 * c3 + 5 * c5 := ⟨_, rfl⟩
  obtain ⟨t1, et1⟩ : ∃ v : Int, v = 3 * c3 := ⟨_, rfl⟩
  obtain ⟨f1, ef1⟩ : ∃ v : Int, v = 5 * c5 := ⟨_, rfl⟩
  obtain ⟨a1, ea1⟩ : ∃ v : Int, v = c1 + c5 := ⟨_, rfl⟩
  have kg1 : D - P = l1 := by rw [eD, eP, el1]; exact qe26 c1 c3 c5
  have g1 := fn_s_sub' (x := D) (y := P) (z := l1) T hw (lidOf bD (by decide)) (lidOf bP (by decide)) kg1
  have bl1 : l1.natAbs ≤ 24 * mid := bsub bD bP kg1 (by decide)
  have kg2 : l1 = ((3 : Nat) : Int) * l2 := by rw [el1, el2]; exact qe27 c1 c3 c5
  have g2 : Fn C 3 (.fn (C.ad 20)) [S w l1, .int 3, .int w] (S w l2) := fn_exact' T 3 hw (lidOf bl1 (by decide)) kg2 (by decide) (by decide)
  have bl2 : l2.natAbs ≤ 24 * mid := bexa bl1 kg2 (by decide)
  have kg3 : P * 2 ^ 4 = p4 := by rw [eP, ep4]; exact qe28 c1 c3 c5
  have g3 : Fn C 3 (.fn (C.ad 19)) [S w P, .int 4, .int w] (S w p4) := fn_scaled' T 4 hw (lidOf bP (by decide)) (by decide) kg3
  have bp4 : p4.natAbs ≤ 48 * mid := bsca bP kg3 (by decide)
  have kg4 : p4 - H = k1 := by rw [ep4, eH, ek1]; exact qe29 c1 c3 c5
  have g4 := fn_s_sub' (x := p4) (y := H) (z := k1) T hw (lidOf bp4 (by decide)) (lidOf bH (by decide)) kg4
  have bk1 : k1.natAbs ≤ 69 * mid := bsub bp4 bH kg4 (by decide)
  have kg5 : k1 = ((3 : Nat) : Int) * k2 := by rw [ek1, ek2]; exact qe30 c1 c3 c5
  have g5 : Fn C 3 (.fn (C.ad 20)) [S w k1, .int 3, .int w] (S w k2) := fn_exact' T 3 hw (lidOf bk1 (by decide)) kg5 (by decide) (by decide)
  have bk2 : k2.natAbs ≤ 69 * mid := bexa bk1 kg5 (by decide)
  have kg6 : k2 - l2 = t1 := by rw [ek2, el2, et1]; exact qe31 c1 c3 c5
  have g6 := fn_s_sub' (x := k2) (y := l2) (z := t1) T hw (lidOf bk2 (by decide)) (lidOf bl2 (by decide)) kg6
  have bt1 : t1.natAbs ≤ 93 * mid := bsub bk2 bl2 kg6 (by decide)
  have kg7 : t1 = ((3 : Nat) : Int) * (c3 : Int) := by rw [et1]; exact qe32 c1 c3 c5
  have g7 : Fn C 3 (.fn (C.ad 20)) [S w t1, .int 3, .int w] (S w (c3 : Int)) := fn_exact' T 3 hw (lidOf bt1 (by decide)) kg7 (by decide) (by decide)
  have kg8 : l2 - (c3 : Int) = f1 := by rw [el2, ef1]; exact qe33 c1 c3 c5
  have g8 := fn_s_sub' (x := l2) (y := (c3 : Int)) (z := f1) T hw (lidOf bl2 (by decide)) (lidOf bcc3 (by decide)) kg8
  have bf1 : f1.natAbs ≤ 25 * mid := bsub bl2 bcc3 kg8 (by decide)
  have kg9 : f1 = ((5 : Nat) : Int) * (c5 : Int) := by rw [ef1]; exact qe34 c1 c3 c5
  have g9 : Fn C 3 (.fn (C.ad 20)) [S w f1, .int 5, .int w] (S w (c5 : Int)) := fn_exact' T 5 hw (lidOf bf1 (by decide)) kg9 (by decide) (by decide)
  have kg10 : P - (c3 : Int) = a1 := by rw [eP, ea1]; exact qe35 c1 c3 c5
  have g10 := fn_s_sub' (x := P) (y := (c3 : Int)) (z := a1) T hw (lidOf bP (by decide)) (lidOf bcc3 (by decide)) kg10
  have ba1 : a1.natAbs ≤ 4 * mid := bsub bP bcc3 kg10 (by decide)
  have kg11 : a1 - (c5 : Int) = (c1 : Int) := by rw [ea1]; exact qe36 c1 c3 c5
  have g11 := fn_s_sub' (x := a1) (y := (c5 : Int)) (z := (c1 : Int)) T hw (lidOf ba1 (by decide)) (lidOf bcc5 (by decide)) kg11
  refine Fn.defK T (ps := [Str.ofString "odd_one", Str.ofString "odd_two", Str.ofString "odd_half", Str.ofString "w"]) rfl rfl (by kernel_rfl) (by walk_at "bind") rfl (by decide +kernel) ?_
  dsimp only [List.zip, List.zipWith]
  exact Ex.seq (Ex1.assign (by walk_at "v") (by walk_at "sto")) (Ex.seq (Ex1.assign (by walk_at "v") (by walk_at "sto")) (Ex.seq (Ex1.assign (by walk_at "v") (by walk_at "sto")) (Ex.seq (Ex1.assign (by walk_at "v") (by walk_at "sto")) (Ex.rete T.ok (by walk_at "evs") rfl))))

theorem fn_from_seven (T : Tx C) {w c0 c1 c2 c3 c4 c5 c6 : Nat} {P M P2 M2 H : Int} (hw : W w) (h0 : c0 < mid) (h1 : c1 < mid) (h2 : c2 < mid) (h3 : c3 < mid) (h4 : c4 < mid) (h5 : c5 < mid) (h6 : c6 < mid)
    (hP : P = c0 + c1 + c2 + c3 + c4 + c5 + c6) (hM : M = c0 - c1 + c2 - c3 + c4 - c5 + c6) (hP2 : P2 = c0 + 2 * c1 + 4 * c2 + 8 * c3 + 16 * c4 + 32 * c5 + 64 * c6) (hM2 : M2 = c0 - 2 * c1 + 4 * c2 - 8 * c3 + 16 * c4 - 32 * c5 + 64 * c6)
    (hH : H = 64 * c0 + 32 * c1 + 16 * c2 + 8 * c3 + 4 * c4 + 2 * c5 + c6) :
    Fn C 7 (.fn (C.ad 30)) [S w (c0 : Int), .tup [S w P, S w M], .tup [S w P2, S w M2], S w H, S w (c6 : Int), .int w] (.list (([c0, c1, c2, c3, c4, c5, c6] : List Nat).map (N w))) := by
  have bcc0 : (c0 : Int).natAbs ≤ 1 * mid := by rw [Int.natAbs_natCast, Nat.one_mul]; exact Nat.le_of_lt h0
  have bcc1 : (c1 : Int).natAbs ≤ 1 * mid := by rw [Int.natAbs_natCast, Nat.one_mul]; exact Nat.le_of_lt h1
  have bcc2 : (c2 : Int).natAbs ≤ 1 * mid := by rw [Int.natAbs_natCast, Nat.one_mul]; exact Nat.le_of_lt h2
  have bcc3 : (c3 : Int).natAbs ≤ 1 * mid := by rw [Int.natAbs_natCast, Nat.one_mul]; exact Nat.le_of_lt h3
  have bcc4 : (c4 : Int).natAbs ≤ 1 * mid := by rw [Int.natAbs_natCast, Nat.one_mul]; exact Nat.le_of_lt h4
  have bcc5 : (c5 : Int).natAbs ≤ 1 * mid := by rw [Int.natAbs_natCast, Nat.one_mul]; exact Nat.le_of_lt h5
  have bcc6 : (c6 : Int).natAbs ≤ 1 * mid := by rw [Int.natAbs_natCast, Nat.one_mul]; exact Nat.le_of_lt h6
  have eP := hP
  have bP : P.natAbs ≤ 7 * mid := by rw [eP]; lia
  have eM := hM
  have bM : M.natAbs ≤ 7 * mid := by rw [eM]; lia
  have eP2 := hP2
  have bP2 : P2.natAbs ≤ 127 * mid := by rw [eP2]; lia
  have eM2 := hM2
  have bM2 : M2.natAbs ≤ 127 * mid := by rw [eM2]; lia
  have eH := hH
  have bH : H.natAbs ≤ 127 * mid := by rw [eH]; lia
  obtain ⟨ea, eea⟩ : ∃ v : Int, v = (c0 : Int) + c2 + c4 + c6 := ⟨_, rfl⟩
  have bea : ea.natAbs ≤ 4 * mid := by rw [eea]; lia
  obtain ⟨oa, eoa⟩ : ∃ v : Int, v = (c1 : Int) + c3 + c5 := ⟨_, rfl⟩
  have boa : oa.natAbs ≤ 3 * mid := by rw [eoa]; lia
  obtain ⟨eb, eeb⟩ : ∃ v : Int, v = (c0 : Int) + 4 * c2 + 16 * c4 + 64 * c6 := ⟨_, rfl⟩
  have beb : eb.natAbs ≤ 85 * mid := by rw [eeb]; lia
  obtain ⟨ob, eob⟩ : ∃ v : Int, v = 2 * (c1 : Int) + 8 * c3 + 32 * c5 := ⟨_, rfl⟩
  have bob : ob.natAbs ≤ 42 * mid := by rw [eob]; lia
  obtain ⟨z6, ez6⟩ : ∃ v : Int, v = 64 * c0 := ⟨_, rfl⟩
  obtain ⟨l1, el1⟩ : ∃ v : Int, v = 32 * c1 + 16 * c2 + 8 * c3 + 4 * c4 + 2 * c5 + c6 := ⟨_, rfl⟩
  obtain ⟨b4, eb4⟩ : ∃ v : Int, v = 16 * c2 := ⟨_, rfl⟩
  obtain ⟨l2, el2⟩ : ∃ v : Int, v = 32 * c1 + 8 * c3 + 4 * c4 + 2 * c5 + c6 := ⟨_, rfl⟩
  obtain ⟨d2, ed2⟩ : ∃ v : Int, v = 4 * c4 := ⟨_, rfl⟩
  obtain ⟨l3, el3⟩ : ∃ v : Int, v = 32 * c1 + 8 * c3 + 2 * c5 + c6 := ⟨_, rfl⟩
  obtain ⟨l4, el4⟩ : ∃ v : Int, v = 32 * c1 + 8 * c3 + 2 * c5 := ⟨_, rfl⟩
  obtain ⟨oc, eoc⟩ : ∃ v : Int, v = c1 + 4 * c3 + 16 * c5 := ⟨_, rfl⟩
  obtain ⟨od, eod⟩ : ∃ v : Int, v = 16 * c1 + 4 * c3 + c5 := ⟨_, rfl⟩
  have g1 := fn_halves_of (e := ea) (o := oa) T hw (lt1000 bea (by decide)) (lt1000 boa (by decide))
  rw [show ea + oa = P by rw [eea, eoa, eP]; exact qe37 c0 c1 c2 c3 c4 c5 c6, show ea - oa = M by rw [eea, eoa, eM]; exact qe38 c0 c1 c2 c3 c4 c5 c6] at g1
  have g2 := fn_halves_of (e := eb) (o := ob) T hw (lt1000 beb (by decide)) (lt1000 bob (by decide))
  rw [show eb + ob = P2 by rw [eeb, eob, eP2]; exact qe39 c0 c1 c2 c3 c4 c5 c6, show eb - ob = M2 by rw [eeb, eob, eM2]; exact qe40 c0 c1 c2 c3 c4 c5 c6] at g2
  have g3 := fn_even_coefficients (P := ea) (D := eb) T hw h0 h2 h4 h6 eea eeb
  have kg4 : (c0 : Int) * 2 ^ 6 = z6 := by rw [ez6]; exact qe41 c0 c1 c2 c3 c4 c5 c6
  have g4 : Fn C 3 (.fn (C.ad 19)) [S w (c0 : Int), .int 6, .int w] (S w z6) := fn_scaled' T 6 hw (lidOf bcc0 (by decide)) (by decide) kg4
  have bz6 : z6.natAbs ≤ 64 * mid := bsca bcc0 kg4 (by decide)
  have kg5 : H - z6 = l1 := by rw [eH, ez6, el1]; exact qe42 c0 c1 c2 c3 c4 c5 c6
  have g5 := fn_s_sub' (x := H) (y := z6) (z := l1) T hw (lidOf bH (by decide)) (lidOf bz6 (by decide)) kg5
  have bl1 : l1.natAbs ≤ 191 * mid := bsub bH bz6 kg5 (by decide)
  have kg6 : (c2 : Int) * 2 ^ 4 = b4 := by rw [eb4]; exact qe43 c0 c1 c2 c3 c4 c5 c6
  have g6 : Fn C 3 (.fn (C.ad 19)) [S w (c2 : Int), .int 4, .int w] (S w b4) := fn_scaled' T 4 hw (lidOf bcc2 (by decide)) (by decide) kg6
  have bb4 : b4.natAbs ≤ 16 * mid := bsca bcc2 kg6 (by decide)
  have kg7 : l1 - b4 = l2 := by rw [el1, eb4, el2]; exact qe44 c0 c1 c2 c3 c4 c5 c6
  have g7 := fn_s_sub' (x := l1) (y := b4) (z := l2) T hw (lidOf bl1 (by decide)) (lidOf bb4 (by decide)) kg7
  have bl2 : l2.natAbs ≤ 207 * mid := bsub bl1 bb4 kg7 (by decide)
  have kg8 : (c4 : Int) * 2 ^ 2 = d2 := by rw [ed2]; exact qe45 c0 c1 c2 c3 c4 c5 c6
  have g8 : Fn C 3 (.fn (C.ad 19)) [S w (c4 : Int), .int 2, .int w] (S w d2) := fn_scaled' T 2 hw (lidOf bcc4 (by decide)) (by decide) kg8
  have bd2 : d2.natAbs ≤ 4 * mid := bsca bcc4 kg8 (by decide)
  have kg9 : l2 - d2 = l3 := by rw [el2, ed2, el3]; exact qe46 c0 c1 c2 c3 c4 c5 c6
  have g9 := fn_s_sub' (x := l2) (y := d2) (z := l3) T hw (lidOf bl2 (by decide)) (lidOf bd2 (by decide)) kg9
  have bl3 : l3.natAbs ≤ 211 * mid := bsub bl2 bd2 kg9 (by decide)
  have kg10 : l3 - (c6 : Int) = l4 := by rw [el3, el4]; exact qe47 c0 c1 c2 c3 c4 c5 c6
  have g10 := fn_s_sub' (x := l3) (y := (c6 : Int)) (z := l4) T hw (lidOf bl3 (by decide)) (lidOf bcc6 (by decide)) kg10
  have bl4 : l4.natAbs ≤ 212 * mid := bsub bl3 bcc6 kg10 (by decide)
  have kg11 : ob = ((2 : Nat) : Int) * oc := by rw [eob, eoc]; exact qe48 c0 c1 c2 c3 c4 c5 c6
  have g11 : Fn C 3 (.fn (C.ad 20)) [S w ob, .int 2, .int w] (S w oc) := fn_exact' T 2 hw (lidOf bob (by decide)) kg11 (by decide) (by decide)
  have boc : oc.natAbs ≤ 42 * mid := bexa bob kg11 (by decide)
  have kg12 : l4 = ((2 : Nat) : Int) * od := by rw [el4, eod]; exact qe49 c0 c1 c2 c3 c4 c5 c6
  have g12 : Fn C 3 (.fn (C.ad 20)) [S w l4, .int 2, .int w] (S w od) := fn_exact' T 2 hw (lidOf bl4 (by decide)) kg12 (by decide) (by decide)
  have bod : od.natAbs ≤ 212 * mid := bexa bl4 kg12 (by decide)
  have g13 := fn_odd_coefficients (P := oa) (D := oc) (H := od) T hw h1 h3 h5 eoa eoc eod
  refine Fn.defK T (ps := [Str.ofString "at_zero", Str.ofString "ones", Str.ofString "twos", Str.ofString "at_half", Str.ofString "at_far", Str.ofString "w"]) rfl rfl (by kernel_rfl) (by walk_at "bind") rfl (by decide +kernel) ?_
  dsimp only [List.zip, List.zipWith]
  refine Ex.seq (Ex1.unpack2 T.ok (by walk_at "v") (by walk_at "sto") (by walk_at "sto")) (Ex.seq (Ex1.unpack2 T.ok (by walk_at "v") (by walk_at "sto") (by walk_at "sto")) (Ex.seq (Ex1.unpack2 T.ok (by walk_at "v") (by walk_at "sto") (by walk_at "sto")) (Ex.seq (Ex1.assign (by walk_at "v") (by walk_at "sto")) (Ex.seq (Ex1.assign (by walk_at "v") (by walk_at "sto")) (Ex.seq (Ex1.unpack3 T.ok (by walk_at "v") (by walk_at "sto") (by walk_at "sto") (by walk_at "sto")) ?_)))))
  · have hnat : ∀ c : Nat, Fn C 1 (.fn (C.ad 25)) [S w (c : Int)] (N w c) := fun c => fn_natural T
    exact Ex.rete T.ok (Ev.comp (ds := ([c0, c1, c2, c3, c4, c5, c6] : List Nat).map fun c : Nat => S w (c : Int)) (rs := ([c0, c1, c2, c3, c4, c5, c6] : List Nat).map (N w)) (σc := []) T.ok (EvIt.tup T.ok (Ev.cast (by walk_at "ev") (by rfl))) (CompOk.of rfl (by decide +kernel) .nil) rfl (fun i d hd => by
      rw [List.getElem?_map, Option.map_eq_some_iff] at hd
      obtain ⟨c, hc, rfl⟩ := hd
      have := hnat c
      exact ⟨_, by rw [List.getElem?_map, hc]; rfl, by walk_at "evs"⟩) (by simp) (by simp)) rfl
end
-- F12
section
variable {C : Cx} {n : Nat} {sc : Names} {σ σ' : Sto} {own own' : Option (Str × List Int)}

def rc (B s : Nat) (cs : List Nat) : Nat → Nat
  | 0 => 0
  | i + 1 => rc B s cs i + B ^ (i * s) * cs.getD i 0
theorem rc_mono {B s : Nat} {cs : List Nat} (i : Nat) : ∀ j, rc B s cs i ≤ rc B s cs (i + j)
  | 0 => Nat.le_refl _
  | j + 1 => Nat.le_trans (rc_mono i j) (by rw [← Nat.add_assoc, rc]; omega)
theorem fn_recomposed (T : Tx C) {w s : Nat} {cs : List Nat} (hw : W w) (hcs : ∀ x ∈ cs, x < mid) (hl : cs.length ≤ 7) (hs : s ≤ 400) (hb : rc (2 ^ w) s cs cs.length < lid) : Fn C 4 (.fn (C.ad 31)) [.list (cs.map (N w)), .int s, .int w] (N w (rc (2 ^ w) s cs cs.length)) := by
  have hm := mid_lid
  have hmp := mid_pos
  have hg := fun i => getD_lt hmp hcs i
  have hn : N w 0 = .list [] := by show V.list ((dg _ 0).map V.int) = _; rw [dg_zero]; rfl
  refine Fn.defK T (ps := [Str.ofString "coefficients", Str.ofString "size", Str.ofString "w"]) rfl rfl (by kernel_rfl) (by walk_at "bind") rfl (by decide +kernel) ?_
  dsimp only [List.zip, List.zipWith]
  refine Ex.seq (Ex1.post (σ' := [(Str.ofString "found", N w (rc (2 ^ w) s cs 0)), (Str.ofString "coefficients", .list (cs.map (N w))), (Str.ofString "size", .int s), (Str.ofString "w", .int w)])
    (Ex1.assign (by walk_at "v") (by walk_at "sto")) (.cons' rfl hn.symm (.cons rfl (.cons rfl (.cons rfl .nil))))) ?_
  refine Ex.seq (Ex1.for2 T.ok (EvIt2.enum T.ok (.bt T rfl (by simp [btab]) bv_enumerate) (by walk_at "ev")) (by rfl) (by rfl) (ForR2.enumN (m := cs.length) (fun i => [(Str.ofString "found", N w (rc (2 ^ w) s cs i)), (Str.ofString "coefficients", .list (cs.map (N w))), (Str.ofString "size", .int s), (Str.ofString "w", .int w)])
    (fun _ => none) (by intro _; walk_at "sto") (by intro _; walk_at "sto") (fun i hi => ?_) rfl)) ?_
  · have e1 : (i : Int) * (s : Int) = ((i * s : Nat) : Int) := by rw [Int.natCast_mul]
    have his : i * s ≤ 2800 := Nat.le_trans (Nat.mul_le_mul (show i ≤ 7 by omega) hs) (by omega)
    have h1 := rc_mono (B := 2 ^ w) (s := s) (cs := cs) i (cs.length - i)
    rw [show i + (cs.length - i) = cs.length by omega] at h1
    have h2 := hg i
    have hadd := fn_add_at (x := rc (2 ^ w) s cs i) (y := cs.getD i 0) (s := i * s) T hw (by omega) (by omega) (by omega)
    rw [← e1] at hadd
    exact ⟨_, Ex.seq (Ex1.assign (by walk_at "v") (by walk_at "sto")) Ex.nil, .cons' rfl (by rw [rc]) (.cons rfl (.cons rfl (.cons rfl .nil)))⟩
  · exact Ex.rete T.ok (by walk_at "evs") rfl


theorem fn_products_of (T : Tx C) {w k : Nat} {zs ys : List Int} {m : V} (hw : W w) (hk : 2 ≤ k) (hz : ∀ z ∈ zs, z.natAbs < lid) (hy : ∀ z ∈ ys, z.natAbs < lid) (hl : zs.length ≤ 100) (hl2 : ys.length ≤ 100)
    (hm : ∀ z y, z ∈ zs → y ∈ ys → Fn C k m [N w z.natAbs, N w y.natAbs, .int w] (N w (z.natAbs * y.natAbs))) :
    Fn C (k + 2) (.fn (C.ad 33)) [.list (zs.map (S w)), .list (ys.map (S w)), .int w, m] (.list ((zs.zip ys).map fun p => S w (p.1 * p.2))) := by
  refine Fn.defK (k := k + 1) T (ps := [Str.ofString "some", Str.ofString "others", Str.ofString "w", Str.ofString "mul"]) rfl rfl (by kernel_rfl) (by walk_at "bind") rfl (by decide +kernel) ?_
  dsimp only [List.zip, List.zipWith]
  refine Ex.rete T.ok (Ev.comp2 (ds := (zs.map (S w)).zip (ys.map (S w))) (rs := (zs.zip ys).map fun p => S w (p.1 * p.2)) (σc := [(Str.ofString "w", .int w), (Str.ofString "mul", m)]) T.ok (EvIt2.zip T.ok (.bt T rfl (by simp [btab]) bv_zip) (by walk_at "ev") (by walk_at "ev")) (CompOk.of rfl (by decide +kernel) (.cons rfl rfl (.cons rfl rfl .nil))) rfl rfl (fun i d d2 hd => ?_) ?_ ?_) rfl
  · rw [List.getElem?_zip_eq_some, List.getElem?_map, List.getElem?_map, Option.map_eq_some_iff, Option.map_eq_some_iff] at hd
    obtain ⟨⟨z, hz1, rfl⟩, ⟨y, hy1, rfl⟩⟩ := hd
    have h1 := List.mem_of_getElem? hz1
    have h2 := List.mem_of_getElem? hy1
    have hmul := fn_s_mul (x := z) (y := y) T hw hk (hz z h1) (hy y h2) (hm z y h1 h2)
    refine ⟨S w (z * y), ?_, by walk_at "evs"⟩
    rw [List.getElem?_map, show (zs.zip ys)[i]? = some (z, y) from List.getElem?_zip_eq_some.mpr ⟨hz1, hy1⟩]
    rfl
  · simp
  · simp; omega
theorem fn_squares_of (T : Tx C) {w k : Nat} {zs : List Int} {m : V} (hw : W w) (hl : zs.length ≤ 100) (hm : ∀ z, z ∈ zs → Fn C k m [N w z.natAbs, .int w] (N w (z.natAbs * z.natAbs))) :
    Fn C (k + 1) (.fn (C.ad 43)) [.list (zs.map (S w)), m, .int w] (.list (zs.map fun z => S w (z * z))) := by
  refine Fn.defK (k := k) T (ps := [Str.ofString "values", Str.ofString "sqr", Str.ofString "w"]) rfl rfl (by kernel_rfl) (by walk_at "bind") rfl (by decide +kernel) ?_
  dsimp only [List.zip, List.zipWith]
  refine Ex.rete T.ok (Ev.comp (ds := zs.map (S w)) (rs := zs.map fun z => S w (z * z)) (σc := [(Str.ofString "sqr", m), (Str.ofString "w", .int w)]) T.ok (EvIt.list T.ok (by walk_at "ev")) (CompOk.of rfl (by decide +kernel) (.cons rfl rfl (.cons rfl rfl .nil))) rfl (fun i d hd => ?_) ?_ ?_) rfl
  · rw [List.getElem?_map, Option.map_eq_some_iff] at hd
    obtain ⟨z, hz1, rfl⟩ := hd
    have hmul := hm z (List.mem_of_getElem? hz1)
    refine ⟨.tup [.bool false, N w (z.natAbs * z.natAbs)], ?_, by walk_at "evs"⟩
    rw [List.getElem?_map, hz1, Option.map_some, ← S_nat, show ((z.natAbs * z.natAbs : Nat) : Int) = z * z by rw [Int.natCast_mul, Int.natAbs_mul_self']]
  · simp
  · simp; omega
/-- the values at four points -/
def vals4 (ps : List Nat) : List Int := [ps.getD 0 0, ps.getD (ps.length - 1) 0, (eo ps 0 0 ps.length + eo ps 0 1 ps.length : Nat), (eo ps 0 0 ps.length : Int) - (eo ps 0 1 ps.length : Int)]
def vals2 (ps : List Nat) : List Int := [(eo ps 1 0 ps.length + eo ps 1 1 ps.length : Nat), (eo ps 1 0 ps.length : Int) - (eo ps 1 1 ps.length : Int)]
theorem fn_ends_of (T : Tx C) {w : Nat} {ps : List Nat} (h0 : ps ≠ []) (hl : ps.length ≤ 7) : Fn C 1 (.fn (C.ad 34)) [.list (ps.map (N w))] (.list ([(ps.getD 0 0 : Int), (ps.getD (ps.length - 1) 0 : Int)].map (S w))) := by
  have hp : 0 < ps.length := List.length_pos_iff.mpr h0
  refine Fn.defK T (ps := [Str.ofString "parts"]) rfl rfl (by kernel_rfl) (by walk_at "bind") rfl (by decide +kernel) ?_
  dsimp only [List.zip, List.zipWith]
  have g : ∀ i : Nat, i < ps.length → (ps.map (N w))[i]? = some (N w (ps.getD i 0)) := fun i hi => by
    rw [List.getElem?_map, List.getD_eq_getElem?_getD, List.getElem?_eq_getElem hi]; rfl
  refine Ex.rete T.ok (by
    walk_at "ev"
    · exact Ev.listN (k := 0) T rfl .cint (by decide) (by decide) (g 0 hp)
    · exact Ev.listN (k := ((ps.length - 1 : Nat) : Int)) T rfl (.cast (.bin T.ok (.call T.ok (.len T rfl) (.cons T.ok (.name rfl) .nil) (Fn.len (n := 0) (by simp; omega)) (Nat.zero_le _)) .cint .sub) (congrArg V.int (by rw [List.length_map]; omega))) (by omega) (by omega) (g _ (by omega))
    all_goals exact le_of_ble rfl) ?_
  rw [List.map_cons, List.map_cons, List.map_nil, S_nat, S_nat]
  rfl
theorem fn_values_four (T : Tx C) {w : Nat} {ps : List Nat} (hw : W w) (hps : ∀ x ∈ ps, x < mid) (h0 : ps ≠ []) (hl : ps.length ≤ 7) : Fn C 7 (.fn (C.ad 35)) [.list (ps.map (N w)), .int w] (.list ((vals4 ps).map (S w))) := by
  have h1 := fn_ends_of (w := w) T h0 hl
  have h2 : Fn C 6 (.fn (C.ad 21)) [.list (ps.map (N w)), .int 0, .int w] _ := fn_both_values (p := 0) T hw hps hl (by omega)
  refine Fn.defK T (ps := [Str.ofString "parts", Str.ofString "w"]) rfl rfl (by kernel_rfl) (by walk_at "bind") rfl (by decide +kernel) ?_
  dsimp only [List.zip, List.zipWith]
  refine Ex.rete T.ok (by
    walk_at "evs"
    all_goals exact Bop.cat (le_of_ble rfl)) rfl
theorem fn_values_five (T : Tx C) {w : Nat} {ps : List Nat} (hw : W w) (hps : ∀ x ∈ ps, x < mid) (h0 : ps ≠ []) (hl : ps.length ≤ 7) : Fn C 8 (.fn (C.ad 36)) [.list (ps.map (N w)), .int w] (.list ((vals4 ps ++ [(hn2 ps.reverse ps.length : Int)]).map (S w))) := by
  have h1 := fn_values_four T hw hps h0 hl
  have h2 := fn_value_at_two T hw hps hl
  refine Fn.defK T (ps := [Str.ofString "parts", Str.ofString "w"]) rfl rfl (by kernel_rfl) (by walk_at "bind") rfl (by decide +kernel) ?_
  dsimp only [List.zip, List.zipWith]
  refine Ex.rete T.ok (by
    walk_at "evs"
    all_goals exact Bop.cat (le_of_ble rfl)) rfl
theorem fn_values_seven (T : Tx C) {w : Nat} {ps : List Nat} (hw : W w) (hps : ∀ x ∈ ps, x < mid) (h0 : ps ≠ []) (hl : ps.length ≤ 7) : Fn C 8 (.fn (C.ad 37)) [.list (ps.map (N w)), .int w] (.list ((vals4 ps ++ vals2 ps ++ [(hn2 ps ps.length : Int)]).map (S w))) := by
  have h1 := fn_values_four T hw hps h0 hl
  have h2 := fn_value_at_half T hw hps hl
  have h3 : Fn C 6 (.fn (C.ad 21)) [.list (ps.map (N w)), .int 1, .int w] _ := fn_both_values (p := 1) T hw hps hl (by omega)
  refine Fn.defK T (ps := [Str.ofString "parts", Str.ofString "w"]) rfl rfl (by kernel_rfl) (by walk_at "bind") rfl (by decide +kernel) ?_
  dsimp only [List.zip, List.zipWith]
  refine Ex.rete T.ok (by
    walk_at "evs"
    all_goals exact Bop.cat (le_of_ble rfl)
    all_goals walk_at "evs"
    all_goals exact Bop.cat (le_of_ble rfl)) rfl
theorem fn_common_size (T : Tx C) {w x y k : Nat} (hw : W w) (hx : x < lid) (hy : y < lid) (hk : 0 < k) (hk2 : k ≤ 100) : Fn C 2 (.fn (C.ad 40)) [N w x, N w y, .int k, .int k] (.int ((max (max (((dg (2 ^ w) x).length + k - 1) / k) (((dg (2 ^ w) y).length + k - 1) / k)) 1 : Nat) : Int)) := by
  have lx := len_le hw hx
  have ly := len_le hw hy
  have h1 := fn_piece_size (l := (dg (2 ^ w) x).length) (m := k) T hk hk2
  have h2 := fn_piece_size (l := (dg (2 ^ w) y).length) (m := k) T hk hk2
  refine Fn.defK T (ps := [Str.ofString "a", Str.ofString "b", Str.ofString "first", Str.ofString "second"]) rfl rfl (by kernel_rfl) (by walk_at "bind") rfl (by decide +kernel) ?_
  dsimp only [List.zip, List.zipWith]
  exact Ex.rete T.ok (by walk_at "evs") (congrArg V.int (by omega))
end
-- F13
section
variable {C : Cx} {n : Nat} {sc : Names} {σ σ' : Sto} {own own' : Option (Str × List Int)}

theorem fn_joined_five (T : Tx C) {w s c0 c1 c2 c3 c4 r : Nat} {Z0 Z4 P M D : Int} (hw : W w) (h0 : c0 < mid) (h1 : c1 < mid) (h2 : c2 < mid) (h3 : c3 < mid) (h4 : c4 < mid) (hZ0 : Z0 = c0) (hZ4 : Z4 = c4) (hP : P = c0 + c1 + c2 + c3 + c4) (hM : M = c0 - c1 + c2 - c3 + c4) (hD : D = c0 + 2 * c1 + 4 * c2 + 8 * c3 + 16 * c4)
    (hs : s ≤ 400) (hr : rc (2 ^ w) s [c0, c1, c2, c3, c4] 5 = r) (hb : r < lid) : Fn C 7 (.fn (C.ad 38)) [.list (([Z0, Z4, P, M, D] : List Int).map (S w)), .int s, .int w] (N w r) := by
  subst hZ0 hZ4
  have g1 := fn_from_five T hw h0 h1 h2 h3 h4 hP hM hD
  have g2 := fn_recomposed (cs := [c0, c1, c2, c3, c4]) T hw (by simp [h0, h1, h2, h3, h4]) (by simp) hs (by rw [← hr] at hb; exact hb)
  rw [show rc (2 ^ w) s [c0, c1, c2, c3, c4] [c0, c1, c2, c3, c4].length = r from hr] at g2
  refine Fn.defK T (ps := [Str.ofString "values", Str.ofString "size", Str.ofString "w"]) rfl rfl (by kernel_rfl) (by walk_at "bind") rfl (by decide +kernel) ?_
  dsimp only [List.zip, List.zipWith]
  exact Ex.rete T.ok (by walk_at "evs") rfl
theorem fn_joined_seven (T : Tx C) {w s c0 c1 c2 c3 c4 c5 c6 r : Nat} {Z0 Z6 P M P2 M2 H : Int} (hw : W w) (h0 : c0 < mid) (h1 : c1 < mid) (h2 : c2 < mid) (h3 : c3 < mid) (h4 : c4 < mid) (h5 : c5 < mid) (h6 : c6 < mid) (hZ0 : Z0 = c0) (hZ6 : Z6 = c6)
    (hP : P = c0 + c1 + c2 + c3 + c4 + c5 + c6) (hM : M = c0 - c1 + c2 - c3 + c4 - c5 + c6) (hP2 : P2 = c0 + 2 * c1 + 4 * c2 + 8 * c3 + 16 * c4 + 32 * c5 + 64 * c6) (hM2 : M2 = c0 - 2 * c1 + 4 * c2 - 8 * c3 + 16 * c4 - 32 * c5 + 64 * c6)
    (hH : H = 64 * c0 + 32 * c1 + 16 * c2 + 8 * c3 + 4 * c4 + 2 * c5 + c6)
    (hs : s ≤ 400) (hr : rc (2 ^ w) s [c0, c1, c2, c3, c4, c5, c6] 7 = r) (hb : r < lid) : Fn C 8 (.fn (C.ad 39)) [.list (([Z0, Z6, P, M, P2, M2, H] : List Int).map (S w)), .int s, .int w] (N w r) := by
  subst hZ0 hZ6
  have g1 := fn_from_seven T hw h0 h1 h2 h3 h4 h5 h6 hP hM hP2 hM2 hH
  have g2 := fn_recomposed (cs := [c0, c1, c2, c3, c4, c5, c6]) T hw (by simp [h0, h1, h2, h3, h4, h5, h6]) (by simp) hs (by rw [← hr] at hb; exact hb)
  rw [show rc (2 ^ w) s [c0, c1, c2, c3, c4, c5, c6] [c0, c1, c2, c3, c4, c5, c6].length = r from hr] at g2
  refine Fn.defK T (ps := [Str.ofString "values", Str.ofString "size", Str.ofString "w"]) rfl rfl (by kernel_rfl) (by walk_at "bind") rfl (by decide +kernel) ?_
  dsimp only [List.zip, List.zipWith]
  exact Ex.seq (Ex1.assign (by walk_at "v") (by walk_at "sto")) (Ex.rete T.ok (by walk_at "evs") rfl)

/-- how large the factors may be -/
structure QQ (q : Nat) : Prop where
  m16 : 16 * q ≤ mid
  sq : 16 * (q * q) ≤ mid
  len : q ≤ Nat.pow 2 1000
  pos : 0 < q
theorem len_leq {w x q : Nat} (h : W w) (hq : QQ q) (hx : x < q) : (dg (2 ^ w) x).length ≤ 1000 := by
  rw [dg_len_le h.B]
  refine Nat.lt_of_lt_of_le (Nat.lt_of_lt_of_le hx hq.len) ?_
  show 2 ^ 1000 ≤ _
  rw [← Nat.pow_mul]
  exact Nat.pow_le_pow_right (by lia) (by have := h.lo; exact Nat.le_mul_of_pos_left _ (by lia))
theorem pcs3 (B x s : Nat) : ∃ x0 x1 x2, pcs B x 3 s = [x0, x1, x2] ∧ x = x0 + B ^ s * x1 + (B ^ s) ^ 2 * x2 ∧ x0 ≤ x ∧ x1 ≤ x ∧ x2 ≤ x := by
  refine ⟨x / B ^ (0 * s) % B ^ s, x / B ^ (1 * s) % B ^ s, x / B ^ (2 * s), rfl, ?_, Nat.le_trans (Nat.mod_le _ _) (Nat.div_le_self _ _), Nat.le_trans (Nat.mod_le _ _) (Nat.div_le_self _ _), Nat.div_le_self _ _⟩
  have h1 := Nat.mod_add_div x (B ^ s)
  have h2 := Nat.mod_add_div (x / B ^ s) (B ^ s)
  rw [Nat.zero_mul, Nat.pow_zero, Nat.div_one, Nat.one_mul, Nat.mul_comm 2 s, Nat.pow_mul]
  rw [Nat.div_div_eq_div_mul, ← Nat.pow_two] at h2
  calc x = x % B ^ s + B ^ s * (x / B ^ s) := h1.symm
    _ = x % B ^ s + B ^ s * (x / B ^ s % B ^ s + B ^ s * (x / (B ^ s) ^ 2)) := by rw [h2]
    _ = _ := by grind
theorem pcs4 (B x s : Nat) : ∃ x0 x1 x2 x3, pcs B x 4 s = [x0, x1, x2, x3] ∧ x = x0 + B ^ s * x1 + (B ^ s) ^ 2 * x2 + (B ^ s) ^ 3 * x3 ∧ x0 ≤ x ∧ x1 ≤ x ∧ x2 ≤ x ∧ x3 ≤ x := by
  refine ⟨x / B ^ (0 * s) % B ^ s, x / B ^ (1 * s) % B ^ s, x / B ^ (2 * s) % B ^ s, x / B ^ (3 * s), rfl, ?_, Nat.le_trans (Nat.mod_le _ _) (Nat.div_le_self _ _), Nat.le_trans (Nat.mod_le _ _) (Nat.div_le_self _ _), Nat.le_trans (Nat.mod_le _ _) (Nat.div_le_self _ _), Nat.div_le_self _ _⟩
  have h1 := Nat.mod_add_div x (B ^ s)
  have h2 := Nat.mod_add_div (x / B ^ s) (B ^ s)
  have h3 := Nat.mod_add_div (x / (B ^ s) ^ 2) (B ^ s)
  rw [Nat.zero_mul, Nat.pow_zero, Nat.div_one, Nat.one_mul, Nat.mul_comm 2 s, Nat.pow_mul, Nat.mul_comm 3 s, Nat.pow_mul]
  rw [Nat.div_div_eq_div_mul, ← Nat.pow_two] at h2
  rw [Nat.div_div_eq_div_mul, ← Nat.pow_succ] at h3
  calc x = x % B ^ s + B ^ s * (x / B ^ s) := h1.symm
    _ = x % B ^ s + B ^ s * (x / B ^ s % B ^ s + B ^ s * (x / (B ^ s) ^ 2)) := by rw [h2]
    _ = x % B ^ s + B ^ s * (x / B ^ s % B ^ s + B ^ s * (x / (B ^ s) ^ 2 % B ^ s + B ^ s * (x / (B ^ s) ^ 3))) := by rw [h3]
    _ = _ := by grind
theorem vals_3 (a b c : Nat) : vals4 [a, b, c] ++ [(hn2 [a, b, c].reverse [a, b, c].length : Int)] = [(a : Int), (c : Int), (a : Int) + c + b, (a : Int) + c - b, (a : Int) + 2 * b + 4 * c] := by
  simp [vals4, eo, hn2]; lia
theorem vals_4 (a b c d : Nat) : vals4 [a, b, c, d] ++ vals2 [a, b, c, d] ++ [(hn2 [a, b, c, d] [a, b, c, d].length : Int)] =
    [(a : Int), (d : Int), (a : Int) + c + (b + d), (a : Int) + c - (b + d), (a : Int) + 4 * c + (2 * b + 8 * d), (a : Int) + 4 * c - (2 * b + 8 * d), 8 * (a : Int) + 4 * b + 2 * c + d] := by
  simp [vals4, vals2, eo, hn2]; lia
theorem rc5 (B s a b c d e : Nat) : rc B s [a, b, c, d, e] 5 = a + B ^ s * b + (B ^ s) ^ 2 * c + (B ^ s) ^ 3 * d + (B ^ s) ^ 4 * e := by
  simp [rc, Nat.mul_comm _ s, Nat.pow_mul]
theorem rc7 (B s a b c d e f g : Nat) : rc B s [a, b, c, d, e, f, g] 7 = a + B ^ s * b + (B ^ s) ^ 2 * c + (B ^ s) ^ 3 * d + (B ^ s) ^ 4 * e + (B ^ s) ^ 5 * f + (B ^ s) ^ 6 * g := by
  simp [rc, Nat.mul_comm _ s, Nat.pow_mul]

set_option maxHeartbeats 1000000 in
theorem fn_toom3 (T : Tx C) {w x y q k : Nat} {m : V} (hw : W w) (hq : QQ q) (hx : x < q) (hy : y < q) (hk : 6 ≤ k) (hm : ∀ a b, a < 16 * q → b < 16 * q → Fn C k m [N w a, N w b, .int w] (N w (a * b))) : Fn C (k + 3) (.fn (C.ad 41)) [N w x, N w y, .int w, m] (N w (x * y)) := by
  have hml := mid_lid
  have q1 := hq.m16
  have q2 := hq.sq
  have qp := hq.pos
  have lx := len_leq hw hq hx
  have ly := len_leq hw hq hy
  have g1 : Fn C 2 (.fn (C.ad 40)) [N w x, N w y, .int 3, .int 3] _ := fn_common_size (k := 3) T hw (show x < lid by lia) (show y < lid by lia) (by lia) (by lia)
  obtain ⟨s, es⟩ : ∃ s, s = max (max (((dg (2 ^ w) x).length + 3 - 1) / 3) (((dg (2 ^ w) y).length + 3 - 1) / 3)) 1 := ⟨_, rfl⟩
  rw [← es] at g1
  have hs : s ≤ 400 := by lia
  obtain ⟨x0, x1, x2, ex, hxe, hx0, hx1, hx2⟩ := pcs3 (2 ^ w) x s
  obtain ⟨y0, y1, y2, ey, hye, hy0, hy1, hy2⟩ := pcs3 (2 ^ w) y s
  have g2 : Fn C 3 (.fn (C.ad 17)) [N w x, .int 3, .int s] _ := fn_pieces (many := 3) T hw (show x < lid by lia) (by lia) (by lia) (show s ≤ 3000 by lia)
  have g3 : Fn C 3 (.fn (C.ad 17)) [N w y, .int 3, .int s] _ := fn_pieces (many := 3) T hw (show y < lid by lia) (by lia) (by lia) (show s ≤ 3000 by lia)
  rw [ex] at g2
  rw [ey] at g3
  have g4 := fn_values_five (ps := [x0, x1, x2]) T hw (by simp only [List.forall_mem_cons]; exact ⟨by lia, by lia, by lia, fun _ h => absurd h List.not_mem_nil⟩) (by simp) (by simp)
  have g5 := fn_values_five (ps := [y0, y1, y2]) T hw (by simp only [List.forall_mem_cons]; exact ⟨by lia, by lia, by lia, fun _ h => absurd h List.not_mem_nil⟩) (by simp) (by simp)
  rw [vals_3] at g4 g5
  have bx : ∀ z ∈ [(x0 : Int), (x2 : Int), (x0 : Int) + x2 + x1, (x0 : Int) + x2 - x1, (x0 : Int) + 2 * x1 + 4 * x2], z.natAbs < 16 * q := by
    simp only [List.forall_mem_cons]; exact ⟨by lia, by lia, by lia, by lia, by lia, fun _ h => absurd h List.not_mem_nil⟩
  have bz : ∀ z ∈ [(y0 : Int), (y2 : Int), (y0 : Int) + y2 + y1, (y0 : Int) + y2 - y1, (y0 : Int) + 2 * y1 + 4 * y2], z.natAbs < 16 * q := by
    simp only [List.forall_mem_cons]; exact ⟨by lia, by lia, by lia, by lia, by lia, fun _ h => absurd h List.not_mem_nil⟩
  have g6 := fn_products_of (m := m) T hw (show 2 ≤ k by lia) (fun z hz => Nat.lt_of_lt_of_le (bx z hz) (show 16 * q ≤ lid by lia)) (fun z hz => Nat.lt_of_lt_of_le (bz z hz) (show 16 * q ≤ lid by lia)) (by simp) (by simp) (fun z y hz hy => hm _ _ (bx z hz) (bz y hy))
  replace g6 : Fn C (k + 2) (.fn (C.ad 33)) [.list ([(x0 : Int), (x2 : Int), (x0 : Int) + x2 + x1, (x0 : Int) + x2 - x1, (x0 : Int) + 2 * x1 + 4 * x2].map (S w)), .list ([(y0 : Int), (y2 : Int), (y0 : Int) + y2 + y1, (y0 : Int) + y2 - y1, (y0 : Int) + 2 * y1 + 4 * y2].map (S w)), .int w, m]
    (.list (([(x0 : Int) * y0, (x2 : Int) * y2, ((x0 : Int) + x2 + x1) * ((y0 : Int) + y2 + y1), ((x0 : Int) + x2 - x1) * ((y0 : Int) + y2 - y1), ((x0 : Int) + 2 * x1 + 4 * x2) * ((y0 : Int) + 2 * y1 + 4 * y2)] : List Int).map (S w))) := g6
  have pr : ∀ a b : Nat, a ≤ x → b ≤ y → a * b < q * q := fun a b ha hb => Nat.mul_lt_mul'' (by lia) (by lia)
  have p00 := pr x0 y0 hx0 hy0
  have p01 := pr x0 y1 hx0 hy1
  have p10 := pr x1 y0 hx1 hy0
  have p02 := pr x0 y2 hx0 hy2
  have p11 := pr x1 y1 hx1 hy1
  have p20 := pr x2 y0 hx2 hy0
  have p12 := pr x1 y2 hx1 hy2
  have p21 := pr x2 y1 hx2 hy1
  have p22 := pr x2 y2 hx2 hy2
  have pxy := pr x y (Nat.le_refl _) (Nat.le_refl _)
  have g7 := fn_joined_five (s := s) (c0 := x0 * y0) (c1 := x0 * y1 + x1 * y0) (c2 := x0 * y2 + x1 * y1 + x2 * y0) (c3 := x1 * y2 + x2 * y1) (c4 := x2 * y2) (r := x * y)
    (Z0 := (x0 : Int) * y0) (Z4 := (x2 : Int) * y2) (P := ((x0 : Int) + x2 + x1) * ((y0 : Int) + y2 + y1)) (M := ((x0 : Int) + x2 - x1) * ((y0 : Int) + y2 - y1)) (D := ((x0 : Int) + 2 * x1 + 4 * x2) * ((y0 : Int) + 2 * y1 + 4 * y2)) T hw
    (by lia) (by lia) (by lia) (by lia) (by lia) (by simp) (by simp) (by simp only [Int.natCast_add, Int.natCast_mul]; grind) (by simp only [Int.natCast_add, Int.natCast_mul]; grind) (by simp only [Int.natCast_add, Int.natCast_mul]; grind) hs
    (by
      rw [rc5]
      generalize (2 ^ w) ^ s = Q at *
      rw [hxe, hye]
      grind) (by lia)
  refine Fn.defK (k := k + 2) T (ps := [Str.ofString "a", Str.ofString "b", Str.ofString "w", Str.ofString "mul"]) rfl rfl (by kernel_rfl) (by walk_at "bind") rfl (by decide +kernel) ?_
  dsimp only [List.zip, List.zipWith]
  refine Ex.seq (Ex1.assign (by walk_at "v") (by walk_at "sto")) (Ex.seq (Ex1.swap T.ok (xs := [Str.ofString "some", Str.ofString "others"]) (by walk_at "v") (by walk_at "stos") rfl (hw := by walk_at "swp")) (Ex.rete T.ok (by walk_at "evs") rfl))
end
-- F14
section
variable {C : Cx} {n : Nat} {sc : Names} {σ σ' : Sto} {own own' : Option (Str × List Int)}
set_option maxHeartbeats 2000000 in
theorem fn_toom4 (T : Tx C) {w x y q k : Nat} {m : V} (hw : W w) (hq : QQ q) (hx : x < q) (hy : y < q) (hk : 6 ≤ k) (hm : ∀ a b, a < 16 * q → b < 16 * q → Fn C k m [N w a, N w b, .int w] (N w (a * b))) : Fn C (k + 3) (.fn (C.ad 42)) [N w x, N w y, .int w, m] (N w (x * y)) := by
  have hml := mid_lid
  have q1 := hq.m16
  have q2 := hq.sq
  have qp := hq.pos
  have lx := len_leq hw hq hx
  have ly := len_leq hw hq hy
  have g1 : Fn C 2 (.fn (C.ad 40)) [N w x, N w y, .int 4, .int 4] _ := fn_common_size (k := 4) T hw (show x < lid by lia) (show y < lid by lia) (by lia) (by lia)
  obtain ⟨s, es⟩ : ∃ s, s = max (max (((dg (2 ^ w) x).length + 4 - 1) / 4) (((dg (2 ^ w) y).length + 4 - 1) / 4)) 1 := ⟨_, rfl⟩
  rw [← es] at g1
  have hs : s ≤ 400 := by lia
  obtain ⟨x0, x1, x2, x3, ex, hxe, hx0, hx1, hx2, hx3⟩ := pcs4 (2 ^ w) x s
  obtain ⟨y0, y1, y2, y3, ey, hye, hy0, hy1, hy2, hy3⟩ := pcs4 (2 ^ w) y s
  have g2 : Fn C 3 (.fn (C.ad 17)) [N w x, .int 4, .int s] _ := fn_pieces (many := 4) T hw (show x < lid by lia) (by lia) (by lia) (show s ≤ 3000 by lia)
  rw [ex] at g2
  have g3 : Fn C 3 (.fn (C.ad 17)) [N w y, .int 4, .int s] _ := fn_pieces (many := 4) T hw (show y < lid by lia) (by lia) (by lia) (show s ≤ 3000 by lia)
  rw [ey] at g3
  have g4 := fn_values_seven (ps := [x0, x1, x2, x3]) T hw (by simp only [List.forall_mem_cons]; exact ⟨by lia, by lia, by lia, by lia, fun _ h => absurd h List.not_mem_nil⟩) (by simp) (by simp)
  rw [vals_4] at g4
  have g5 := fn_values_seven (ps := [y0, y1, y2, y3]) T hw (by simp only [List.forall_mem_cons]; exact ⟨by lia, by lia, by lia, by lia, fun _ h => absurd h List.not_mem_nil⟩) (by simp) (by simp)
  rw [vals_4] at g5
  have bx : ∀ z ∈ [(x0 : Int), (x3 : Int), (x0 : Int) + x2 + (x1 + x3), (x0 : Int) + x2 - (x1 + x3), (x0 : Int) + 4 * x2 + (2 * x1 + 8 * x3), (x0 : Int) + 4 * x2 - (2 * x1 + 8 * x3), 8 * (x0 : Int) + 4 * x1 + 2 * x2 + x3], z.natAbs < 16 * q := by simp only [List.forall_mem_cons]; exact ⟨by lia, by lia, by lia, by lia, by lia, by lia, by lia, fun _ h => absurd h List.not_mem_nil⟩
  have bz : ∀ z ∈ [(y0 : Int), (y3 : Int), (y0 : Int) + y2 + (y1 + y3), (y0 : Int) + y2 - (y1 + y3), (y0 : Int) + 4 * y2 + (2 * y1 + 8 * y3), (y0 : Int) + 4 * y2 - (2 * y1 + 8 * y3), 8 * (y0 : Int) + 4 * y1 + 2 * y2 + y3], z.natAbs < 16 * q := by simp only [List.forall_mem_cons]; exact ⟨by lia, by lia, by lia, by lia, by lia, by lia, by lia, fun _ h => absurd h List.not_mem_nil⟩
  have g6 := fn_products_of (m := m) T hw (show 2 ≤ k by lia) (fun z hz => Nat.lt_of_lt_of_le (bx z hz) (show 16 * q ≤ lid by lia)) (fun z hz => Nat.lt_of_lt_of_le (bz z hz) (show 16 * q ≤ lid by lia)) (by simp) (by simp) (fun z y hz hy => hm _ _ (bx z hz) (bz y hy))
  replace g6 : Fn C (k + 2) (.fn (C.ad 33)) [.list ([(x0 : Int), (x3 : Int), (x0 : Int) + x2 + (x1 + x3), (x0 : Int) + x2 - (x1 + x3), (x0 : Int) + 4 * x2 + (2 * x1 + 8 * x3), (x0 : Int) + 4 * x2 - (2 * x1 + 8 * x3), 8 * (x0 : Int) + 4 * x1 + 2 * x2 + x3].map (S w)), .list ([(y0 : Int), (y3 : Int), (y0 : Int) + y2 + (y1 + y3), (y0 : Int) + y2 - (y1 + y3), (y0 : Int) + 4 * y2 + (2 * y1 + 8 * y3), (y0 : Int) + 4 * y2 - (2 * y1 + 8 * y3), 8 * (y0 : Int) + 4 * y1 + 2 * y2 + y3].map (S w)), .int w, m] (.list (([((x0 : Int)) * ((y0 : Int)), ((x3 : Int)) * ((y3 : Int)), ((x0 : Int) + x2 + (x1 + x3)) * ((y0 : Int) + y2 + (y1 + y3)), ((x0 : Int) + x2 - (x1 + x3)) * ((y0 : Int) + y2 - (y1 + y3)), ((x0 : Int) + 4 * x2 + (2 * x1 + 8 * x3)) * ((y0 : Int) + 4 * y2 + (2 * y1 + 8 * y3)), ((x0 : Int) + 4 * x2 - (2 * x1 + 8 * x3)) * ((y0 : Int) + 4 * y2 - (2 * y1 + 8 * y3)), (8 * (x0 : Int) + 4 * x1 + 2 * x2 + x3) * (8 * (y0 : Int) + 4 * y1 + 2 * y2 + y3)] : List Int).map (S w))) := g6
  have pr : ∀ a b : Nat, a ≤ x → b ≤ y → a * b < q * q := fun a b ha hb => Nat.mul_lt_mul'' (by lia) (by lia)
  have p00 := pr x0 y0 hx0 hy0
  have p01 := pr x0 y1 hx0 hy1
  have p02 := pr x0 y2 hx0 hy2
  have p03 := pr x0 y3 hx0 hy3
  have p10 := pr x1 y0 hx1 hy0
  have p11 := pr x1 y1 hx1 hy1
  have p12 := pr x1 y2 hx1 hy2
  have p13 := pr x1 y3 hx1 hy3
  have p20 := pr x2 y0 hx2 hy0
  have p21 := pr x2 y1 hx2 hy1
  have p22 := pr x2 y2 hx2 hy2
  have p23 := pr x2 y3 hx2 hy3
  have p30 := pr x3 y0 hx3 hy0
  have p31 := pr x3 y1 hx3 hy1
  have p32 := pr x3 y2 hx3 hy2
  have p33 := pr x3 y3 hx3 hy3
  have pxy := pr x y (Nat.le_refl _) (Nat.le_refl _)
  have g7 := fn_joined_seven (s := s) (c0 := x0 * y0) (c1 := x0 * y1 + x1 * y0) (c2 := x0 * y2 + x1 * y1 + x2 * y0) (c3 := x0 * y3 + x1 * y2 + x2 * y1 + x3 * y0) (c4 := x1 * y3 + x2 * y2 + x3 * y1) (c5 := x2 * y3 + x3 * y2) (c6 := x3 * y3) (r := x * y) (Z0 := ((x0 : Int)) * ((y0 : Int))) (Z6 := ((x3 : Int)) * ((y3 : Int))) (P := ((x0 : Int) + x2 + (x1 + x3)) * ((y0 : Int) + y2 + (y1 + y3))) (M := ((x0 : Int) + x2 - (x1 + x3)) * ((y0 : Int) + y2 - (y1 + y3))) (P2 := ((x0 : Int) + 4 * x2 + (2 * x1 + 8 * x3)) * ((y0 : Int) + 4 * y2 + (2 * y1 + 8 * y3))) (M2 := ((x0 : Int) + 4 * x2 - (2 * x1 + 8 * x3)) * ((y0 : Int) + 4 * y2 - (2 * y1 + 8 * y3))) (H := (8 * (x0 : Int) + 4 * x1 + 2 * x2 + x3) * (8 * (y0 : Int) + 4 * y1 + 2 * y2 + y3)) T hw (by lia) (by lia) (by lia) (by lia) (by lia) (by lia) (by lia) (by simp) (by simp) (by simp only [Int.natCast_add, Int.natCast_mul]; grind) (by simp only [Int.natCast_add, Int.natCast_mul]; grind) (by simp only [Int.natCast_add, Int.natCast_mul]; grind) (by simp only [Int.natCast_add, Int.natCast_mul]; grind) (by simp only [Int.natCast_add, Int.natCast_mul]; grind) hs
    (by
      rw [rc7]
      generalize (2 ^ w) ^ s = Q at *
      rw [hxe, hye]
      grind) (by lia)
  refine Fn.defK (k := k + 2) T (ps := [Str.ofString "a", Str.ofString "b", Str.ofString "w", Str.ofString "mul"]) rfl rfl (by kernel_rfl) (by walk_at "bind") rfl (by decide +kernel) ?_
  dsimp only [List.zip, List.zipWith]
  refine Ex.seq (Ex1.assign (by walk_at "v") (by walk_at "sto")) (Ex.seq (Ex1.swap T.ok (xs := [Str.ofString "some", Str.ofString "others"]) (by walk_at "v") (by walk_at "stos") rfl (hw := by walk_at "swp")) (Ex.rete T.ok (by walk_at "evs") rfl))
end
-- F15
section
variable {C : Cx} {n : Nat} {sc : Names} {σ σ' : Sto} {own own' : Option (Str × List Int)}
set_option maxHeartbeats 2000000 in
theorem fn_toom_sqr3 (T : Tx C) {w x q k : Nat} {m : V} (hw : W w) (hq : QQ q) (hx : x < q) (hk : 7 ≤ k) (hm : ∀ a, a < 16 * q → Fn C k m [N w a, .int w] (N w (a * a))) : Fn C (k + 2) (.fn (C.ad 44)) [N w x, .int w, m] (N w (x * x)) := by
  have hml := mid_lid
  have q1 := hq.m16
  have q2 := hq.sq
  have qp := hq.pos
  have lx := len_leq hw hq hx
  have g1 : Fn C 1 (.fn (C.ad 18)) [.int (dg (2 ^ w) x).length, .int 3] _ := fn_piece_size (m := 3) T (by lia) (by lia)
  obtain ⟨s, es⟩ : ∃ s, s = max (((dg (2 ^ w) x).length + 3 - 1) / 3) 1 := ⟨_, rfl⟩
  have es2 : ((s : Nat) : Int) = max ((((dg (2 ^ w) x).length + 3 - 1) / 3 : Nat) : Int) 1 := by lia
  have hs : s ≤ 400 := by lia
  obtain ⟨x0, x1, x2, ex, hxe, hx0, hx1, hx2⟩ := pcs3 (2 ^ w) x s
  have g2 : Fn C 3 (.fn (C.ad 17)) [N w x, .int 3, .int s] _ := fn_pieces (many := 3) T hw (show x < lid by lia) (by lia) (by lia) (show s ≤ 3000 by lia)
  rw [ex] at g2
  have g4 := fn_values_five (ps := [x0, x1, x2]) T hw (by simp only [List.forall_mem_cons]; exact ⟨by lia, by lia, by lia, fun _ h => absurd h List.not_mem_nil⟩) (by simp) (by simp)
  rw [vals_3] at g4
  have bx : ∀ z ∈ [(x0 : Int), (x2 : Int), (x0 : Int) + x2 + x1, (x0 : Int) + x2 - x1, (x0 : Int) + 2 * x1 + 4 * x2], z.natAbs < 16 * q := by simp only [List.forall_mem_cons]; exact ⟨by lia, by lia, by lia, by lia, by lia, fun _ h => absurd h List.not_mem_nil⟩
  have g6 := fn_squares_of (m := m) T hw (by simp) (fun z hz => hm _ (bx z hz))
  replace g6 : Fn C (k + 1) (.fn (C.ad 43)) [.list ([(x0 : Int), (x2 : Int), (x0 : Int) + x2 + x1, (x0 : Int) + x2 - x1, (x0 : Int) + 2 * x1 + 4 * x2].map (S w)), m, .int w] (.list (([((x0 : Int)) * ((x0 : Int)), ((x2 : Int)) * ((x2 : Int)), ((x0 : Int) + x2 + x1) * ((x0 : Int) + x2 + x1), ((x0 : Int) + x2 - x1) * ((x0 : Int) + x2 - x1), ((x0 : Int) + 2 * x1 + 4 * x2) * ((x0 : Int) + 2 * x1 + 4 * x2)] : List Int).map (S w))) := g6
  have pr : ∀ a b : Nat, a ≤ x → b ≤ x → a * b < q * q := fun a b ha hb => Nat.mul_lt_mul'' (by lia) (by lia)
  have p00 := pr x0 x0 hx0 hx0
  have p01 := pr x0 x1 hx0 hx1
  have p02 := pr x0 x2 hx0 hx2
  have p10 := pr x1 x0 hx1 hx0
  have p11 := pr x1 x1 hx1 hx1
  have p12 := pr x1 x2 hx1 hx2
  have p20 := pr x2 x0 hx2 hx0
  have p21 := pr x2 x1 hx2 hx1
  have p22 := pr x2 x2 hx2 hx2
  have pxy := pr x x (Nat.le_refl _) (Nat.le_refl _)
  have g7 := fn_joined_five (s := s) (c0 := x0 * x0) (c1 := x0 * x1 + x1 * x0) (c2 := x0 * x2 + x1 * x1 + x2 * x0) (c3 := x1 * x2 + x2 * x1) (c4 := x2 * x2) (r := x * x) (Z0 := ((x0 : Int)) * ((x0 : Int))) (Z4 := ((x2 : Int)) * ((x2 : Int))) (P := ((x0 : Int) + x2 + x1) * ((x0 : Int) + x2 + x1)) (M := ((x0 : Int) + x2 - x1) * ((x0 : Int) + x2 - x1)) (D := ((x0 : Int) + 2 * x1 + 4 * x2) * ((x0 : Int) + 2 * x1 + 4 * x2)) T hw (by lia) (by lia) (by lia) (by lia) (by lia) (by simp) (by simp) (by simp only [Int.natCast_add, Int.natCast_mul]; grind) (by simp only [Int.natCast_add, Int.natCast_mul]; grind) (by simp only [Int.natCast_add, Int.natCast_mul]; grind) hs
    (by
      rw [rc5]
      generalize (2 ^ w) ^ s = Q at *
      rw [hxe]
      grind) (by lia)
  refine Fn.defK (k := k + 1) T (ps := [Str.ofString "a", Str.ofString "w", Str.ofString "sqr"]) rfl rfl (by kernel_rfl) (by walk_at "bind") rfl (by decide +kernel) ?_
  dsimp only [List.zip, List.zipWith]
  refine Ex.seq (Ex1.assign (d := .int s) (EvO.cast (by walk_at "v") (congrArg V.int es2.symm)) (by walk_at "sto")) (Ex.rete T.ok (by walk_at "evs") rfl)
set_option maxHeartbeats 2000000 in
theorem fn_toom_sqr4 (T : Tx C) {w x q k : Nat} {m : V} (hw : W w) (hq : QQ q) (hx : x < q) (hk : 7 ≤ k) (hm : ∀ a, a < 16 * q → Fn C k m [N w a, .int w] (N w (a * a))) : Fn C (k + 2) (.fn (C.ad 45)) [N w x, .int w, m] (N w (x * x)) := by
  have hml := mid_lid
  have q1 := hq.m16
  have q2 := hq.sq
  have qp := hq.pos
  have lx := len_leq hw hq hx
  have g1 : Fn C 1 (.fn (C.ad 18)) [.int (dg (2 ^ w) x).length, .int 4] _ := fn_piece_size (m := 4) T (by lia) (by lia)
  obtain ⟨s, es⟩ : ∃ s, s = max (((dg (2 ^ w) x).length + 4 - 1) / 4) 1 := ⟨_, rfl⟩
  have es2 : ((s : Nat) : Int) = max ((((dg (2 ^ w) x).length + 4 - 1) / 4 : Nat) : Int) 1 := by lia
  have hs : s ≤ 400 := by lia
  obtain ⟨x0, x1, x2, x3, ex, hxe, hx0, hx1, hx2, hx3⟩ := pcs4 (2 ^ w) x s
  have g2 : Fn C 3 (.fn (C.ad 17)) [N w x, .int 4, .int s] _ := fn_pieces (many := 4) T hw (show x < lid by lia) (by lia) (by lia) (show s ≤ 3000 by lia)
  rw [ex] at g2
  have g4 := fn_values_seven (ps := [x0, x1, x2, x3]) T hw (by simp only [List.forall_mem_cons]; exact ⟨by lia, by lia, by lia, by lia, fun _ h => absurd h List.not_mem_nil⟩) (by simp) (by simp)
  rw [vals_4] at g4
  have bx : ∀ z ∈ [(x0 : Int), (x3 : Int), (x0 : Int) + x2 + (x1 + x3), (x0 : Int) + x2 - (x1 + x3), (x0 : Int) + 4 * x2 + (2 * x1 + 8 * x3), (x0 : Int) + 4 * x2 - (2 * x1 + 8 * x3), 8 * (x0 : Int) + 4 * x1 + 2 * x2 + x3], z.natAbs < 16 * q := by simp only [List.forall_mem_cons]; exact ⟨by lia, by lia, by lia, by lia, by lia, by lia, by lia, fun _ h => absurd h List.not_mem_nil⟩
  have g6 := fn_squares_of (m := m) T hw (by simp) (fun z hz => hm _ (bx z hz))
  replace g6 : Fn C (k + 1) (.fn (C.ad 43)) [.list ([(x0 : Int), (x3 : Int), (x0 : Int) + x2 + (x1 + x3), (x0 : Int) + x2 - (x1 + x3), (x0 : Int) + 4 * x2 + (2 * x1 + 8 * x3), (x0 : Int) + 4 * x2 - (2 * x1 + 8 * x3), 8 * (x0 : Int) + 4 * x1 + 2 * x2 + x3].map (S w)), m, .int w] (.list (([((x0 : Int)) * ((x0 : Int)), ((x3 : Int)) * ((x3 : Int)), ((x0 : Int) + x2 + (x1 + x3)) * ((x0 : Int) + x2 + (x1 + x3)), ((x0 : Int) + x2 - (x1 + x3)) * ((x0 : Int) + x2 - (x1 + x3)), ((x0 : Int) + 4 * x2 + (2 * x1 + 8 * x3)) * ((x0 : Int) + 4 * x2 + (2 * x1 + 8 * x3)), ((x0 : Int) + 4 * x2 - (2 * x1 + 8 * x3)) * ((x0 : Int) + 4 * x2 - (2 * x1 + 8 * x3)), (8 * (x0 : Int) + 4 * x1 + 2 * x2 + x3) * (8 * (x0 : Int) + 4 * x1 + 2 * x2 + x3)] : List Int).map (S w))) := g6
  have pr : ∀ a b : Nat, a ≤ x → b ≤ x → a * b < q * q := fun a b ha hb => Nat.mul_lt_mul'' (by lia) (by lia)
  have p00 := pr x0 x0 hx0 hx0
  have p01 := pr x0 x1 hx0 hx1
  have p02 := pr x0 x2 hx0 hx2
  have p03 := pr x0 x3 hx0 hx3
  have p10 := pr x1 x0 hx1 hx0
  have p11 := pr x1 x1 hx1 hx1
  have p12 := pr x1 x2 hx1 hx2
  have p13 := pr x1 x3 hx1 hx3
  have p20 := pr x2 x0 hx2 hx0
  have p21 := pr x2 x1 hx2 hx1
  have p22 := pr x2 x2 hx2 hx2
  have p23 := pr x2 x3 hx2 hx3
  have p30 := pr x3 x0 hx3 hx0
  have p31 := pr x3 x1 hx3 hx1
  have p32 := pr x3 x2 hx3 hx2
  have p33 := pr x3 x3 hx3 hx3
  have pxy := pr x x (Nat.le_refl _) (Nat.le_refl _)
  have g7 := fn_joined_seven (s := s) (c0 := x0 * x0) (c1 := x0 * x1 + x1 * x0) (c2 := x0 * x2 + x1 * x1 + x2 * x0) (c3 := x0 * x3 + x1 * x2 + x2 * x1 + x3 * x0) (c4 := x1 * x3 + x2 * x2 + x3 * x1) (c5 := x2 * x3 + x3 * x2) (c6 := x3 * x3) (r := x * x) (Z0 := ((x0 : Int)) * ((x0 : Int))) (Z6 := ((x3 : Int)) * ((x3 : Int))) (P := ((x0 : Int) + x2 + (x1 + x3)) * ((x0 : Int) + x2 + (x1 + x3))) (M := ((x0 : Int) + x2 - (x1 + x3)) * ((x0 : Int) + x2 - (x1 + x3))) (P2 := ((x0 : Int) + 4 * x2 + (2 * x1 + 8 * x3)) * ((x0 : Int) + 4 * x2 + (2 * x1 + 8 * x3))) (M2 := ((x0 : Int) + 4 * x2 - (2 * x1 + 8 * x3)) * ((x0 : Int) + 4 * x2 - (2 * x1 + 8 * x3))) (H := (8 * (x0 : Int) + 4 * x1 + 2 * x2 + x3) * (8 * (x0 : Int) + 4 * x1 + 2 * x2 + x3)) T hw (by lia) (by lia) (by lia) (by lia) (by lia) (by lia) (by lia) (by simp) (by simp) (by simp only [Int.natCast_add, Int.natCast_mul]; grind) (by simp only [Int.natCast_add, Int.natCast_mul]; grind) (by simp only [Int.natCast_add, Int.natCast_mul]; grind) (by simp only [Int.natCast_add, Int.natCast_mul]; grind) (by simp only [Int.natCast_add, Int.natCast_mul]; grind) hs
    (by
      rw [rc7]
      generalize (2 ^ w) ^ s = Q at *
      rw [hxe]
      grind) (by lia)
  refine Fn.defK (k := k + 1) T (ps := [Str.ofString "a", Str.ofString "w", Str.ofString "sqr"]) rfl rfl (by kernel_rfl) (by walk_at "bind") rfl (by decide +kernel) ?_
  dsimp only [List.zip, List.zipWith]
  refine Ex.seq (Ex1.assign (d := .int s) (EvO.cast (by walk_at "v") (congrArg V.int es2.symm)) (by walk_at "sto")) (Ex.rete T.ok (by walk_at "evs") rfl)
end
-- F16
section
variable {C : Cx} {n : Nat} {sc : Names} {σ σ' : Sto} {own own' : Option (Str × List Int)}

theorem EtO.cast {e : Expr} {b b' : Bool} (h : EtO C n sc σ own e b) (hb : b = b') : EtO C n sc σ own e b' := hb ▸ h
theorem WhileR.run {test : Expr} {body : List Stmt} : ∀ (m : Nat) (τ : Nat → Sto) (ow : Nat → Option (Str × List Int)),
    (∀ i, i < m → EtO C n sc (τ i) (ow i) test true ∧ ∃ τ1, Ex C n sc (τ i) (ow i) body (.next τ1 (ow (i + 1))) ∧ Sub (τ (i + 1)) τ1) → EtO C n sc (τ m) (ow m) test false → WhileR C n sc test body m (τ 0) (ow 0) (.next (τ m) (ow m))
  | 0, τ, ow, _, hd => .done hd
  | m + 1, τ, ow, h, hd => by
    obtain ⟨h1, τ1, h2, h3⟩ := h 0 (Nat.zero_lt_succ _)
    exact .next h1 h2 h3 (WhileR.run m (fun i => τ (i + 1)) (fun i => ow (i + 1)) (fun i hi => h (i + 1) (Nat.succ_lt_succ hi)) hd)
theorem bits_lid {x : Nat} (h : x < lid) : (Builtin.Int.intBits (x : Int) : Int) ≤ 3000 := by
  have : Builtin.Int.intBits (x : Int) ≤ 3000 := intBits_le_iff.mpr h
  lia
theorem fn_law_nat (T : Tx C) {w x : Nat} (hw : W w) (hx : x < lid) : Fn C 1 (.fn (C.ad 47)) [.int x, .int w] (N w x) := by
  have lx := len_le hw hx
  have hB := hw.B
  have hb1 := hw.bits
  have hw1 := hw.lo
  have hw2 := hw.hi
  have pl := pad_length (2 ^ w)
  refine Fn.defK T (ps := [Str.ofString "number", Str.ofString "w"]) rfl rfl (by kernel_rfl) (by walk_at "bind") rfl (by decide +kernel) ?_
  dsimp only [List.zip, List.zipWith]
  have h2w : (0 : Int) < ((2 ^ w : Nat) : Int) := by lia
  refine Ex.seq (Ex1.post (σ' := [(Str.ofString "number", .int ((x / (2 ^ w) ^ 0 : Nat) : Int)), (Str.ofString "w", .int w)]) (Ex1.assignOwn T.ok EvNew.nil rfl rfl) (.cons' rfl (by simp) (.cons rfl .nil))) ?_
  refine Ex.seq (Ex1.while_ (WhileR.run (dg (2 ^ w) x).length (fun i => [(Str.ofString "number", .int ((x / (2 ^ w) ^ i : Nat) : Int)), (Str.ofString "w", .int w)]) (fun i => some (Str.ofString "found", pad (2 ^ w) i x))
    (fun i hi => ⟨.cast (by walk_at "t") ?_, _, Ex.ownc (Ex.seq (Ex1.append (by
      walk_at "v"
      rw [shl_one]; exact h2w) (by rw [pl]; lia)) (Ex.seq (Ex1.assign (by walk_at "v") (by walk_at "sto")) Ex.nil)) ?_, .cons' rfl ?_ (.cons rfl .nil)⟩) (.cast (by walk_at "t") ?_))) ?_
  · refine decide_eq_true (Int.ofNat_lt.mpr (Nat.div_pos ?_ (Nat.pow_pos (by lia))))
    exact Nat.le_of_not_lt fun q => by have := (dg_len_le hB).mpr q; lia
  · rw [shl_one, pad_succ]; rfl
  · rw [shr_div, div_succ]; rfl
  · rw [Nat.div_eq_of_lt (dg_len hB x).1]; rfl
  · exact Ex.retV' T.ok (by walk_at "evs") (by rw [← dg_is_pad hB])
theorem fn_law_signed (T : Tx C) {w : Nat} {z : Int} (hw : W w) (hz : z.natAbs < lid) : Fn C 2 (.fn (C.ad 52)) [.int z, .int w] (S w z) := by
  have g : Fn C 1 (.fn (C.ad 47)) [.int (if z < 0 then -z else z), .int w] (N w z.natAbs) := by
    rw [show (if z < 0 then -z else z) = ((z.natAbs : Nat) : Int) by split <;> lia]
    exact fn_law_nat T hw hz
  refine Fn.defK T (ps := [Str.ofString "number", Str.ofString "w"]) rfl rfl (by kernel_rfl) (by walk_at "bind") rfl (by decide +kernel) ?_
  dsimp only [List.zip, List.zipWith]
  exact Ex.rete T.ok (by walk_at "evs") rfl
/-- a row's value at a point -/
def hor (l : List Int) (p : Int) : Nat → Int
  | 0 => 0
  | i + 1 => hor l p i * p + l.getD i 0
theorem fn_law_at (T : Tx C) {l : List Int} {p : Int} (hl : l.length ≤ 1000) (hp : p.natAbs < 2 ^ 60) : Fn C 1 (.fn (C.ad 53)) [.ints l, .int p] (.int (hor l.reverse p l.length)) := by
  have hmul : ∀ a : Int, IntMulOk a p := fun a => .of_right (intBits_le_iff.mpr (by lia))
  refine Fn.defK T (ps := [Str.ofString "row", Str.ofString "point"]) rfl rfl (by kernel_rfl) (by walk_at "bind") rfl (by decide +kernel) ?_
  dsimp only [List.zip, List.zipWith]
  refine Ex.seq (Ex1.post (σ' := [(Str.ofString "found", .int (hor l.reverse p 0)), (Str.ofString "row", .ints l), (Str.ofString "point", .int p)]) (Ex1.assign (by walk_at "v") (by walk_at "sto")) (.cons' rfl (by rw [hor]) (.cons rfl (.cons rfl .nil)))) ?_
  refine Ex.seq (Ex1.for_ T.ok (EvIt.list T.ok (by walk_at "evs")) (by rfl) (ForR.each (m := l.length) (fun i => [(Str.ofString "found", .int (hor l.reverse p i)), (Str.ofString "row", .ints l), (Str.ofString "point", .int p)])
    (fun _ => none) (by intro _; walk_at "sto") (fun i hi => ⟨_, Ex.seq (Ex1.assign (by walk_at "v"; exact hmul _) (by walk_at "sto")) Ex.nil, .cons' rfl (by rw [hor]) (.cons rfl (.cons rfl .nil))⟩) (by rw [List.length_reverse]))) ?_
  exact Ex.rete T.ok (by walk_at "evs") rfl

theorem fn_law_value (T : Tx C) {w x : Nat} (hw : W w) (hx : x < lid) : Fn C 2 (.fn (C.ad 48)) [N w x, .int w] (.int x) := by
  have lx := len_le hw hx
  have hB := hw.B
  have hb1 := hw.bits
  have hw1 := hw.lo
  have hw2 := hw.hi
  have h2w : (0 : Int) < ((2 ^ w : Nat) : Int) := by lia
  have hdx : ∀ i, (dg (2 ^ w) x).getD i 0 = ((x / (2 ^ w) ^ i % (2 ^ w) : Nat) : Int) := dg_getD hB x
  refine Fn.defK T (ps := [Str.ofString "limbs", Str.ofString "w"]) rfl rfl (by kernel_rfl) (by walk_at "bind") rfl (by decide +kernel) ?_
  dsimp only [List.zip, List.zipWith]
  have hlast := (dg_len hB x).1
  have hlow := (dg_len hB x).2
  have hnil := dg_nil hB (x := x)
  generalize hn : (dg (2 ^ w) x).length = nn at *
  refine Ex.seq (Ex1.post (σ' := [(Str.ofString "found", .int ((x / (2 ^ w) ^ (nn - 0) : Nat) : Int)), (Str.ofString "limbs", N w x), (Str.ofString "w", .int w)]) (Ex1.assign (by walk_at "v") (by walk_at "sto")) (.cons' rfl (by rw [Nat.sub_zero, Nat.div_eq_of_lt hlast]; rfl) (.cons rfl (.cons rfl .nil)))) ?_
  refine Ex.seq (Ex1.for_ T.ok (EvIt.list T.ok (by walk_at "evs")) (by rfl) (ForR.each (m := nn) (fun i => [(Str.ofString "found", .int ((x / (2 ^ w) ^ (nn - i) : Nat) : Int)), (Str.ofString "limbs", N w x), (Str.ofString "w", .int w)])
    (fun _ => none) (by intro _; walk_at "sto") (fun i hi => ?_) (by rw [List.length_reverse, hn]))) ?_
  · have hl : (dg (2 ^ w) x).reverse.getD i 0 = ((x / (2 ^ w) ^ (nn - (i + 1)) % 2 ^ w : Nat) : Int) := by
      rw [getD_rev (by lia), hn, hdx, show nn - 1 - i = nn - (i + 1) by lia]
    have hst : x / (2 ^ w) ^ (nn - i) = x / (2 ^ w) ^ (nn - (i + 1)) / 2 ^ w := by rw [← div_succ, show nn - (i + 1) + 1 = nn - i by lia]
    have hbt := bits_lid (x := x / (2 ^ w) ^ (nn - i)) (Nat.lt_of_le_of_lt (Nat.div_le_self _ _) hx)
    have hm := Nat.mod_lt (x / (2 ^ w) ^ (nn - (i + 1))) (show 2 ^ w > 0 by lia)
    have hdm := Nat.div_add_mod (x / (2 ^ w) ^ (nn - (i + 1))) (2 ^ w)
    rw [hl]
    generalize x / (2 ^ w) ^ (nn - i) = U at *
    generalize x / (2 ^ w) ^ (nn - (i + 1)) = U' at *
    refine ⟨_, Ex.seq (Ex1.ifF (by walk_at "t") (by rw [shl_one, decide_eq_true (by lia), decide_eq_true (by lia)]; rfl) Ex.nil) (Ex.seq (Ex1.assign (by walk_at "v") (by walk_at "sto")) Ex.nil), .cons' rfl (congrArg V.int ?_) (.cons rfl (.cons rfl .nil))⟩
    rw [Int.toNat_natCast, ← hdm, hst]
    simp [Nat.mul_comm]
    exact Int.mul_comm _ _
  · rw [Nat.sub_self, Nat.pow_zero, Nat.div_one]
    by_cases h0 : x = 0
    · refine Ex.rete T.ok (Ev.iteF T.ok (Et.and (b := false) (c := false) T.ok (Et.cast (by walk_at "evs") (by rw [decide_eq_true (hnil.mpr h0)]; rfl)) (fun q => nomatch q)) rfl (by walk_at "evs")) rfl
    · have hn0 : nn ≠ 0 := fun q => h0 ((dg_len0 hB).mp (hn.trans q))
      have hlo := hlow (nn - 1) (by lia)
      have hdig : x / (2 ^ w) ^ (nn - 1) % 2 ^ w ≠ 0 := by
        rw [Nat.mod_eq_of_lt (Nat.div_lt_of_lt_mul (by rw [← Nat.pow_succ, show (nn - 1).succ = nn by lia]; exact hlast))]
        exact Nat.ne_of_gt (Nat.div_pos hlo (Nat.pow_pos (by lia)))
      refine Ex.rete T.ok (Ev.iteF T.ok (Et.and (b := true) (c := false) T.ok (Et.cast (by walk_at "evs") (by rw [decide_eq_false (fun q => h0 (hnil.mp q))]; rfl)) (fun _ => Et.and1 (Et.cast (by walk_at "evs") ?_))) rfl (by walk_at "evs")) rfl
      rw [hn, show ((nn : Int) - 1).toNat = nn - 1 by lia, hdx]
      simp only [beq_eq_false_iff_ne]
      lia
end
-- A5

def lmQ (B i P c y j : Nat) : Nat := P + B ^ i * (c * (y % B ^ j))
def lmF (B L i P c y j : Nat) : List Int := pad B (i + j) (lmQ B i P c y j) ++ pad B (L - (i + j)) (P / B ^ (i + j))
def lmC (B i P c y j : Nat) : Int := (lmQ B i P c y j / B ^ (i + j) : Nat) - (P / B ^ (i + j) : Nat)
theorem lmF_length {B L i P c y j : Nat} (h : i + j ≤ L) : (lmF B L i P c y j).length = L := by rw [lmF, List.length_append, pad_length, pad_length]; lia
theorem lmF_zero {B L i P c y : Nat} (h : i ≤ L) : lmF B L i P c y 0 = pad B L P := by
  rw [lmF, lmQ, Nat.pow_zero, Nat.mod_one, Nat.mul_zero, Nat.mul_zero, Nat.add_zero, Nat.add_zero, ← pad_append, Nat.add_sub_cancel' h]
theorem lmC_zero {B i P c y : Nat} : lmC B i P c y 0 = 0 := by
  rw [lmC, lmQ, Nat.pow_zero, Nat.mod_one, Nat.mul_zero, Nat.mul_zero, Nat.add_zero]; lia
theorem lmF_get {B L i P c y j : Nat} (h : i + j < L) : (lmF B L i P c y j).getD (i + j) 0 = ((P / B ^ (i + j) % B : Nat) : Int) := by
  rw [lmF, List.getD_eq_getElem?_getD, List.getElem?_append_right (by rw [pad_length]; lia), pad_length, Nat.sub_self, ← List.getD_eq_getElem?_getD, pad_getD _ _ _ (by lia), Nat.pow_zero, Nat.div_one]
theorem lmQ_succ (B i P c y j : Nat) : lmQ B i P c y (j + 1) = lmQ B i P c y j + B ^ (i + j) * (c * (y / B ^ j % B)) := by
  rw [lmQ, lmQ, Nat.mod_pow_succ, Nat.pow_add]
  grind
theorem lm_step {B i P c y j : Nat} (hB : 0 < B) : (lmC B i P c y j + (P / B ^ (i + j) % B : Nat) + c * (y / B ^ j % B : Nat)) % (B : Int) = (lmQ B i P c y (j + 1) / B ^ (i + j) % B : Nat) ∧
    (lmC B i P c y j + (P / B ^ (i + j) % B : Nat) + c * (y / B ^ j % B : Nat)) / (B : Int) = lmC B i P c y (j + 1) := by
  have hp : 0 < B ^ (i + j) := Nat.pow_pos hB
  have h1 : lmQ B i P c y (j + 1) / B ^ (i + j) = lmQ B i P c y j / B ^ (i + j) + c * (y / B ^ j % B) := by rw [lmQ_succ, Nat.add_mul_div_left _ _ hp]
  have h2 := split_at P B (i + j)
  have h3 := split_at (lmQ B i P c y (j + 1)) B (i + j)
  have h4 := Nat.mod_lt (lmQ B i P c y (j + 1) / B ^ (i + j)) hB
  have h5 : ((lmQ B i P c y (j + 1) / B ^ (i + j) : Nat) : Int) = (lmQ B i P c y j / B ^ (i + j) : Nat) + (c : Int) * (y / B ^ j % B : Nat) := by rw [h1, Int.natCast_add, Int.natCast_mul]
  refine dm (by lia) ?_ (by lia) (by lia)
  unfold lmC
  rw [← Nat.add_assoc, Int.mul_sub]
  lia
theorem pad_congr {B i x y : Nat} (hB : 0 < B) (h : x % B ^ i = y % B ^ i) : pad B i x = pad B i y := by rw [← pad_mod hB i x, ← pad_mod hB i y, h]
theorem lmF_set {B L i P c y j : Nat} (hB : 0 < B) (h : i + j < L) : (lmF B L i P c y j).set (i + j) (lmQ B i P c y (j + 1) / B ^ (i + j) % B : Nat) = lmF B L i P c y (j + 1) := by
  have e1 : pad B (i + j) (lmQ B i P c y (j + 1)) = pad B (i + j) (lmQ B i P c y j) := pad_congr hB (by rw [lmQ_succ, Nat.add_mul_mod_self_left])
  obtain ⟨r, hr⟩ : ∃ r, L - (i + j) = r + 1 := ⟨L - (i + j) - 1, by lia⟩
  rw [lmF, lmF, List.set_append_right _ _ (by rw [pad_length]; lia), pad_length, Nat.sub_self, hr, pad, List.set_cons_zero, ← Nat.add_assoc, pad_succ, e1, show L - (i + j + 1) = r by lia, div_succ, List.append_assoc]
  rfl
/-- a row's end -/
theorem lmF_last {B L i x y lb : Nat} (hB : 0 < B) (h : i + lb < L) (hy : y < B ^ lb) :
    (lmF B L i (x % B ^ i * y) (x / B ^ i % B) y lb).set (i + lb) (lmC B i (x % B ^ i * y) (x / B ^ i % B) y lb) = pad B L (x % B ^ (i + 1) * y) := by
  have hp : 0 < B ^ i := Nat.pow_pos hB
  have hm := Nat.mod_lt x hp
  have hQ : lmQ B i (x % B ^ i * y) (x / B ^ i % B) y lb = x % B ^ (i + 1) * y := by
    rw [lmQ, Nat.mod_eq_of_lt hy, Nat.mod_pow_succ]; grind
  have hlt : x % B ^ i * y < B ^ (i + lb) := by rw [Nat.pow_add]; exact Nat.mul_lt_mul'' hm hy
  have hlt2 : x % B ^ (i + 1) * y < B ^ (i + lb + 1) := by
    rw [show i + lb + 1 = (i + 1) + lb by lia, Nat.pow_add B (i + 1) lb]
    exact Nat.mul_lt_mul'' (show x % B ^ (i + 1) < B ^ (i + 1) from Nat.mod_lt x (Nat.pow_pos hB)) hy
  obtain ⟨r, hr⟩ : ∃ r, L - (i + lb) = r + 1 := ⟨L - (i + lb) - 1, by lia⟩
  have hc : lmC B i (x % B ^ i * y) (x / B ^ i % B) y lb = ((x % B ^ (i + 1) * y / B ^ (i + lb) % B : Nat) : Int) := by
    rw [lmC, hQ, Nat.div_eq_of_lt hlt, Nat.mod_eq_of_lt (Nat.div_lt_of_lt_mul (by rw [← Nat.pow_succ]; exact hlt2))]; lia
  rw [hc, lmF, hQ, Nat.div_eq_of_lt hlt, List.set_append_right _ _ (by rw [pad_length]; lia), pad_length, Nat.sub_self, hr, pad, List.set_cons_zero]
  have e : pad B L (x % B ^ (i + 1) * y) = pad B ((i + lb + 1) + r) (x % B ^ (i + 1) * y) := by rw [show i + lb + 1 + r = L by lia]
  rw [e, pad_append B (i + lb + 1) r, pad_succ B (i + lb), Nat.div_eq_of_lt hlt2, List.append_assoc, Nat.zero_div]
  rfl
-- F17
section
variable {C : Cx} {n : Nat} {sc : Names} {σ σ' : Sto} {own own' : Option (Str × List Int)}

theorem ForR2.enumI {x y : Str} {body : List Stmt} {ns : List Int} {m : Nat} (τ : Nat → Sto) (ow : Nat → Option (Str × List Int)) (hx : ∀ i, Storable sc (ow i) x) (hy : ∀ i, Storable sc (ow i) y)
    (h : ∀ i, i < m → ∃ τ1, Ex C n sc ((y, .int (ns.getD i 0)) :: (x, .int (i : Int)) :: τ i) (ow i) body (.next τ1 (ow (i + 1))) ∧ Sub (τ (i + 1)) τ1) (hk : ns.length = m) :
    ForR2 C n sc x y body (((List.range (ns.map V.int).length).map fun i : Nat => V.int i).zip (ns.map V.int)) (τ 0) (ow 0) (.next (τ m) (ow m)) := by
  subst hk
  have := ForR2.inv (C := C) (n := n) (sc := sc) (body := body) (((List.range (ns.map V.int).length).map fun i : Nat => V.int i).zip (ns.map V.int)) τ ow hx hy fun i d d2 hd => by
    rw [List.getElem?_zip_eq_some] at hd
    obtain ⟨h1, h2⟩ := hd
    rw [List.getElem?_map, Option.map_eq_some_iff] at h2
    obtain ⟨j, hj, rfl⟩ := h2
    have hi : i < ns.length := by
      rcases Nat.lt_or_ge i ns.length with q | q
      · exact q
      · rw [List.getElem?_eq_none q] at hj; cases hj
    rw [List.getElem?_map, List.getElem?_range (by simpa using hi)] at h1
    cases h1
    have := h i hi
    rwa [List.getD_eq_getElem?_getD, hj] at this
  rwa [show (((List.range (ns.map V.int).length).map fun i : Nat => V.int i).zip (ns.map V.int)).length = ns.length by simp] at this

set_option maxHeartbeats 1000000 in
theorem fn_law_mul (T : Tx C) {w x y : Nat} (hw : W w) (hx : x < lid) (hy : y < lid) : Fn C 2 (.fn (C.ad 49)) [N w x, N w y, .int w] (N w (x * y)) := by
  have lx := len_le hw hx
  have ly := len_le hw hy
  have hB := hw.B
  have hB9 := hw.B9
  have hb1 := hw.bits
  have hw1 := hw.lo
  have hw2 := hw.hi
  have h2w : (0 : Int) < ((2 ^ w : Nat) : Int) := by lia
  have pl := pad_length (2 ^ w)
  have hdx : ∀ i, (dg (2 ^ w) x).getD i 0 = ((x / (2 ^ w) ^ i % (2 ^ w) : Nat) : Int) := dg_getD hB x
  have hdy : ∀ i, (dg (2 ^ w) y).getD i 0 = ((y / (2 ^ w) ^ i % (2 ^ w) : Nat) : Int) := dg_getD hB y
  have hlx := (dg_len hB x).1
  have hly := (dg_len hB y).1
  refine Fn.defK T (ps := [Str.ofString "a", Str.ofString "b", Str.ofString "w"]) rfl rfl (by kernel_rfl) (by walk_at "bind") rfl (by decide +kernel) ?_
  dsimp only [List.zip, List.zipWith]
  generalize hla : (dg (2 ^ w) x).length = la at *
  generalize hlb : (dg (2 ^ w) y).length = lb at *
  have hxla : x % (2 ^ w) ^ la = x := Nat.mod_eq_of_lt hlx
  refine Ex.seq (Ex1.ownc (ns' := pad (2 ^ w) (la + lb) (x % (2 ^ w) ^ 0 * y)) (Ex1.assignOwn T.ok (EvNew.rep T.ok .cint (by walk_at "evs") (by lia) (by lia)) rfl rfl) ?_) ?_
  · rw [Nat.pow_zero, Nat.mod_one, Nat.zero_mul, pad_zero, hla, hlb]; rfl
  refine Ex.seq (Ex1.for2 T.ok (EvIt2.enum T.ok (.bt T rfl (by simp [btab]) bv_enumerate) (by walk_at "evs")) (by rfl) (by rfl) (ForR2.enumI (m := la) (fun i => [(Str.ofString "a", N w x), (Str.ofString "b", N w y), (Str.ofString "w", .int w)])
    (fun i => some (Str.ofString "found", pad (2 ^ w) (la + lb) (x % (2 ^ w) ^ i * y))) (by intro _; walk_at "sto") (by intro _; walk_at "sto") (fun i hi => ?_) hla)) ?_
  · rw [hdx]
    have hc := Nat.mod_lt (x / (2 ^ w) ^ i) (show 2 ^ w > 0 by lia)
    have hlast := lmF_last (B := 2 ^ w) (L := la + lb) (i := i) (x := x) (y := y) (lb := lb) (by lia) (by lia) hly
    have hz := lmF_zero (B := 2 ^ w) (L := la + lb) (i := i) (P := x % (2 ^ w) ^ i * y) (c := x / (2 ^ w) ^ i % 2 ^ w) (y := y) (by lia)
    rw [← hz]
    generalize x % (2 ^ w) ^ i * y = P at *
    generalize x / (2 ^ w) ^ i % 2 ^ w = c at *
    refine ⟨_, Ex.ownc (Ex.seq (Ex1.post (σ' := [(Str.ofString "carry", .int (lmC (2 ^ w) i P c y 0)), (Str.ofString "one", .int c), (Str.ofString "at", .int i), (Str.ofString "a", N w x), (Str.ofString "b", N w y), (Str.ofString "w", .int w)]) (Ex1.assign (by walk_at "v") (by walk_at "sto")) (.cons' rfl (by rw [lmC_zero]) (.cons rfl (.cons rfl (.cons rfl (.cons rfl (.cons rfl .nil)))))))
      (Ex.seq (Ex1.for2 T.ok (EvIt2.enum T.ok (.bt T rfl (by simp [btab]) bv_enumerate) (by walk_at "evs")) (by rfl) (by rfl) (ForR2.enumI (m := lb) (fun j => [(Str.ofString "carry", .int (lmC (2 ^ w) i P c y j)), (Str.ofString "one", .int c), (Str.ofString "at", .int i), (Str.ofString "a", N w x), (Str.ofString "b", N w y), (Str.ofString "w", .int w)])
        (fun j => some (Str.ofString "found", lmF (2 ^ w) (la + lb) i P c y j)) (by intro _; walk_at "sto") (by intro _; walk_at "sto") (fun j hj => ?_) hlb))
      (Ex.seq (Ex1.setItem (z := lmC (2 ^ w) i P c y lb) (j := ((i + lb : Nat) : Int)) T.ok (by walk_at "v") (.cast (by walk_at "v") (congrArg V.int (by rw [hlb]; lia))) (by lia) (by rw [lmF_length (by lia)]; lia) (by rw [lmF_length (by lia)]; lia)) Ex.nil))) ?_, .cons rfl (.cons rfl (.cons rfl .nil))⟩
    · rw [hdy]
      have hst := lm_step (B := 2 ^ w) (i := i) (P := P) (c := c) (y := y) (j := j) (by lia)
      have hget := lmF_get (B := 2 ^ w) (L := la + lb) (i := i) (P := P) (c := c) (y := y) (j := j) (by lia)
      have hset := lmF_set (B := 2 ^ w) (L := la + lb) (i := i) (P := P) (c := c) (y := y) (j := j) (by lia) (by lia)
      have hlen := lmF_length (B := 2 ^ w) (L := la + lb) (i := i) (P := P) (c := c) (y := y) (j := j) (by lia)
      refine ⟨_, Ex.ownc (Ex.seq (Ex1.assign (d := .int (lmC (2 ^ w) i P c y j + (P / (2 ^ w) ^ (i + j) % 2 ^ w : Nat) + c * (y / (2 ^ w) ^ j % 2 ^ w : Nat))) (EvO.cast (EvO.vis (d := .int _) T.ok (by walk_at "evs")) (by rw [show ((i : Int) + (j : Int)).toNat = i + j by lia, hget])) (by walk_at "sto"))
        (Ex.seq (Ex1.setItem (z := ((lmQ (2 ^ w) i P c y (j + 1) / (2 ^ w) ^ (i + j) % 2 ^ w : Nat) : Int)) (j := ((i + j : Nat) : Int)) T.ok (.cast (by
            walk_at "v"
            rw [shl_one]; exact h2w) (by rw [shl_one, hst.1])) (.cast (by walk_at "v") (congrArg V.int (by lia))) (by lia) (by lia) (by lia))
        (Ex.seq (Ex1.assign (by walk_at "v") (by walk_at "sto")) Ex.nil))) ?_, .cons' rfl ?_ (.cons rfl (.cons rfl (.cons rfl (.cons rfl (.cons rfl .nil)))))⟩
      · exact hset
      · rw [shr_div, hst.2]
    · exact hlast
  rw [hxla]
  have hxy : x * y < (2 ^ w) ^ (la + lb) := by rw [Nat.pow_add]; exact Nat.mul_lt_mul'' hlx hly
  have hlow := (dg_len hB (x * y)).2
  have hup := (dg_len hB (x * y)).1
  have hnil := dg_nil hB (x := x * y)
  have hll := (dg_len_le hB).mpr hxy
  have hispad := dg_is_pad hB (x * y)
  generalize x * y = P at *
  generalize hlp : (dg (2 ^ w) P).length = lp at *
  refine Ex.seq (Ex1.while_ (WhileR.run (la + lb - lp) (fun i => [(Str.ofString "a", N w x), (Str.ofString "b", N w y), (Str.ofString "w", .int w)]) (fun i => some (Str.ofString "found", pad (2 ^ w) (la + lb - i) P))
    (fun i hi => ?_) ?_)) ?_
  · have hlen := pl (la + lb - i) P
    have hne : pad (2 ^ w) (la + lb - i) P ≠ [] := fun q => by rw [q] at hlen; simp at hlen; lia
    refine ⟨EtO.vis T.ok (Et.and (b := true) (c := true) T.ok (Et.cast (by walk_at "evs") (by rw [decide_eq_false hne]; rfl)) (fun _ => Et.and1 (Et.cast (by walk_at "evs") ?_))), _, Ex.ownc (Ex.seq (Ex1.pop hne (by lia)) Ex.nil) ?_, .cons rfl (.cons rfl (.cons rfl .nil))⟩
    · rw [hlen, show (((la + lb - i : Nat) : Int) - 1).toNat = la + lb - i - 1 by lia, pad_getD _ _ _ (by lia), Nat.div_eq_of_lt (Nat.lt_of_lt_of_le hup (Nat.pow_le_pow_right (by lia) (by lia)))]
      simp
    · rw [show la + lb - i = (la + lb - (i + 1)) + 1 by lia, pad_succ, List.dropLast_concat]
  · rw [show la + lb - (la + lb - lp) = lp by lia]
    rw [← hispad]
    by_cases h0 : P = 0
    · exact EtO.vis T.ok (Et.and (b := false) (c := false) T.ok (Et.cast (by walk_at "evs") (by rw [decide_eq_true (hnil.mpr h0)]; rfl)) (fun q => nomatch q))
    · have hn0 : lp ≠ 0 := fun q => h0 ((dg_len0 hB).mp (hlp.trans q))
      have hlo := hlow (lp - 1) (by lia)
      have hdig : P / (2 ^ w) ^ (lp - 1) % 2 ^ w ≠ 0 := by
        rw [Nat.mod_eq_of_lt (Nat.div_lt_of_lt_mul (by rw [← Nat.pow_succ, show (lp - 1).succ = lp by lia]; exact hup))]
        exact Nat.ne_of_gt (Nat.div_pos hlo (Nat.pow_pos (by lia)))
      refine EtO.vis T.ok (Et.and (b := true) (c := false) T.ok (Et.cast (by walk_at "evs") (by rw [decide_eq_false (fun q => h0 (hnil.mp q))]; rfl)) (fun _ => Et.and1 (Et.cast (by walk_at "evs") ?_)))
      rw [hlp, show ((lp : Int) - 1).toNat = lp - 1 by lia, dg_getD hB]
      simp only [beq_eq_false_iff_ne]
      lia
  · refine Ex.retV' T.ok (by walk_at "evs") ?_
    rw [show la + lb - (la + lb - lp) = lp by lia, ← hispad]
theorem fn_law_sqr (T : Tx C) {w x : Nat} (hw : W w) (hx : x < lid) : Fn C 3 (.fn (C.ad 50)) [N w x, .int w] (N w (x * x)) := by
  have g := fn_law_mul T hw hx hx
  refine Fn.defK T (ps := [Str.ofString "a", Str.ofString "w"]) rfl rfl (by kernel_rfl) (by walk_at "bind") rfl (by decide +kernel) ?_
  dsimp only [List.zip, List.zipWith]
  exact Ex.rete T.ok (by walk_at "evs") rfl
end
-- F18
section
variable {C : Cx} {n : Nat} {sc : Names} {σ σ' : Sto} {own own' : Option (Str × List Int)}

def fnd (B : Nat) (f : Nat → Nat) : Nat → Nat
  | 0 => 0
  | i + 1 => fnd B f i * B + f i
theorem fnd_lt {B : Nat} {f : Nat → Nat} (h : ∀ i, f i < B) : ∀ i, fnd B f i < B ^ i
  | 0 => by simp [fnd]
  | i + 1 => by
    have h1 := fnd_lt h i
    have h2 := h i
    rw [fnd, Nat.pow_succ]
    have : (fnd B f i + 1) * B ≤ B ^ i * B := Nat.mul_le_mul_right _ h1
    rw [Nat.add_mul] at this
    lia
theorem pick4 (a b c d : Int) {k : Nat} (h : k < 4) : ([.int a, .int b, .int c, .int d] : List V)[k]? = some (.int ([a, b, c, d].getD k 0)) := by
  rcases k with _ | _ | _ | _ | k
  · rfl
  · rfl
  · rfl
  · rfl
  · lia
def numF (l : List Int) (a : Nat) : Int := l.getD ((a : Int) % (l.length : Int)).toNat 0 + 31 * (a : Int)
def limbF (l : List Int) (w a : Nat) : Nat := ([numF l a / 3, 1 * 2 ^ ((w : Int)).toNat - 1, 0, numF l a / 5].getD (numF l a % 4).toNat 0 % ((2 ^ w : Nat) : Int)).toNat
theorem limbF_lt {l : List Int} {w a : Nat} : limbF l w a < 2 ^ w := by
  have hp : 0 < 2 ^ w := Nat.pow_pos (by lia)
  have := Int.emod_lt_of_pos ([numF l a / 3, 1 * 2 ^ ((w : Int)).toNat - 1, 0, numF l a / 5].getD (numF l a % 4).toNat 0) (show (0 : Int) < ((2 ^ w : Nat) : Int) by lia)
  unfold limbF
  lia
theorem fn_law_number (T : Tx C) {w b : Nat} {l : List Int} (hw : W w) (hl : 0 < l.length) (hl2 : l.length ≤ 1000) (hb : b ≤ 10) : ∃ r : Nat, r < (2 ^ w) ^ 9 ∧ Fn C 2 (.fn (C.ad 51)) [.ints l, .int b, .int w] (.int r) := by
  have hB := hw.B
  have hb1 := hw.bits
  have hw1 := hw.lo
  have hw2 := hw.hi
  have h2w : (0 : Int) < ((2 ^ w : Nat) : Int) := by lia
  obtain ⟨m, hm⟩ : ∃ m : Nat, (m : Int) = 1 + l.getD ((b : Int) % (l.length : Int)).toNat 0 % 9 := ⟨(1 + l.getD ((b : Int) % (l.length : Int)).toNat 0 % 9).toNat, by lia⟩
  have hm9 : m ≤ 9 := by lia
  have hflt := fun i => fnd_lt (f := fun i => limbF l w (b + i)) (fun i => limbF_lt) i
  refine ⟨fnd (2 ^ w) (fun i => limbF l w (b + i)) m, Nat.lt_of_lt_of_le (hflt m) (Nat.pow_le_pow_right (by lia) hm9), ?_⟩
  have hlid : ∀ i, i ≤ 9 → fnd (2 ^ w) (fun i => limbF l w (b + i)) i < lid := fun i hi => by
    refine Nat.lt_of_lt_of_le (hflt i) ?_
    show _ ≤ 2 ^ 3000
    rw [← Nat.pow_mul]
    exact Nat.pow_le_pow_right (by lia) (Nat.le_trans (Nat.mul_le_mul hw2 hi) (by lia))
  have c1 := fun a : Nat => Int.emod_nonneg (a : Int) (show (l.length : Int) ≠ 0 by lia)
  have c2 := fun a : Nat => Int.emod_lt_of_pos (a : Int) (show (0 : Int) < (l.length : Int) by lia)
  have c1b := c1 b
  have c2b := c2 b
  refine Fn.defK T (ps := [Str.ofString "some", Str.ofString "begin_at", Str.ofString "w"]) rfl rfl (by kernel_rfl) (by walk_at "bind") rfl (by decide +kernel) ?_
  dsimp only [List.zip, List.zipWith]
  refine Ex.seq (Ex1.post (σ' := [(Str.ofString "found", .int (fnd (2 ^ w) (fun i => limbF l w (b + i)) 0 : Nat)), (Str.ofString "some", .ints l), (Str.ofString "begin_at", .int b), (Str.ofString "w", .int w)]) (Ex1.assign (by walk_at "v") (by walk_at "sto")) (.cons' rfl (by rw [fnd]; rfl) (.cons rfl (.cons rfl (.cons rfl .nil))))) ?_
  refine Ex.seq (Ex1.for_ T.ok (by walk_at "it") (by rfl) (ForR.up (s := b) (m := m) (fun i => [(Str.ofString "found", .int (fnd (2 ^ w) (fun i => limbF l w (b + i)) i : Nat)), (Str.ofString "some", .ints l), (Str.ofString "begin_at", .int b), (Str.ofString "w", .int w)])
    (fun _ => none) (by intro _; walk_at "sto") (fun i hi => ?_) (by rfl) (by lia))) ?_
  · have d1 := c1 (b + i)
    have d2 := c2 (b + i)
    have hbt := bits_lid (hlid i (by lia))
    have hlim : ([numF l (b + i) / 3, 1 * 2 ^ ((w : Int)).toNat - 1, 0, numF l (b + i) / 5].getD (numF l (b + i) % 4).toNat 0 % (1 * 2 ^ ((w : Int)).toNat)) = ((limbF l w (b + i) : Nat) : Int) := by
      have := Int.emod_nonneg ([numF l (b + i) / 3, 1 * 2 ^ ((w : Int)).toNat - 1, 0, numF l (b + i) / 5].getD (numF l (b + i) % 4).toNat 0) (show ((2 ^ w : Nat) : Int) ≠ 0 by lia)
      rw [limbF, shl_one]
      rw [Int.toNat_of_nonneg]
      rwa [shl_one] at this
    refine ⟨_, Ex.seq (Ex1.assign (d := .int (numF l (b + i))) (.cast (by walk_at "v") (by rfl)) (by walk_at "sto")) (Ex.seq (Ex1.assign (d := .int (limbF l w (b + i) : Nat)) (.cast (.sh T.ok (Ev.bin T.ok (Ev.item (d := .int ([numF l (b + i) / 3, 1 * 2 ^ ((w : Int)).toNat - 1, 0, numF l (b + i) / 5].getD (numF l (b + i) % 4).toNat 0)) T.ok (by walk_at "evs") (by walk_at "evs") (by lia) (by lia) (pick4 _ _ _ _ (by lia))) (by walk_at "evs") (Bop.mod (by rw [shl_one]; exact h2w)))) (congrArg V.int hlim)) (by walk_at "sto")) (Ex.seq (Ex1.assign (by walk_at "v") (by walk_at "sto")) Ex.nil)),
      .cons' rfl (congrArg V.int ?_) (.cons rfl (.cons rfl (.cons rfl .nil)))⟩
    rw [Int.toNat_natCast, fnd, Int.natCast_add, Int.natCast_mul, Int.natCast_pow]
    rfl
  · exact Ex.rete T.ok (by walk_at "evs") rfl
end
-- PW
section
variable {C : Cx} {n : Nat} {sc : Names} {σ σ' : Sto} {own own' : Option (Str × List Int)}

/-- a comprehension over a short source -/
theorem compL_el {sc' : Names} {x : Str} {σc : Sto} {elt : Expr} {cs : List (V × V)} (h : ∀ p ∈ cs, Ev C n sc' ((x, p.1) :: σc) elt p.2) : ∀ (i : Nat) (d : V), (cs.map (·.1))[i]? = some d → ∃ r, (cs.map (·.2))[i]? = some r ∧ Ev C n sc' ((x, d) :: σc) elt r := fun i d hd => by
  rw [List.getElem?_map, Option.map_eq_some_iff] at hd
  obtain ⟨p, hp, rfl⟩ := hd
  exact ⟨p.2, by rw [List.getElem?_map, hp]; rfl, h p (List.mem_of_getElem? hp)⟩
theorem compL_el2 {sc' : Names} {x y : Str} {σc : Sto} {elt : Expr} {cs : List ((V × V) × V)} (h : ∀ p ∈ cs, Ev C n sc' ((y, p.1.2) :: (x, p.1.1) :: σc) elt p.2) : ∀ (i : Nat) (d d2 : V), (cs.map (·.1))[i]? = some (d, d2) → ∃ r, (cs.map (·.2))[i]? = some r ∧ Ev C n sc' ((y, d2) :: (x, d) :: σc) elt r := fun i d d2 hd => by
  rw [List.getElem?_map, Option.map_eq_some_iff] at hd
  obtain ⟨p, hp, e⟩ := hd
  have := h p (List.mem_of_getElem? hp)
  rw [e] at this
  exact ⟨p.2, by rw [List.getElem?_map, hp]; rfl, this⟩
theorem Ev.compL {elt iter : Expr} {x : Str} {px pos : Pos} {scope : Scope} {σc : Sto} (cs : List (V × V)) (ok : C.Ok) (hit : EvIt C n sc σ iter (cs.map (·.1))) (ck : CompOk sc σ scope σc) (hx : scope.names.lookup x = some .local)
    (h : ∀ p ∈ cs, Ev C n (compNames sc scope.names) ((x, p.1) :: σc) elt p.2) (hz : cs.length ≤ 1000) (hfold : ∀ env x, foldedSetIterable iter env x = pure x := by intro _ _; with_unfolding_all rfl) : Ev C n sc σ (.ListComp elt [⟨.Name x px, iter, [], 0⟩] scope pos) (.list (cs.map (·.2))) :=
  Ev.comp ok hit ck hx (compL_el h) (by simp) (by simp; omega) hfold
theorem Ev.compL2 {elt iter : Expr} {x y : Str} {px py pt pos : Pos} {kt : Nat} {scope : Scope} {σc : Sto} (cs : List ((V × V) × V)) (ok : C.Ok) (hit : EvIt2 C n sc σ iter (cs.map (·.1))) (ck : CompOk sc σ scope σc) (hx : scope.names.lookup x = some .local) (hy : scope.names.lookup y = some .local)
    (h : ∀ p ∈ cs, Ev C n (compNames sc scope.names) ((y, p.1.2) :: (x, p.1.1) :: σc) elt p.2) (hz : cs.length ≤ 1000) (hfold : ∀ env x, foldedSetIterable iter env x = pure x := by intro _ _; with_unfolding_all rfl) : Ev C n sc σ (.ListComp elt [⟨.Tuple [.Name x px, .Name y py] kt pt, iter, [], 0⟩] scope pos) (.list (cs.map (·.2))) :=
  Ev.comp2 ok hit ck hx hy (compL_el2 h) (by simp) (by simp; omega) hfold
theorem Ex1.assignCompL {elt iter : Expr} {x y : Str} {px py pos spos : Pos} {scope : Scope} {σc : Sto} (cs : List (V × V)) (ok : C.Ok) (hit : EvIt C n sc σ iter (cs.map (·.1))) (ck : CompOk sc σ scope σc) (hx : scope.names.lookup x = some .local)
    (h : ∀ p ∈ cs, Ev C n (compNames sc scope.names) ((x, p.1) :: σc) elt p.2) (hz : cs.length ≤ 1000) (hsy : Storable sc own y)
    (hsw : ∀ env, EnvFor sc env → swapsWith (.ListComp elt [⟨.Name x px, iter, [], 0⟩] scope pos) (some (.Name y py)) spos.line env = pure true)
    (hfold : ∀ env x, foldedSetIterable iter env x = pure x := by intro _ _; with_unfolding_all rfl) : Ex1 C n sc σ own (.Assign [.Name y py] (.ListComp elt [⟨.Name x px, iter, [], 0⟩] scope pos) spos) (.next ((y, .list (cs.map (·.2))) :: σ) own) :=
  Ex1.assignComp ok hit ck hx (compL_el h) (by simp) (by simp; omega) hsy hsw hfold
theorem lay_S (k w : Nat) (z : Int) : (S w z).lay (k + 2) = true := by
  have h := lay_ints k (dg (2 ^ w) z.natAbs)
  show ((V.lay (k + 1) (.bool (decide (z < 0)))) && ((V.lay (k + 1) (V.ints (dg (2 ^ w) z.natAbs))) && true)) = true
  rw [h]
  rfl
theorem lay_N (k w : Nat) (x : Nat) : (N w x).lay (k + 1) = true := lay_ints k _
end
-- F19
section
variable {C : Cx} {n : Nat} {sc : Names} {σ σ' : Sto} {own own' : Option (Str × List Int)}

theorem lay_list {k : Nat} {l : List V} (h : ∀ d ∈ l, d.lay k = true) : (V.list l).lay (k + 1) = true := by simpa [V.lay] using h
theorem lay_tup {k : Nat} {l : List V} (h : ∀ d ∈ l, d.lay k = true) : (V.tup l).lay (k + 1) = true := by simpa [V.lay] using h
theorem lay_Ns {k w : Nat} {l : List Nat} : (V.list (l.map (N w))).lay (k + 2) = true := lay_list (fun d hd => by
  obtain ⟨x, _, rfl⟩ := List.mem_map.mp hd
  exact lay_N k w x)
theorem horner_lt {r t Q k : Nat} (h : r < Q) (h2 : t < Q ^ k) : r + Q * t < Q ^ (k + 1) := by
  rw [Nat.pow_succ, Nat.mul_comm _ Q]
  have := Nat.mul_le_mul_left Q (show t + 1 ≤ Q ^ k from h2)
  rw [Nat.mul_add, Nat.mul_one] at this
  lia
theorem rows_eo0 (a b c d e f g : Nat) : eo [a, b, c, d, e, f, g] 0 0 7 = a + c + e + g ∧ eo [a, b, c, d, e, f, g] 0 1 7 = b + d + f := by simp [eo]
theorem rows_eo1 (a b c d e f g : Nat) : eo [a, b, c, d, e, f, g] 1 0 7 = a + 4 * c + 16 * e + 64 * g ∧ eo [a, b, c, d, e, f, g] 1 1 7 = 2 * b + 8 * d + 32 * f := by simp [eo]; lia
theorem rows_two (a b c d e f g : Nat) : hn2 [a, b, c, d, e, f, g].reverse 7 = a + 2 * b + 4 * c + 8 * d + 16 * e + 32 * f + 64 * g := by simp [hn2]; lia
theorem rows_half (a b c d e f g : Nat) : hn2 [a, b, c, d, e, f, g] 7 = 64 * a + 32 * b + 16 * c + 8 * d + 4 * e + 2 * f + g := by simp [hn2]; lia

set_option maxHeartbeats 4000000 in
theorem fn_points_right (T : Tx C) {w r0 r1 r2 r3 r4 r5 r6 : Nat} (hw : W w) (h0 : r0 < (2 ^ w) ^ 2) (h1 : r1 < (2 ^ w) ^ 2) (h2 : r2 < (2 ^ w) ^ 2) (h3 : r3 < (2 ^ w) ^ 2) (h4 : r4 < (2 ^ w) ^ 2) (h5 : r5 < (2 ^ w) ^ 2) (h6 : r6 < (2 ^ w) ^ 2) : Fn C 8 (.fn (C.ad 54)) [.ints [(r0 : Int), (r1 : Int), (r2 : Int), (r3 : Int), (r4 : Int), (r5 : Int), (r6 : Int)], .int w] (.bool true) := by
  have hm := mid_lid
  have hb1 := hw.bits
  have hw1 := hw.lo
  have hw2 := hw.hi
  have hQ : (2 ^ w) ^ 2 ≤ 262144 := by
    rw [← Nat.pow_mul]
    exact Nat.le_trans (Nat.pow_le_pow_right (n := 2) (by lia) (show w * 2 ≤ 18 by lia)) (by decide)
  have hmid : 262144 ≤ mid := by
    show 262144 ≤ 2 ^ 2000
    exact Nat.le_trans (show 262144 ≤ 2 ^ 18 by decide) (Nat.pow_le_pow_right (by lia) (by lia))
  have hb2 : (Builtin.Int.intBits 1 : Int) + 2 * (w : Int) ≤ 2 ^ 27 := by
    have e : Builtin.Int.intBits 1 = 1 := by decide +kernel
    rw [e]; lia
  obtain ⟨P1, eP1⟩ : ∃ v : Int, v = (r0 : Int) + (r1 : Int) + (r2 : Int) + (r3 : Int) + (r4 : Int) + (r5 : Int) + (r6 : Int) := ⟨_, rfl⟩
  obtain ⟨N1, eN1⟩ : ∃ v : Int, v = (r0 : Int) - (r1 : Int) + (r2 : Int) - (r3 : Int) + (r4 : Int) - (r5 : Int) + (r6 : Int) := ⟨_, rfl⟩
  obtain ⟨P2, eP2⟩ : ∃ v : Int, v = (r0 : Int) + 2 * (r1 : Int) + 4 * (r2 : Int) + 8 * (r3 : Int) + 16 * (r4 : Int) + 32 * (r5 : Int) + 64 * (r6 : Int) := ⟨_, rfl⟩
  obtain ⟨N2, eN2⟩ : ∃ v : Int, v = (r0 : Int) - 2 * (r1 : Int) + 4 * (r2 : Int) - 8 * (r3 : Int) + 16 * (r4 : Int) - 32 * (r5 : Int) + 64 * (r6 : Int) := ⟨_, rfl⟩
  obtain ⟨A1, eA1⟩ : ∃ v : Int, v = (r0 : Int) + (r1 : Int) + (r2 : Int) + (r3 : Int) + (r4 : Int) := ⟨_, rfl⟩
  obtain ⟨B1, eB1⟩ : ∃ v : Int, v = (r0 : Int) - (r1 : Int) + (r2 : Int) - (r3 : Int) + (r4 : Int) := ⟨_, rfl⟩
  obtain ⟨A2, eA2⟩ : ∃ v : Int, v = (r0 : Int) + 2 * (r1 : Int) + 4 * (r2 : Int) + 8 * (r3 : Int) + 16 * (r4 : Int) := ⟨_, rfl⟩
  obtain ⟨C1, eC1⟩ : ∃ v : Int, v = (r0 : Int) + (r1 : Int) + (r2 : Int) + (r3 : Int) := ⟨_, rfl⟩
  obtain ⟨D1, eD1⟩ : ∃ v : Int, v = (r0 : Int) - (r1 : Int) + (r2 : Int) - (r3 : Int) := ⟨_, rfl⟩
  obtain ⟨H, eH⟩ : ∃ v : Int, v = 64 * (r0 : Int) + 32 * (r1 : Int) + 16 * (r2 : Int) + 8 * (r3 : Int) + 4 * (r4 : Int) + 2 * (r5 : Int) + (r6 : Int) := ⟨_, rfl⟩
  have a1 : Fn C 1 (.fn (C.ad 53)) [.ints [(r0 : Int), (r1 : Int), (r2 : Int), (r3 : Int), (r4 : Int), (r5 : Int), (r6 : Int)], .int (0 : Int)] (.int (r0 : Int)) := (fn_law_at (l := [(r0 : Int), (r1 : Int), (r2 : Int), (r3 : Int), (r4 : Int), (r5 : Int), (r6 : Int)]) (p := (0 : Int)) T (by simp) (by decide)).cast (congrArg V.int (by simp [hor] <;> lia))
  have a2 : Fn C 1 (.fn (C.ad 53)) [.ints [(r0 : Int), (r1 : Int), (r2 : Int), (r3 : Int), (r4 : Int), (r5 : Int), (r6 : Int)], .int (1 : Int)] (.int P1) := (fn_law_at (l := [(r0 : Int), (r1 : Int), (r2 : Int), (r3 : Int), (r4 : Int), (r5 : Int), (r6 : Int)]) (p := (1 : Int)) T (by simp) (by decide)).cast (congrArg V.int (by simp [hor] <;> lia))
  have a3 : Fn C 1 (.fn (C.ad 53)) [.ints [(r0 : Int), (r1 : Int), (r2 : Int), (r3 : Int), (r4 : Int), (r5 : Int), (r6 : Int)], .int (-1 : Int)] (.int N1) := (fn_law_at (l := [(r0 : Int), (r1 : Int), (r2 : Int), (r3 : Int), (r4 : Int), (r5 : Int), (r6 : Int)]) (p := (-1 : Int)) T (by simp) (by decide)).cast (congrArg V.int (by simp [hor] <;> lia))
  have a4 : Fn C 1 (.fn (C.ad 53)) [.ints [(r0 : Int), (r1 : Int), (r2 : Int), (r3 : Int), (r4 : Int), (r5 : Int), (r6 : Int)], .int (2 : Int)] (.int P2) := (fn_law_at (l := [(r0 : Int), (r1 : Int), (r2 : Int), (r3 : Int), (r4 : Int), (r5 : Int), (r6 : Int)]) (p := (2 : Int)) T (by simp) (by decide)).cast (congrArg V.int (by simp [hor] <;> lia))
  have a5 : Fn C 1 (.fn (C.ad 53)) [.ints [(r0 : Int), (r1 : Int), (r2 : Int), (r3 : Int), (r4 : Int), (r5 : Int), (r6 : Int)], .int (-2 : Int)] (.int N2) := (fn_law_at (l := [(r0 : Int), (r1 : Int), (r2 : Int), (r3 : Int), (r4 : Int), (r5 : Int), (r6 : Int)]) (p := (-2 : Int)) T (by simp) (by decide)).cast (congrArg V.int (by simp [hor] <;> lia))
  have a6 : Fn C 1 (.fn (C.ad 53)) [.ints ([(r0 : Int), (r1 : Int), (r2 : Int), (r3 : Int), (r4 : Int), (r5 : Int), (r6 : Int)].take (5 : Int).toNat), .int (0 : Int)] (.int (r0 : Int)) := (fn_law_at (l := [(r0 : Int), (r1 : Int), (r2 : Int), (r3 : Int), (r4 : Int)]) (p := (0 : Int)) T (by simp) (by decide)).cast (congrArg V.int (by simp [hor] <;> lia))
  have a7 : Fn C 1 (.fn (C.ad 53)) [.ints ([(r0 : Int), (r1 : Int), (r2 : Int), (r3 : Int), (r4 : Int), (r5 : Int), (r6 : Int)].take (5 : Int).toNat), .int (1 : Int)] (.int A1) := (fn_law_at (l := [(r0 : Int), (r1 : Int), (r2 : Int), (r3 : Int), (r4 : Int)]) (p := (1 : Int)) T (by simp) (by decide)).cast (congrArg V.int (by simp [hor] <;> lia))
  have a8 : Fn C 1 (.fn (C.ad 53)) [.ints ([(r0 : Int), (r1 : Int), (r2 : Int), (r3 : Int), (r4 : Int), (r5 : Int), (r6 : Int)].take (5 : Int).toNat), .int (-1 : Int)] (.int B1) := (fn_law_at (l := [(r0 : Int), (r1 : Int), (r2 : Int), (r3 : Int), (r4 : Int)]) (p := (-1 : Int)) T (by simp) (by decide)).cast (congrArg V.int (by simp [hor] <;> lia))
  have a9 : Fn C 1 (.fn (C.ad 53)) [.ints ([(r0 : Int), (r1 : Int), (r2 : Int), (r3 : Int), (r4 : Int), (r5 : Int), (r6 : Int)].take (5 : Int).toNat), .int (2 : Int)] (.int A2) := (fn_law_at (l := [(r0 : Int), (r1 : Int), (r2 : Int), (r3 : Int), (r4 : Int)]) (p := (2 : Int)) T (by simp) (by decide)).cast (congrArg V.int (by simp [hor] <;> lia))
  have a10 : Fn C 1 (.fn (C.ad 53)) [.ints ([(r0 : Int), (r1 : Int), (r2 : Int), (r3 : Int), (r4 : Int), (r5 : Int), (r6 : Int)].take (4 : Int).toNat), .int (0 : Int)] (.int (r0 : Int)) := (fn_law_at (l := [(r0 : Int), (r1 : Int), (r2 : Int), (r3 : Int)]) (p := (0 : Int)) T (by simp) (by decide)).cast (congrArg V.int (by simp [hor] <;> lia))
  have a11 : Fn C 1 (.fn (C.ad 53)) [.ints ([(r0 : Int), (r1 : Int), (r2 : Int), (r3 : Int), (r4 : Int), (r5 : Int), (r6 : Int)].take (4 : Int).toNat), .int (1 : Int)] (.int C1) := (fn_law_at (l := [(r0 : Int), (r1 : Int), (r2 : Int), (r3 : Int)]) (p := (1 : Int)) T (by simp) (by decide)).cast (congrArg V.int (by simp [hor] <;> lia))
  have a12 : Fn C 1 (.fn (C.ad 53)) [.ints ([(r0 : Int), (r1 : Int), (r2 : Int), (r3 : Int), (r4 : Int), (r5 : Int), (r6 : Int)].take (4 : Int).toNat), .int (-1 : Int)] (.int D1) := (fn_law_at (l := [(r0 : Int), (r1 : Int), (r2 : Int), (r3 : Int)]) (p := (-1 : Int)) T (by simp) (by decide)).cast (congrArg V.int (by simp [hor] <;> lia))
  have sr := fn_law_signed (z := (r0 : Int)) T hw (by lia)
  have sP1 := fn_law_signed (z := P1) T hw (by lia)
  have sN1 := fn_law_signed (z := N1) T hw (by lia)
  have sP2 := fn_law_signed (z := P2) T hw (by lia)
  have sN2 := fn_law_signed (z := N2) T hw (by lia)
  have sA1 := fn_law_signed (z := A1) T hw (by lia)
  have sB1 := fn_law_signed (z := B1) T hw (by lia)
  have sA2 := fn_law_signed (z := A2) T hw (by lia)
  have sC1 := fn_law_signed (z := C1) T hw (by lia)
  have sD1 := fn_law_signed (z := D1) T hw (by lia)
  have sH : Fn C 2 (.fn (C.ad 52)) [.int (List.sum [(r0 : Int) * 2 ^ ((6 : Int) - 0).toNat, (r1 : Int) * 2 ^ ((6 : Int) - 1).toNat, (r2 : Int) * 2 ^ ((6 : Int) - 2).toNat, (r3 : Int) * 2 ^ ((6 : Int) - 3).toNat, (r4 : Int) * 2 ^ ((6 : Int) - 4).toNat, (r5 : Int) * 2 ^ ((6 : Int) - 5).toNat, (r6 : Int) * 2 ^ ((6 : Int) - 6).toNat]), .int w] (S w H) := by
    have e : List.sum [(r0 : Int) * 2 ^ ((6 : Int) - 0).toNat, (r1 : Int) * 2 ^ ((6 : Int) - 1).toNat, (r2 : Int) * 2 ^ ((6 : Int) - 2).toNat, (r3 : Int) * 2 ^ ((6 : Int) - 3).toNat, (r4 : Int) * 2 ^ ((6 : Int) - 4).toNat, (r5 : Int) * 2 ^ ((6 : Int) - 5).toNat, (r6 : Int) * 2 ^ ((6 : Int) - 6).toNat] = H := by simp [List.sum_cons]; lia
    rw [e]
    exact fn_law_signed (z := H) T hw (by lia)
  have n0 := fn_law_nat (x := r0) T hw (by lia)
  have n1 := fn_law_nat (x := r1) T hw (by lia)
  have n2 := fn_law_nat (x := r2) T hw (by lia)
  have n3 := fn_law_nat (x := r3) T hw (by lia)
  have n4 := fn_law_nat (x := r4) T hw (by lia)
  have n5 := fn_law_nat (x := r5) T hw (by lia)
  have n6 := fn_law_nat (x := r6) T hw (by lia)
  have hps : ∀ x ∈ ([r0, r1, r2, r3, r4, r5, r6] : List Nat), x < mid := by simp only [List.forall_mem_cons]; exact ⟨by lia, by lia, by lia, by lia, by lia, by lia, by lia, fun _ h => absurd h List.not_mem_nil⟩
  have b0 : Fn C 6 (.fn (C.ad 21)) [.list (([r0, r1, r2, r3, r4, r5, r6] : List Nat).map (N w)), .int 0, .int w] (.tup [S w P1, S w N1]) := by
    refine Fn.cast (fn_both_values (p := 0) T hw hps (by simp) (by lia)) ?_
    obtain ⟨e1, e2⟩ := rows_eo0 r0 r1 r2 r3 r4 r5 r6
    show V.tup [S w ((eo [r0, r1, r2, r3, r4, r5, r6] 0 0 7 + eo [r0, r1, r2, r3, r4, r5, r6] 0 1 7 : Nat) : Int), S w ((eo [r0, r1, r2, r3, r4, r5, r6] 0 0 7 : Int) - (eo [r0, r1, r2, r3, r4, r5, r6] 0 1 7 : Int))] = _
    rw [e1, e2, show (((r0 + r2 + r4 + r6) + (r1 + r3 + r5) : Nat) : Int) = P1 by lia, show ((r0 + r2 + r4 + r6 : Nat) : Int) - ((r1 + r3 + r5 : Nat) : Int) = N1 by lia]
  have b1 : Fn C 6 (.fn (C.ad 21)) [.list (([r0, r1, r2, r3, r4, r5, r6] : List Nat).map (N w)), .int 1, .int w] (.tup [S w P2, S w N2]) := by
    refine Fn.cast (fn_both_values (p := 1) T hw hps (by simp) (by lia)) ?_
    obtain ⟨e1, e2⟩ := rows_eo1 r0 r1 r2 r3 r4 r5 r6
    show V.tup [S w ((eo [r0, r1, r2, r3, r4, r5, r6] 1 0 7 + eo [r0, r1, r2, r3, r4, r5, r6] 1 1 7 : Nat) : Int), S w ((eo [r0, r1, r2, r3, r4, r5, r6] 1 0 7 : Int) - (eo [r0, r1, r2, r3, r4, r5, r6] 1 1 7 : Int))] = _
    rw [e1, e2, show (((r0 + 4 * r2 + 16 * r4 + 64 * r6) + (2 * r1 + 8 * r3 + 32 * r5) : Nat) : Int) = P2 by lia, show ((r0 + 4 * r2 + 16 * r4 + 64 * r6 : Nat) : Int) - ((2 * r1 + 8 * r3 + 32 * r5 : Nat) : Int) = N2 by lia]
  have v2 : Fn C 3 (.fn (C.ad 22)) [.list (([r0, r1, r2, r3, r4, r5, r6] : List Nat).map (N w)), .int w] (S w P2) := by
    refine Fn.cast (fn_value_at_two T hw hps (by simp)) ?_
    show S w (hn2 [r0, r1, r2, r3, r4, r5, r6].reverse 7 : Nat) = _
    rw [rows_two]
    exact congrArg (S w) (by lia)
  have vh : Fn C 3 (.fn (C.ad 23)) [.list (([r0, r1, r2, r3, r4, r5, r6] : List Nat).map (N w)), .int w] (S w H) := by
    refine Fn.cast (fn_value_at_half T hw hps (by simp)) ?_
    show S w (hn2 [r0, r1, r2, r3, r4, r5, r6] 7 : Nat) = _
    rw [rows_half]
    exact congrArg (S w) (by lia)
  have f7 := fn_from_seven (P := P1) (M := N1) (P2 := P2) (M2 := N2) (H := H) (c0 := r0) (c1 := r1) (c2 := r2) (c3 := r3) (c4 := r4) (c5 := r5) (c6 := r6) T hw (by lia) (by lia) (by lia) (by lia) (by lia) (by lia) (by lia) eP1 eN1 eP2 eN2 eH
  have f5 := fn_from_five (P := A1) (M := B1) (D := A2) (c0 := r0) (c1 := r1) (c2 := r2) (c3 := r3) (c4 := r4) T hw (by lia) (by lia) (by lia) (by lia) (by lia) eA1 eB1 eA2
  have f4 := fn_from_four (P := C1) (M := D1) (c0 := r0) (c1 := r1) (c2 := r2) (c3 := r3) T hw (by lia) (by lia) (by lia) (by lia) eC1 eD1
  rw [S_nat w r6] at f7
  rw [S_nat w r4] at f5
  rw [S_nat w r3] at f4
  have hR : rc (2 ^ w) 2 [r0, r1, r2, r3, r4, r5, r6] 7 < lid := by
    have e : rc (2 ^ w) 2 [r0, r1, r2, r3, r4, r5, r6] 7 = r0 + (2 ^ w) ^ 2 * (r1 + (2 ^ w) ^ 2 * (r2 + (2 ^ w) ^ 2 * (r3 + (2 ^ w) ^ 2 * (r4 + (2 ^ w) ^ 2 * (r5 + (2 ^ w) ^ 2 * (r6 + (2 ^ w) ^ 2 * 0)))))) := by rw [rc7]; generalize (2 ^ w) ^ 2 = Q; grind
    rw [e]
    refine Nat.lt_of_lt_of_le (horner_lt h0 (horner_lt h1 (horner_lt h2 (horner_lt h3 (horner_lt h4 (horner_lt h5 (horner_lt h6 (k := 0) (by simp)))))))) ?_
    show _ ≤ 2 ^ 3000
    rw [← Nat.pow_mul, ← Nat.pow_mul]
    exact Nat.pow_le_pow_right (by lia) (by lia)
  have rcm : Fn C 4 (.fn (C.ad 31)) [.list (([r0, r1, r2, r3, r4, r5, r6] : List Nat).map (N w)), .int 2, .int w] (N w (rc (2 ^ w) 2 [r0, r1, r2, r3, r4, r5, r6] 7)) := fn_recomposed (s := 2) T hw hps (by simp) (by lia) hR
  have lv := fn_law_value T hw hR
  have la : Fn C 1 (.fn (C.ad 53)) [.ints [(r0 : Int), (r1 : Int), (r2 : Int), (r3 : Int), (r4 : Int), (r5 : Int), (r6 : Int)], .int (1 * 2 ^ (2 * (w : Int)).toNat)] (.int (rc (2 ^ w) 2 [r0, r1, r2, r3, r4, r5, r6] 7 : Nat)) := by
    have e : (1 * 2 ^ (2 * (w : Int)).toNat : Int) = (((2 ^ w) ^ 2 : Nat) : Int) := by rw [show (2 * (w : Int)).toNat = w * 2 by lia, Int.one_mul, ← Nat.pow_mul, Int.natCast_pow]; rfl
    rw [e]
    refine (fn_law_at T (by simp) (by lia)).cast (congrArg V.int ?_)
    rw [rc7]
    generalize (2 ^ w) ^ 2 = Q
    simp only [List.reverse_cons, List.reverse_nil, List.nil_append, List.cons_append, List.length_cons, List.length_nil, Nat.zero_add, Nat.reduceAdd, hor, List.getD_cons_zero, List.getD_cons_succ, Int.natCast_add, Int.natCast_mul, Int.natCast_pow]
    grind
  generalize rc (2 ^ w) 2 [r0, r1, r2, r3, r4, r5, r6] 7 = RR at *
  refine Fn.defK T (ps := [Str.ofString "row", Str.ofString "w"]) rfl rfl (by kernel_rfl) (by walk_at "bind") rfl (by decide +kernel) ?_
  dsimp only [List.zip, List.zipWith]
  refine Ex.seq (Ex1.post (σ' := [(Str.ofString "values", .list [S w (r0 : Int), S w P1, S w N1, S w P2, S w N2]), (Str.ofString "row", .ints [(r0 : Int), (r1 : Int), (r2 : Int), (r3 : Int), (r4 : Int), (r5 : Int), (r6 : Int)]), (Str.ofString "w", .int w)]) (Ex1.assignCompL ([(.int 0, S w (r0 : Int)), (.int 1, S w P1), (.int (-1), S w N1), (.int 2, S w P2), (.int (-2), S w N2)] : List (V × V)) (σc := [(Str.ofString "row", .ints [(r0 : Int), (r1 : Int), (r2 : Int), (r3 : Int), (r4 : Int), (r5 : Int), (r6 : Int)]), (Str.ofString "w", .int w)]) T.ok (EvIt.tup T.ok (Ev.cast (by walk_at "ev") (by rfl))) (CompOk.of rfl (by decide +kernel) (by repeat' (first | exact CSub.nil | exact CSub.cons rfl rfl CSub.nil | refine CSub.cons rfl rfl ?_))) rfl (by walk_at "mems" <;> walk_at "evs") (by simp) (by walk_at "sto") (swaps_true rfl rfl (by decide +kernel))) (.cons' rfl (by rfl) (.cons' rfl (by rfl) (.cons' rfl (by rfl) (.nil))))) ?_
  have hbits : ∀ r : Nat, r < 262144 → (Builtin.Int.intBits (r : Int) : Int) ≤ 18 := fun r hr => by
    have : Builtin.Int.intBits (r : Int) ≤ 18 := intBits_le_iff.mpr (by lia)
    lia
  have t0 := hbits r0 (by lia)
  have t1 := hbits r1 (by lia)
  have t2 := hbits r2 (by lia)
  have t3 := hbits r3 (by lia)
  have t4 := hbits r4 (by lia)
  have t5 := hbits r5 (by lia)
  have t6 := hbits r6 (by lia)
  clear eP1 eN1 eP2 eN2 eA1 eB1 eA2 eC1 eD1 eH h0 h1 h2 h3 h4 h5 h6 hmid hQ hm hps hR hbits
  refine Ex.seq (Ex1.post (σ' := [(Str.ofString "half", S w H), (Str.ofString "values", .list [S w (r0 : Int), S w P1, S w N1, S w P2, S w N2]), (Str.ofString "row", .ints [(r0 : Int), (r1 : Int), (r2 : Int), (r3 : Int), (r4 : Int), (r5 : Int), (r6 : Int)]), (Str.ofString "w", .int w)]) (Ex1.assign (by
    apply EvO.sh T.ok
    refine Ev.call T.ok (.g T rfl rfl) (.cons T.ok (.call T.ok (.sum T rfl) (.cons T.ok (Ev.cast (d' := .ints [(r0 : Int) * 2 ^ ((6 : Int) - 0).toNat, (r1 : Int) * 2 ^ ((6 : Int) - 1).toNat, (r2 : Int) * 2 ^ ((6 : Int) - 2).toNat, (r3 : Int) * 2 ^ ((6 : Int) - 3).toNat, (r4 : Int) * 2 ^ ((6 : Int) - 4).toNat, (r5 : Int) * 2 ^ ((6 : Int) - 5).toNat, (r6 : Int) * 2 ^ ((6 : Int) - 6).toNat]) (Ev.compL2 ([((.int 0, .int (r0 : Int)), .int ((r0 : Int) * 2 ^ ((6 : Int) - 0).toNat)), ((.int 1, .int (r1 : Int)), .int ((r1 : Int) * 2 ^ ((6 : Int) - 1).toNat)), ((.int 2, .int (r2 : Int)), .int ((r2 : Int) * 2 ^ ((6 : Int) - 2).toNat)), ((.int 3, .int (r3 : Int)), .int ((r3 : Int) * 2 ^ ((6 : Int) - 3).toNat)), ((.int 4, .int (r4 : Int)), .int ((r4 : Int) * 2 ^ ((6 : Int) - 4).toNat)), ((.int 5, .int (r5 : Int)), .int ((r5 : Int) * 2 ^ ((6 : Int) - 5).toNat)), ((.int 6, .int (r6 : Int)), .int ((r6 : Int) * 2 ^ ((6 : Int) - 6).toNat))] : List ((V × V) × V)) (σc := []) T.ok ((EvIt2.enum T.ok (.bt T rfl (by simp [btab]) bv_enumerate) (by walk_at "evs")).cast (by rfl)) (CompOk.of rfl (by decide +kernel) .nil) rfl rfl (by walk_at "mems" <;> walk_at "evs") (by simp)) (by rfl)) .nil) (Fn.sum (n := 0)) (Nat.zero_le _)) (.cons T.ok (.name rfl) .nil)) sH (le_of_ble rfl)) (by walk_at "sto")) (.cons' rfl (by rfl) (.cons' rfl (by rfl) (.cons' rfl (by rfl) (.cons' rfl (by rfl) (.nil)))))) ?_
  refine Ex.seq (Ex1.post (σ' := [(Str.ofString "limbs", .list (([r0, r1, r2, r3, r4, r5, r6] : List Nat).map (N w))), (Str.ofString "half", S w H), (Str.ofString "values", .list [S w (r0 : Int), S w P1, S w N1, S w P2, S w N2]), (Str.ofString "row", .ints [(r0 : Int), (r1 : Int), (r2 : Int), (r3 : Int), (r4 : Int), (r5 : Int), (r6 : Int)]), (Str.ofString "w", .int w)]) (Ex1.assignCompL ([(.int (r0 : Int), N w r0), (.int (r1 : Int), N w r1), (.int (r2 : Int), N w r2), (.int (r3 : Int), N w r3), (.int (r4 : Int), N w r4), (.int (r5 : Int), N w r5), (.int (r6 : Int), N w r6)] : List (V × V)) (σc := [(Str.ofString "w", .int w)]) T.ok ((EvIt.list T.ok (by walk_at "evs")).cast (by rfl)) (CompOk.of rfl (by decide +kernel) (.cons rfl rfl .nil)) rfl (by walk_at "mems" <;> walk_at "evs") (by simp) (by walk_at "sto") (swaps_true rfl rfl (by decide +kernel))) (.cons' rfl (by rfl) (.cons' rfl (by rfl) (.cons' rfl (by rfl) (.cons' rfl (by rfl) (.cons' rfl (by rfl) (.nil))))))) ?_
  refine Ex.seq (Ex1.ifF (EtO.vis T.ok (Et.cmp T.ok (by walk_at "evs") (by walk_at "evs") (Cop.neSame (k := 5) (lay_list (by walk_at "mems" <;> exact lay_tup (by walk_at "mems" <;> exact lay_S 1 w _))) (by rfl)))) rfl Ex.nil) ?_
  refine Ex.seq (Ex1.ifF (EtO.vis T.ok (Et.or (b := false) (c := false) T.ok (Et.cmp T.ok (by walk_at "evs") (by walk_at "evs") (Cop.neSame (k := 3) (lay_S 1 w _) (by rfl))) (fun _ => Et.or1 (Et.cmp T.ok (by walk_at "evs") (by walk_at "evs") (Cop.neSame (k := 3) (lay_S 1 w _) (by rfl)))))) rfl Ex.nil) ?_
  refine Ex.seq (Ex1.ifF (EtO.vis T.ok (Et.cmp T.ok (by walk_at "evs") (by walk_at "evs") (Cop.neSame (k := 3) lay_Ns (by rfl)))) rfl Ex.nil) ?_
  refine Ex.seq (Ex1.post (σ' := [(Str.ofString "values", .list [S w (r0 : Int), S w A1, S w B1, S w A2]), (Str.ofString "limbs", .list (([r0, r1, r2, r3, r4, r5, r6] : List Nat).map (N w))), (Str.ofString "row", .ints [(r0 : Int), (r1 : Int), (r2 : Int), (r3 : Int), (r4 : Int), (r5 : Int), (r6 : Int)]), (Str.ofString "w", .int w)]) (Ex1.assignCompL ([(.int 0, S w (r0 : Int)), (.int 1, S w A1), (.int (-1), S w B1), (.int 2, S w A2)] : List (V × V)) (σc := [(Str.ofString "row", .ints [(r0 : Int), (r1 : Int), (r2 : Int), (r3 : Int), (r4 : Int), (r5 : Int), (r6 : Int)]), (Str.ofString "w", .int w)]) T.ok (EvIt.tup T.ok (Ev.cast (by walk_at "ev") (by rfl))) (CompOk.of rfl (by decide +kernel) (by repeat' (first | exact CSub.nil | exact CSub.cons rfl rfl CSub.nil | refine CSub.cons rfl rfl ?_))) rfl (by walk_at "mems" <;> walk_at "evs") (by simp) (by walk_at "sto") (swaps_true rfl rfl (by decide +kernel))) (.cons' rfl (by rfl) (.cons' rfl (by rfl) (.cons' rfl (by rfl) (.cons' rfl (by rfl) (.nil)))))) ?_
  refine Ex.seq (Ex1.ifF (EtO.vis T.ok (Et.cmp T.ok (by walk_at "evs") (.sliceTo T.ok (.name rfl) .cint (by decide) (by simp)) (Cop.neSame (k := 3) lay_Ns (by rfl)))) rfl Ex.nil) ?_
  refine Ex.seq (Ex1.post (σ' := [(Str.ofString "values", .list [S w (r0 : Int), S w C1, S w D1]), (Str.ofString "limbs", .list (([r0, r1, r2, r3, r4, r5, r6] : List Nat).map (N w))), (Str.ofString "row", .ints [(r0 : Int), (r1 : Int), (r2 : Int), (r3 : Int), (r4 : Int), (r5 : Int), (r6 : Int)]), (Str.ofString "w", .int w)]) (Ex1.assignCompL ([(.int 0, S w (r0 : Int)), (.int 1, S w C1), (.int (-1), S w D1)] : List (V × V)) (σc := [(Str.ofString "row", .ints [(r0 : Int), (r1 : Int), (r2 : Int), (r3 : Int), (r4 : Int), (r5 : Int), (r6 : Int)]), (Str.ofString "w", .int w)]) T.ok (EvIt.tup T.ok (Ev.cast (by walk_at "ev") (by rfl))) (CompOk.of rfl (by decide +kernel) (by repeat' (first | exact CSub.nil | exact CSub.cons rfl rfl CSub.nil | refine CSub.cons rfl rfl ?_))) rfl (by walk_at "mems" <;> walk_at "evs") (by simp) (by walk_at "sto") (swaps_true rfl rfl (by decide +kernel))) (.cons' rfl (by rfl) (.cons' rfl (by rfl) (.cons' rfl (by rfl) (.cons' rfl (by rfl) (.nil)))))) ?_
  refine Ex.seq (Ex1.ifF (EtO.vis T.ok (Et.cmp T.ok (by walk_at "evs") (.sliceTo T.ok (.name rfl) .cint (by decide) (by simp)) (Cop.neSame (k := 3) lay_Ns (by rfl)))) rfl Ex.nil) ?_
  exact Ex.rete T.ok (by walk_at "evs") (by simp)
end
-- PV
section
variable {C : Cx} {n : Nat} {sc : Names} {σ σ' : Sto} {own own' : Option (Str × List Int)}

abbrev Cx.ext (C : Cx) (X : List (Addr × Obj)) : Cx := { C with G := fun h => C.G h ∧ ∀ p ∈ X, h.get? p.1 = some p.2 }
theorem Cx.Ok.ext {X : List (Addr × Obj)} (ok : C.Ok) : (C.ext X).Ok where
  mono := fun k g => ⟨ok.mono k g.1, fun p hp => k _ _ (g.2 p hp)⟩
  inK := fun g => ok.inK g.1
  g := fun g => ok.g g.1
  b := fun g => ok.b g.1
  nl := fun g => ok.nl g.1
  bu := ok.bu
theorem Tx.ext {X : List (Addr × Obj)} (T : Tx C) : Tx (C.ext X) where
  ok := T.ok.ext
  fn := fun d hd => by
    obtain ⟨a, o, pm, code, doc, h1, h2, h3, h4⟩ := T.fn d hd
    exact ⟨a, o, pm, code, doc, h1, fun h g => h2 h g.1, h3, fun h g => h4 h g.1⟩
  bn := T.bn

def PlainX (X : List (Addr × Obj)) : Prop := ∀ p ∈ X, (∀ es ep, p.2.data ≠ .dict es ep) ∧ ∀ v, p.2.data ≠ .cell v
theorem kb_ext {X : List (Addr × Obj)} {ow₀ : List Addr} {s₀ s : Shared} {env : Env} {h' : Heap} (r : StR sc σ none ow₀ [] s₀ env s) (kb : Kb env [] s.heap h') (hX : PlainX X) (h : ∀ p ∈ X, s.heap.get? p.1 = some p.2) : ∀ p ∈ X, h'.get? p.1 = some p.2 := fun p hp => by
  refine kb p.1 p.2 (h p hp) (fun e => ?_) (fun x c hc e => ?_) List.not_mem_nil
  · obtain ⟨o, es, ep, e1, e2⟩ := r.localsD
    rw [← e, h p hp] at e1
    cases e1
    exact (hX p hp).1 _ _ e2
  · obtain ⟨o, v, e1, e2⟩ := r.cellsD x c hc
    rw [← e, h p hp] at e1
    cases e1
    exact (hX p hp).2 _ e2
theorem oa_nil {ow₀ oa : List Addr} {s₀ s : Shared} {env : Env} (r : StR sc σ none ow₀ oa s₀ env s) : oa = [] := by obtain ⟨_, _, _, o, _⟩ := r.ex; exact o

/-- statements behind a def: what the def has made stands -/
def ExX (C : Cx) (X : List (Addr × Obj)) (n : Nat) (sc : Names) (σ : Sto) (ss : List Stmt) (d : V) : Prop :=
  ∀ (A : Around) (env : Env) (s₀ s : Shared) (ow₀ : List Addr), Room A n → EnvFor sc env → C.G s₀.heap → PlainX X → (∀ p ∈ X, s.heap.get? p.1 = some p.2) → StR sc σ none ow₀ [] s₀ env s →
    ∀ Q : Flow → Shared → Prop, (∀ v h tk, Keeps s₀.heap h → (∀ p ∈ X, h.get? p.1 = some p.2) → Rep ow₀ h v d → Q (.ret v) { s with heap := h, toks := tk }) → wpAny C.M A (execs ss env) Q (fun _ _ => False) s
theorem ExX.assign {X : List (Addr × Obj)} {x : Str} {e : Expr} {xp pos : Pos} {d r : V} {rest : List Stmt} (ok : C.Ok) (he : Ev (C.ext X) n sc σ e d) (hx : Storable sc none x)
    (hsw : ∀ env, swapsWith e (some (.Name x xp)) pos.line env = pure false) (hr : ExX C X n sc ((x, d) :: σ) rest r) : ExX C X n sc σ (.Assign [.Name x xp] e pos :: rest) r := by
  with_unfolding_all intro A env s₀ s ow₀ rm hen g hX hxx st Q hQ
  refine wpAny_execs_cons (wpAny_Assign_Name (he.run A env s _ rm hen ⟨ok.mono st.keep g, hxx⟩ st.owok st.srep _ fun v h' tk k rv => ?_) (hsw env))
  have r1 := st.grow (tk := tk) k
  refine r1.store hen rv hx (hen.cells x) fun h2 tk2 kb st2 => ?_
  exact hr A env s₀ _ ow₀ rm hen g hX (kb_ext r1 kb hX fun p hp => k _ _ (hxx p hp)) st2 Q hQ
theorem ExX.ifF {X : List (Addr × Obj)} {t : Expr} {x : List Stmt} {pos : Pos} {r : V} {rest : List Stmt} (ok : C.Ok) (ht : Et (C.ext X) n sc σ t false) (hr : ExX C X n sc σ rest r) : ExX C X n sc σ (.If t x [] pos :: rest) r := by
  with_unfolding_all intro A env s₀ s ow₀ rm hen g hX hxx st Q hQ
  refine wpAny_execs_cons (wpAny_If (ht.run A env s _ rm hen ⟨ok.mono st.keep g, hxx⟩ st.owok st.srep _ fun h' tk k => ?_))
  refine wpAny_execs_nil ?_
  exact hr A env s₀ _ ow₀ rm hen g hX (fun p hp => k _ _ (hxx p hp)) (st.grow (tk := tk) k) Q hQ
theorem ExX.ret {X : List (Addr × Obj)} {e : Expr} {pos : Pos} {d : V} {rest : List Stmt} (ok : C.Ok) (he : Ev (C.ext X) n sc σ e d) : ExX C X n sc σ (.Return (some e) pos :: rest) d := by
  with_unfolding_all intro A env s₀ s ow₀ rm hen g hX hxx st Q hQ
  refine wpAny_execs_cons (wpAny_Return_some (he.run A env s _ rm hen ⟨ok.mono st.keep g, hxx⟩ st.owok st.srep _ fun v h' tk k rv => ?_))
  exact hQ v h' tk (st.keep.trans k) (fun p hp => k _ _ (hxx p hp)) (by simpa using rv)

/-- what a def in a body asks of the frame -/
structure DF (C : Cx) (P c : Addr) (s₀ : Shared) (env : Env) : Prop where
  code : env.code = .ref c
  hd : CodeHd s₀.heap c P
  no : s₀.heap.get? P = none
  bi : ∃ bm ob, C.mg "__builtins__" = some (.ref bm) ∧ bm ≠ builtinsNs ∧ bm ≠ mainGlobals ∧ s₀.heap.get? bm = some ob ∧ ob.cls = .type "module" ∧ ob.dict = some builtinsNs ∧ ob.data = .plain
def ExD (C : Cx) (P c : Addr) (n : Nat) (sc : Names) (σ : Sto) (ss : List Stmt) (d : V) : Prop :=
  ∀ (A : Around) (env : Env) (s₀ s : Shared) (ow₀ : List Addr), Room A n → EnvFor sc env → C.G s₀.heap → DF C P c s₀ env → s.heap.get? P = some (tabObj #[]) → StR sc σ none ow₀ [] s₀ env s →
    ∀ Q : Flow → Shared → Prop, (∀ v h tk, Keeps s₀.heap h → GrownAt P h → Rep ow₀ h v d → Q (.ret v) { s with heap := h, toks := tk }) → wpAny C.M A (execs ss env) Q (fun _ _ => False) s
theorem ExD.seq {P c : Addr} {st : Stmt} {rest : List Stmt} {d : V} (h1 : Ex1 C n sc σ none st (.next σ' none)) (h2 : ExD C P c n sc σ' rest d) : ExD C P c n sc σ (st :: rest) d := by
  with_unfolding_all intro A env s₀ s ow₀ rm hen g df hP r Q hQ
  refine wpAny_execs_cons (h1.run A env s₀ s ow₀ [] rm hen g r _ fun f s1 hf => ?_)
  obtain ⟨⟨h, tk, rfl⟩, kb, rfl, oa', _, st'⟩ := hf
  obtain rfl := oa_nil st'
  have hk := kb_ext (X := [(P, tabObj #[])]) r kb (fun p hp => by rw [List.mem_singleton.mp hp]; exact ⟨fun _ _ q => (by cases q), fun _ q => (by cases q)⟩) (fun p hp => by rw [List.mem_singleton.mp hp]; exact hP)
  exact h2 A env s₀ _ ow₀ rm hen g df (hk _ List.mem_cons_self) st' Q hQ

theorem StR.tab {P : Addr} {ow₀ : List Addr} {s₀ s : Shared} {env : Env} {ps : Array Value} {h' : Heap} {tk : Nat} (r : StR sc σ none ow₀ [] s₀ env s) (hP : s.heap.get? P = some (tabObj ps)) (hP0 : s₀.heap.get? P = none)
    (hx : ∀ b o, b ≠ P → s.heap.get? b = some o → h'.get? b = some o) (hPe : ∃ o, h'.get? P = some o) : StR sc σ none ow₀ [] s₀ env { s with heap := h', toks := tk } := by
  obtain ⟨m, cm, ic, o, ww, h⟩ := r.ex
  have hL : env.locals ≠ P := fun q => by
    obtain ⟨ob, es, ep, e1, e2⟩ := r.localsD
    rw [q, hP] at e1
    cases e1
    cases e2
  have hc : ∀ x c, env.cells.lookup x = some c → c ≠ P := fun x c hc q => by
    obtain ⟨ob, v, e1, e2⟩ := r.cellsD x c hc
    rw [q, hP] at e1
    cases e1
    cases e2
  have sk : SeqKeep ([] ++ ow₀) s.heap h' := ⟨fun b c vs n _ e => hx b _ (fun q => by rw [q, hP] at e; cases e) e⟩
  refine ⟨m, cm, ⟨⟨?_, ic.toInCall.ns.at fun o e => hx _ o hL e, fun b o e => hx b o (fun q => by rw [q, hP0] at e; cases e) (ic.toInCall.keep b o e), ic.toInCall.fresh⟩, fun y c hcc => ?_, ic.apart, ic.above⟩, o, fun b hb => ?_, fun y d e => ?_⟩
  · obtain ⟨h1, t1, e⟩ := ic.toInCall.same
    exact ⟨h', tk, by rw [e]⟩
  · obtain ⟨ob, e1, e2⟩ := ic.cell y c hcc
    exact ⟨ob, hx c ob (hc y c hcc) e1, e2⟩
  · by_cases hbP : b = P
    · rw [hbP]; exact hPe
    · obtain ⟨ob, eb⟩ := ww b hb
      exact ⟨ob, hx b ob hbP eb⟩
  · obtain ⟨v, a, b⟩ := h y d e
    exact ⟨v, a, b.mono sk fun _ _ _ z => z⟩

theorem ExD.def_ {P c : Addr} {name : Str} {params : Arguments} {body : List Stmt} {scope : Scope} {pos : Pos} {rest : List Stmt} {d : V} (ok : C.Ok) (hd0 : params.defaults = []) (hk0 : params.kw_defaults = []) (ha : ∀ env, annTrees params none env = []) (hfree : ∀ y ∈ scope.names, y.2 ≠ .free)
    (hst : Storable sc none name)
    (hr : ∀ (qual : Str) (f c' : Addr) (oc : Obj) (vs : Array Value) (t : Tok) (doc pm ctv : Value) (ps : Array Value), oc.data = .fields vs → vs[1]? = some (.str qual t) →
      ExX C [(f, fnMade name qual params body scope [] doc pm c' ctv), (c', oc), (P, tabObj ps)] n sc ((name, .fn f) :: σ) rest d) :
    ExD C P c n sc σ (.FunctionDef name params body [] none [] scope none name pos :: rest) d := by
  with_unfolding_all intro A env s₀ s ow₀ rm hen g df hP r Q hQ
  have gs := ok.mono r.keep g
  obtain ⟨bm, ob, b1, b2, b3, b4, b5, b6, b7⟩ := df.bi
  have hns : ∀ names : Names, (∀ y ∈ names, y.2 ≠ .free) → closeL env.cells names [] = [] := fun names => by
    induction names with
    | nil => intro _; rfl
    | cons y ys ih =>
      intro h
      obtain ⟨a, k⟩ := y
      have h1 : (k == NameKind.free) = false := by simpa using h (a, k) List.mem_cons_self
      unfold closeL
      rw [h1]
      exact ih fun z hz => h z (List.mem_cons_of_mem _ hz)
  have hcl : closureFor scope env = pure [] := by
    rw [closureFor_eq fun y hy hk => absurd hk (hfree y hy), hns _ hfree]
  have hgs : s.heap.Ns mainGlobals C.mg := ok.g gs
  have hgP : mainGlobals ≠ P := fun q => by
    obtain ⟨o, es, ep, e, hd, _⟩ := hgs
    rw [q, hP] at e
    cases e
    cases hd
  have hbP : bm ≠ P := fun q => by rw [q, df.no] at b4; cases b4
  refine wpAny_execs_cons (nestDef_K hd0 hk0 (ha env) ?_)
  refine makeFunction_K (mg := C.mg) (c := c) (P := P) (ps := #[]) hcl hen.glob hgs df.code (df.hd.keeps r.keep) hP trivial rfl hgP ⟨bm, ob, b1, b2, b3, hbP, r.keep _ _ b4, b5, b6, b7⟩ fun c' ctv doc h' tk hx hge hlt hrec htb => ?_
  obtain ⟨c₂, oc, vs, t, e2, hoc, hd, hv⟩ := hrec
  cases e2
  have hx' : ∀ b o, b ≠ P → s.heap.get? b = some o → (h'.push (fnMade name (qualnameIn env name name) params body scope [] doc ((C.mg "__name__").getD .none) c' ctv)).get? b = some o := fun b o hb e => Heap.get?_push_of_some _ (hx b o hb e)
  have st1 := r.tab (tk := tk) hP df.no hx' ⟨_, Heap.get?_push_of_some _ htb⟩
  refine st1.store hen (.fn h'.objs.size) hst (hen.cells name) fun h2 tk2 kb st2 => ?_
  have hXp : PlainX [(h'.objs.size, fnMade name (qualnameIn env name name) params body scope [] doc ((C.mg "__name__").getD .none) c' ctv), (c', oc), (P, tabObj (#[] ++ #[rawInt pos.line, rawInt pos.col, .ref c']))] := fun p hp => by
    rcases List.mem_cons.mp hp with rfl | hp
    · exact ⟨fun _ _ q => (by cases q), fun _ q => (by cases q)⟩
    · rcases List.mem_cons.mp hp with rfl | hp
      · exact ⟨fun _ _ q => (by rw [hd] at q; cases q), fun _ q => (by rw [hd] at q; cases q)⟩
      · rw [List.mem_singleton.mp hp]
        exact ⟨fun _ _ q => (by cases q), fun _ q => (by cases q)⟩
  have hXs := kb_ext st1 kb hXp (fun p hp => by
    rcases List.mem_cons.mp hp with rfl | hp
    · exact Heap.get?_push_size _ rfl
    · rcases List.mem_cons.mp hp with rfl | hp
      · exact Heap.get?_push_of_some _ hoc
      · rw [List.mem_singleton.mp hp]
        exact Heap.get?_push_of_some _ htb)
  exact hr _ _ _ _ _ t _ _ _ _ hd hv A env s₀ _ ow₀ rm hen g hXp hXs st2 Q fun v h3 tk3 k3 hx3 rv => hQ v h3 tk3 k3 ⟨_, hx3 _ (by simp; right; right; rfl)⟩ rv
end
-- F20
section
variable {C : Cx} {n : Nat} {sc : Names} {σ σ' : Sto} {own own' : Option (Str × List Int)}

theorem q_ok (e : Nat) (h : e ≤ 900) (h1 : 1 ≤ e) : QQ (Nat.pow 2 e) where
  m16 := by
    show 16 * 2 ^ e ≤ 2 ^ 2000
    rw [show 16 = 2 ^ 4 by rfl, ← Nat.pow_add]
    exact Nat.pow_le_pow_right (by lia) (by lia)
  sq := by
    show 16 * (2 ^ e * 2 ^ e) ≤ 2 ^ 2000
    rw [show 16 = 2 ^ 4 by rfl, ← Nat.pow_add, ← Nat.pow_add]
    exact Nat.pow_le_pow_right (by lia) (by lia)
  len := by
    show 2 ^ e ≤ 2 ^ 1000
    exact Nat.pow_le_pow_right (by lia) (by lia)
  pos := Nat.pow_pos (n := e) (show 0 < 2 by lia)
def qA : Nat := Nat.pow 2 800
def qB : Nat := Nat.pow 2 900
theorem qA_ok : QQ qA := q_ok 800 (by lia) (by lia)
theorem qB_ok : QQ qB := q_ok 900 (by lia) (by lia)
theorem qAB : 16 * qA ≤ qB := by
  show 16 * 2 ^ 800 ≤ 2 ^ 900
  rw [show 16 = 2 ^ 4 by rfl, ← Nat.pow_add]
  exact Nat.pow_le_pow_right (by lia) (by lia)

end
local macro_rules | `(tactic| walk_at "bop") => `(tactic| with_reducible apply Bop.rep)
section
variable {C : Cx} {n : Nat} {sc : Names} {σ σ' : Sto} {own own' : Option (Str × List Int)}
section
variable {f c' P : Addr} {qual name : Str} {oc : Obj} {vs : Array Value} {t : Tok} {doc pm ctv : Value} {ps : Array Value}
end

def rrF (SS : List Int) (Q i : Nat) : Nat := ((SS.getD ((i : Int) % (SS.length : Int)).toNat 0 + (i : Int) * (i : Int)) % (Q : Int)).toNat
theorem rrF_lt {SS : List Int} {Q i : Nat} (h : 0 < Q) : rrF SS Q i < Q := by
  have := Int.emod_lt_of_pos (SS.getD ((i : Int) % (SS.length : Int)).toNat 0 + (i : Int) * (i : Int)) (show (0 : Int) < (Q : Int) by lia)
  unfold rrF
  lia
theorem rrF_int {SS : List Int} {Q i : Nat} (h : 0 < Q) : (SS.getD ((i : Int) % (SS.length : Int)).toNat 0 + (i : Int) * (i : Int)) % (Q : Int) = ((rrF SS Q i : Nat) : Int) := by
  have := Int.emod_nonneg (SS.getD ((i : Int) % (SS.length : Int)).toNat 0 + (i : Int) * (i : Int)) (show (Q : Int) ≠ 0 by lia)
  unfold rrF
  lia
theorem ExX.of {p q r : Addr × Obj} {rest : List Stmt} {d : V} (h : ∀ X, p ∈ X → q ∈ X → ExX C X n sc σ rest d) : ExX C [p, q, r] n sc σ rest d := h _ List.mem_cons_self (List.mem_cons_of_mem _ List.mem_cons_self)
theorem law_call {k : Nat} {d : DefRec} {body : List Stmt} {l : List Int} {c P : Addr} (T : Tx C) (hfd : recAt 55 = some d) (hbody : d.body = body) (hok : dOk d [Str.ofString "script"] = true)
    (hbind : ∀ vs : List Value, vs.length = 1 → ∀ pm code doc, bindArgs (docDef d.name d.params d.body d.scope pm code doc) ⟨vs, []⟩ = pure ([Str.ofString "script"].zip vs)) (hex : ExD C P c k d.scope.names [(Str.ofString "script", .ints l)] body (.bool true))
    {A : Around} {s₁ : Shared} {v : Value} {R : Result → Shared → Prop} (rm : Room A (k + 1)) (hT : TabsAt [(c, P)] s₁.heap) (g : C.G (ghostOf s₁.heap [(c, P)])) (hcode : ∀ o fd, s₁.heap.get? (C.ad 55) = some o → o.data = .func fd → fd.code = .ref c)
    (hbi : ∃ bm ob, C.mg "__builtins__" = some (.ref bm) ∧ bm ≠ builtinsNs ∧ bm ≠ mainGlobals ∧ (ghostOf s₁.heap [(c, P)]).get? bm = some ob ∧ ob.cls = .type "module" ∧ ob.dict = some builtinsNs ∧ ob.data = .plain)
    (rv : Rep [] (ghostOf s₁.heap [(c, P)]) v (.ints l)) (hR : ∀ v h tk, Keeps (ghostOf s₁.heap [(c, P)]) h → GrownAt P h → Rep [] h v (.bool true) → R (.ok (.ret v)) { s₁ with heap := h, toks := tk }) :
    codeAny C.M A (.call (.ref (C.ad 55)) ⟨[v], []⟩) R s₁ := by
  have kg : Keeps (ghostOf s₁.heap [(c, P)]) s₁.heap := fun b o e => of_hideAll _ e
  have g1 := T.ok.mono kg g
  have hsz : (ghostOf s₁.heap [(c, P)]).objs.size = s₁.heap.objs.size := hideAll_size _ _
  have hcodes : CodeHd (ghostOf s₁.heap [(c, P)]) c P := (ghost_code hT).1
  have hno : (ghostOf s₁.heap [(c, P)]).get? P = none := hideAll_none _ List.mem_cons_self
  have hP : s₁.heap.get? P = some (tabObj #[]) := (hT _ List.mem_cons_self).2
  generalize ghostOf s₁.heap [(c, P)] = gh at *
  obtain ⟨a, o, pm, code, doc, e1, e2, e3, e4⟩ := T.fn d (recAt_mem hfd)
  have ha : a = C.ad 55 := by
    have := T.ad hfd
    rw [e1] at this
    simpa using this
  subst ha
  have hget := e2 _ g1
  have hcd : code = .ref c := hcode o _ hget e3
  simp only [dOk, Bool.and_eq_true, beq_iff_eq, List.all_eq_true, Bool.or_eq_true, Bool.not_eq_true'] at hok
  obtain ⟨⟨⟨h5, h6⟩, h7⟩, h8⟩ := hok
  have hpk := h8 _ List.mem_cons_self
  have hfe : ∃ fd : FuncData, fd = docDef d.name d.params d.body d.scope pm code doc := ⟨_, rfl⟩
  obtain ⟨fd, efd⟩ := hfe
  rw [← efd] at e3
  have k1 : fd.scope = d.scope := by rw [efd]; rfl
  refine codeAny_call_cells (fd := fd) rm.room hget e3 (T.ok.nl g1) (by rw [efd]; exact e4 _ g1) (by rw [efd]; exact congrArg FuncBody.stmts hbody) (by rw [efd]; exact hbind [v] rfl pm code doc) (by rw [efd]; rfl) ?_ (fun s2 ic => ?_) (by rw [k1]; exact h5) (by rw [k1]; exact h6) (by rw [k1]; exact h7)
  · intro x hx
    obtain rfl : x = (Str.ofString "script", v) := by simpa using hx
    rw [k1]
    rcases hpk with h | h
    · exact .inl h
    · exact .inr ⟨h, cellsFrom_some _ _ _ (.inl h)⟩
  · have hen := call_env_for fd s₁.heap.objs.size (C.ad 55) (by rw [k1]; exact h7) (by rw [efd]; rfl) (by rw [efd]; rfl)
    rw [k1] at hen
    have ic2 : InCallC { s₁ with heap := gh } (callEnvC fd s₁.heap.objs.size (C.ad 55)).locals (bindL (callEnvC fd s₁.heap.objs.size (C.ad 55)).kindOf ([Str.ofString "script"].zip [v]) fun _ => none) (callEnvC fd s₁.heap.objs.size (C.ad 55)).cells
        (bindC (callEnvC fd s₁.heap.objs.size (C.ad 55)).kindOf ([Str.ofString "script"].zip [v]) fun _ => none) s2 := by
      refine ⟨⟨?_, ic.toInCall.ns, fun b o e => ic.toInCall.keep b o (kg b o e), ?_⟩, ic.cell, ic.apart, ic.above⟩
      · obtain ⟨h1, t1, e⟩ := ic.toInCall.same
        exact ⟨h1, t1, by rw [e]⟩
      · show gh.objs.size ≤ _
        rw [hsz]
        exact ic.toInCall.fresh
    have st : StR d.scope.names [(Str.ofString "script", .ints l)] none [] [] { s₁ with heap := gh } (callEnvC fd s₁.heap.objs.size (C.ad 55)) s2 := by
      refine ⟨_, _, ic2, rfl, fun b hb => absurd hb List.not_mem_nil, fun x dd e => ?_⟩
      obtain ⟨w2, rw2, q1, q2⟩ := bind_zip (callEnvC fd s₁.heap.objs.size (C.ad 55)).kindOf [Str.ofString "script"] [v] [.ints l] (fun _ => none) (fun _ => none) x dd (.cons (rv.keeps fun b o e => ic2.toInCall.keep b o e) .nil) rfl (by simp) e
      refine ⟨w2, ?_, by simpa using rw2⟩
      have hx : x = Str.ofString "script" := by
        rw [lookup_cons'] at e
        by_cases hx : x = Str.ofString "script"
        · exact hx
        · rw [if_neg hx] at e; cases e
      rw [← k1] at hpk ⊢
      rcases hpk with h | h
      · exact .inl ⟨hx ▸ h, q1 (hx ▸ h)⟩
      · exact .inr ⟨hx ▸ h, cellsFrom_some _ _ _ (.inl (hx ▸ h)), q2 (by subst hx; show fd.scope.names.lookup _ ≠ _; rw [h]; decide)⟩
    refine wpAny_mono (hex _ _ { s₁ with heap := gh } s2 [] rm.deeper hen g ⟨by rw [efd, hcd]; rfl, hcodes, hno, hbi⟩ (ic.toInCall.keep _ _ hP) st (fun fl s' => ∃ v h tk, fl = .ret v ∧ s' = { s2 with heap := h, toks := tk } ∧ Keeps gh h ∧ GrownAt P h ∧ Rep [] h v (.bool true)) fun v h tk a b c => ⟨v, h, tk, rfl, rfl, a, b, c⟩) (fun fl s' hf => ?_) (fun _ _ h => h.elim)
    obtain ⟨v3, h3, tk3, rfl, rfl, a, b, c⟩ := hf
    obtain ⟨hh1, t1, e9⟩ := ic.toInCall.same
    rw [e9]
    exact hR v3 h3 tk3 a b c

set_option maxHeartbeats 2000000 in
theorem law_ok (T : Tx C) {l : List Int} {c P : Addr} (hl : l.length ≤ 63) {A : Around} {s₁ : Shared} {v : Value} {R : Result → Shared → Prop} (rm : Room A 20) (hT : TabsAt [(c, P)] s₁.heap) (g : C.G (ghostOf s₁.heap [(c, P)]))
    (hcode : ∀ o fd, s₁.heap.get? (C.ad 55) = some o → o.data = .func fd → fd.code = .ref c)
    (hbi : ∃ bm ob, C.mg "__builtins__" = some (.ref bm) ∧ bm ≠ builtinsNs ∧ bm ≠ mainGlobals ∧ (ghostOf s₁.heap [(c, P)]).get? bm = some ob ∧ ob.cls = .type "module" ∧ ob.dict = some builtinsNs ∧ ob.data = .plain)
    (rv : Rep [] (ghostOf s₁.heap [(c, P)]) v (.ints l)) (hR : ∀ v h tk, Keeps (ghostOf s₁.heap [(c, P)]) h → GrownAt P h → Rep [] h v (.bool true) → R (.ok (.ret v)) { s₁ with heap := h, toks := tk }) :
    codeAny C.M A (.call (.ref (C.ad 55)) ⟨[v], []⟩) R s₁ := by
  refine law_call (k := 19) T rfl rfl (by kernel_rfl) (by walk_at "bind") ?_ rm hT g hcode hbi rv hR
  dsimp only
  obtain ⟨SS, eSS⟩ : ∃ SS : List Int, SS = (l.take (20 : Int).toNat).map (fun a => if a < 0 then -a else a) ++ [(l.length : Int) + 2] := ⟨_, rfl⟩
  have hS0 : 0 < SS.length := by rw [eSS, List.length_append]; simp
  have hS1 : SS.length ≤ 21 := by rw [eSS, List.length_append, List.length_map, List.length_take]; simp; lia
  obtain ⟨w, ew⟩ : ∃ w : Nat, (w : Int) = 2 + SS.getD (0 : Int).toNat 0 % 8 := ⟨(2 + SS.getD (0 : Int).toNat 0 % 8).toNat, by lia⟩
  have hw : W w := ⟨by lia, by lia⟩
  have hB := hw.B
  have hb1 := hw.bits
  have hb2 : (Builtin.Int.intBits 1 : Int) + 2 * (w : Int) ≤ 2 ^ 27 := by
    have e : Builtin.Int.intBits 1 = 1 := by decide +kernel
    have := hw.hi
    rw [e]; lia
  obtain ⟨n1, hn1, g1⟩ : ∃ r : Nat, r < (2 ^ w) ^ 9 ∧ Fn C 2 (.fn (C.ad 51)) [.ints SS, .int 1, .int w] (.int r) := fn_law_number (b := 1) T hw hS0 (by lia) (by lia)
  obtain ⟨n2, hn2, g2⟩ : ∃ r : Nat, r < (2 ^ w) ^ 9 ∧ Fn C 2 (.fn (C.ad 51)) [.ints SS, .int 7, .int w] (.int r) := fn_law_number (b := 7) T hw hS0 (by lia) (by lia)
  have hpw : (2 ^ w) ^ 9 ≤ 2 ^ 81 := by rw [← Nat.pow_mul]; exact Nat.pow_le_pow_right (by lia) (by have := hw.hi; lia)
  have hqa : (2 ^ w) ^ 9 ≤ qA := Nat.le_trans hpw (show 2 ^ 81 ≤ 2 ^ 800 from Nat.pow_le_pow_right (by lia) (by lia))
  have hq1 : n1 < qA := by lia
  have hq2 : n2 < qA := by lia
  have hml := mid_lid
  have qa16 := qA_ok.m16
  have qb16 := qB_ok.m16
  have hsq := qA_ok.sq
  have hab := qAB
  have hl1 : n1 < lid := by lia
  have hl2 : n2 < lid := by lia
  have pr : ∀ a b : Nat, a < qA → b < qA → a * b < lid := fun a b ha hb => by have := Nat.mul_lt_mul'' ha hb; lia
  have p12 := pr n1 n2 hq1 hq2
  have p11 := pr n1 n1 hq1 hq1
  have p22 := pr n2 n2 hq2 hq2
  have g3 := fn_law_nat T hw hl1
  have g4 := fn_law_nat T hw hl2
  have bt1 : Builtin.Int.intBits (n1 : Int) ≤ 81 := intBits_le_iff.mpr (by lia)
  have bt2 : Builtin.Int.intBits (n2 : Int) ≤ 81 := intBits_le_iff.mpr (by lia)
  have mo12 : IntMulOk (n1 : Int) (n2 : Int) := .of_le bt1 bt2 (by lia)
  have mo11 : IntMulOk (n1 : Int) (n1 : Int) := .of_le bt1 bt1 (by lia)
  have mo22 : IntMulOk (n2 : Int) (n2 : Int) := .of_le bt2 bt2 (by lia)
  refine ExD.seq (Ex1.assign (d := .ints SS) (EvO.sh T.ok (Ev.cast (Ev.bin T.ok (Ev.comp (ds := (l.take (20 : Int).toNat).map V.int) (rs := ((l.take (20 : Int).toNat).map (fun a => if a < 0 then -a else a)).map V.int) (σc := []) T.ok (EvIt.list T.ok (by walk_at "evs")) (CompOk.of rfl (by decide +kernel) .nil) rfl (fun i d hd => ?_) (by simp) (by simp; lia)) (by walk_at "evs") (Bop.cat (by simp; lia))) ?_)) (by walk_at "sto")) ?_
  · rw [List.getElem?_map, Option.map_eq_some_iff] at hd
    obtain ⟨j, hj, rfl⟩ := hd
    exact ⟨.int (if j < 0 then -j else j), by rw [List.getElem?_map, List.getElem?_map, hj]; rfl, by walk_at "evs"⟩
  · rw [eSS]; show _ = V.list (List.map V.int _); rw [List.map_append]; rfl
  refine ExD.seq (Ex1.assign (d := .int w) (EvO.cast (by walk_at "v") (congrArg V.int ew.symm)) (by walk_at "sto")) ?_
  refine ExD.seq (Ex1.swap T.ok (xs := [Str.ofString "one", Str.ofString "other"]) (by walk_at "v") (by walk_at "stos") rfl (hw := by walk_at "swp")) ?_
  refine ExD.seq (Ex1.swap T.ok (xs := [Str.ofString "a", Str.ofString "b"]) (by walk_at "v") (by walk_at "stos") rfl (hw := by walk_at "swp")) ?_
  refine ExD.def_ T.ok rfl rfl (fun _ => rfl) (by decide +kernel) (by walk_at "sto") ?_
  intro qual f c' oc vs t doc pm ctv ps hd hv
  refine ExX.of fun X hX1 hX2 => ?_
  have T' : Tx (C.ext X) := T.ext
  have lm : ∀ a b : Nat, a < lid → b < lid → Fn (C.ext X) 6 (.fn ((C.ext X).ad 49)) [N w a, N w b, .int w] (N w (a * b)) := fun a b ha hb => (fn_law_mul T' hw ha hb).le (by lia)
  have ls : ∀ a : Nat, a < lid → Fn (C.ext X) 7 (.fn ((C.ext X).ad 50)) [N w a, .int w] (N w (a * a)) := fun a ha => (fn_law_sqr T' hw ha).le (by lia)
  have hag : ∀ a b : Nat, a < 16 * qA → b < 16 * qA → Fn (C.ext X) 10 (.fn f) [N w a, N w b, .int w] (N w (a * b)) := fun a b ha hb => by
    have la := len_le hw (show a < lid by lia)
    have lb := len_le hw (show b < lid by lia)
    have k1 := fn_toom3 (q := qB) (k := 6) (m := .fn ((C.ext X).ad 49)) T' hw qB_ok (show a < qB by lia) (show b < qB by lia) (by lia) (fun a b ha hb => lm a b (by lia) (by lia))
    have k2 := fn_law_mul T' hw (show a < lid by lia) (show b < lid by lia)
    refine Fn.def T'.ok (ps := [Str.ofString "p", Str.ofString "q", Str.ofString "width"]) (fun h g => g.2 _ hX1) rfl (fun h g => ⟨c', oc, vs, t, rfl, g.2 _ hX2, hd, hv⟩) rfl rfl rfl rfl (by walk_at "bind") rfl (by decide +kernel) (fun x hx => by simp only [List.mem_cons, List.not_mem_nil, or_false] at hx; rcases hx with rfl | rfl | rfl <;> exact .inl rfl) rfl rfl rfl ?_
    dsimp only [List.zip, List.zipWith]
    refine Ex.rete T'.ok (Ev.iteC (b := decide (((dg (2 ^ w) a).length : Int) > 2) && decide (((dg (2 ^ w) b).length : Int) > 2)) T'.ok (Et.and T'.ok (by walk_at "evs") (fun _ => Et.and1 (by walk_at "evs"))) (fun _ => ⟨_, by walk_at "evs", rfl⟩) (fun _ => ⟨_, by walk_at "evs", rfl⟩)) rfl
  have t3 := fn_toom3 (q := qA) (k := 6) (m := .fn ((C.ext X).ad 49)) T' hw qA_ok hq1 hq2 (by lia) (fun a b ha hb => lm a b (by lia) (by lia))
  have t4 := fn_toom4 (q := qA) (k := 6) (m := .fn ((C.ext X).ad 49)) T' hw qA_ok hq1 hq2 (by lia) (fun a b ha hb => lm a b (by lia) (by lia))
  have t4a := fn_toom4 (q := qA) (k := 10) (m := .fn f) T' hw qA_ok hq1 hq2 (by lia) hag
  have u3 := fn_toom_sqr3 (q := qA) (k := 7) (m := .fn ((C.ext X).ad 50)) T' hw qA_ok hq1 (by lia) (fun a ha => ls a (by lia))
  have u4 := fn_toom_sqr4 (q := qA) (k := 7) (m := .fn ((C.ext X).ad 50)) T' hw qA_ok hq2 (by lia) (fun a ha => ls a (by lia))
  have lv := fn_law_value T' hw p12
  have lv1 := fn_law_value T' hw p11
  have lv2 := fn_law_value T' hw p22
  have hQp : 0 < (2 ^ w) ^ 2 := Nat.pow_pos (by lia)
  have lp := fn_points_right T' hw (rrF_lt (SS := SS) (i := 0) hQp) (rrF_lt (SS := SS) (i := 1) hQp) (rrF_lt (SS := SS) (i := 2) hQp) (rrF_lt (SS := SS) (i := 3) hQp) (rrF_lt (SS := SS) (i := 4) hQp) (rrF_lt (SS := SS) (i := 5) hQp) (rrF_lt (SS := SS) (i := 6) hQp)
  have eQ : (1 * 2 ^ (2 * (w : Int)).toNat : Int) = (((2 ^ w) ^ 2 : Nat) : Int) := by rw [show (2 * (w : Int)).toNat = w * 2 by lia, Int.one_mul, ← Nat.pow_mul, Int.natCast_pow]; rfl
  have hQ0 : 0 < (1 * 2 ^ (2 * (w : Int)).toNat : Int) := by rw [eQ]; lia
  have c1 := fun a : Nat => Int.emod_nonneg (a : Int) (show (SS.length : Int) ≠ 0 by lia)
  have c2 := fun a : Nat => Int.emod_lt_of_pos (a : Int) (show (0 : Int) < (SS.length : Int) by lia)
  have okC := T.ok
  clear T eSS ew hpw hqa hml qa16 qb16 hsq hab pr hB hl1 hl2 hq1 hq2 hn1 hn2 p12 p11 p22
  refine ExX.assign okC (by walk_at "ev") (by walk_at "sto") (fun _ => rfl) ?_
  refine ExX.ifF okC (Et.cmp T'.ok (Ev.compL ([(N w (n1 * n2), .int ((n1 * n2 : Nat) : Int)), (N w (n1 * n2), .int ((n1 * n2 : Nat) : Int)), (N w (n1 * n2), .int ((n1 * n2 : Nat) : Int))] : List (V × V)) (σc := [(Str.ofString "w", .int w)]) T'.ok (EvIt.list T'.ok (by walk_at "ev")) (CompOk.of rfl (by decide +kernel) (.cons rfl rfl .nil)) rfl (by walk_at "mems" <;> walk_at "evs") (by simp)) (by walk_at "evs")
    (Cop.neSame (k := 2) (by rfl) (by rw [← Int.natCast_mul]; rfl))) ?_
  refine ExX.ifF okC (Et.cmp T'.ok (Ev.compL ([(N w (n1 * n1), .int ((n1 * n1 : Nat) : Int)), (N w (n2 * n2), .int ((n2 * n2 : Nat) : Int))] : List (V × V)) (σc := [(Str.ofString "w", .int w)]) T'.ok (EvIt.tup T'.ok (Ev.cast (by walk_at "ev") (by rfl))) (CompOk.of rfl (by decide +kernel) (.cons rfl rfl .nil)) rfl (by walk_at "mems" <;> walk_at "evs") (by simp)) (by walk_at "evs")
    (Cop.neSame (k := 2) (by rfl) (by rw [← Int.natCast_mul, ← Int.natCast_mul]; rfl))) ?_
  refine ExX.ret okC (Ev.call T'.ok (.g T' rfl rfl) (.cons T'.ok (Ev.cast (d' := .ints [((rrF SS ((2 ^ w) ^ 2) 0 : Nat) : Int), ((rrF SS ((2 ^ w) ^ 2) 1 : Nat) : Int), ((rrF SS ((2 ^ w) ^ 2) 2 : Nat) : Int), ((rrF SS ((2 ^ w) ^ 2) 3 : Nat) : Int), ((rrF SS ((2 ^ w) ^ 2) 4 : Nat) : Int), ((rrF SS ((2 ^ w) ^ 2) 5 : Nat) : Int), ((rrF SS ((2 ^ w) ^ 2) 6 : Nat) : Int)]) (Ev.comp (ds := rangeV 0 1 (7 : Int).toNat) (rs := (List.range 7).map fun i => V.int ((rrF SS ((2 ^ w) ^ 2) i : Nat) : Int)) (σc := [(Str.ofString "some", .ints SS), (Str.ofString "w", .int w)]) T'.ok (by walk_at "it") (CompOk.of rfl (by decide +kernel) (.cons rfl rfl (.cons rfl rfl .nil))) rfl (fun i d hd => ?_) (by rw [rangeV_length]; rfl) (by rw [rangeV_length]; decide)) (by rfl)) (.cons T'.ok (.name rfl) .nil)) lp (le_of_ble rfl))
  obtain ⟨hi, rfl⟩ := rangeV_get hd
  have hi7 : i < 7 := hi
  rw [show (0 : Int) + (i : Int) * 1 = (i : Int) by lia]
  have d1 := c1 i
  have d2 := c2 i
  refine ⟨_, by rw [List.getElem?_map, List.getElem?_range hi7]; rfl, Ev.int (by walk_at "evs") ?_⟩
  rw [eQ]
  exact rrF_int hQp
end
-- J2
/-- the context at the law's call -/
def lawC (prog : Program) (w : World) (mg mb : Str → Option Value) (gh : Heap) : Cx where
  prog := prog
  w := w
  K := []
  mg := mg
  mb := mb
  G := fun h => Keeps gh h
theorem free_ok : btab.all (fun x => !startupNames.contains x && !(looseW Q []).contains x && !((recsOf Q).map (·.name)).contains x && !((litsOf Q).map (·.1)).contains x && !((clssOf Q (looseW Q [])).map (·.name)).contains x) = true := by kernel_rfl
theorem lawC_ok {prog : Program} {w : World} {mg mb : Str → Option Value} {mean : ExcName → Option Value} {h : Heap} {tabs : List (Addr × Addr)} (hT : TabsAt tabs h) (T : Top Q (looseW Q []) mean mg mb h) : Tx (lawC prog w mg mb (ghostOf h tabs)) where
  ok := {
    mono := fun k g => Keeps.trans g k
    inK := fun g a o e => by cases e
    g := fun g => (ghost_ns hT T.g).keeps g
    b := fun g => (ghost_ns hT T.b).keeps g
    nl := fun g => by
      obtain ⟨mc, x, r⟩ := T.nolimit
      exact Heap.NoLimit.keeps ⟨mc, ghost_ns hT x, r⟩ g
    bu := T.builtins }
  fn := fun d hd => by
    obtain ⟨a, o, pm, code, doc, h1, h2, h3, h4⟩ := T.fn d hd
    refine ⟨a, o, pm, code, doc, h1, fun h' k => k _ _ (ghost_get hT h2 (fun q => by rw [q] at h3; cases h3)), h3, fun h' k => ?_⟩
    obtain ⟨c, oc, vs, t, e, g1, g2, g3⟩ := h4
    exact ⟨c, oc, vs, t, e, k _ _ (ghost_get hT g1 (fun q => by rw [q] at g2; cases g2; cases g3)), g2, g3⟩
  bn := fun x hx => by
    have h := List.all_eq_true.mp free_ok x hx
    simp only [Bool.and_eq_true, Bool.not_eq_true', List.contains_iff_mem, ← Bool.not_eq_true, decide_eq_true_eq] at h
    exact T.free x (by simpa using h.1.1.1.1) (by simpa using h.1.1.1.2) (by simpa using h.1.1.2) (by simpa using h.1.2) (by simpa using h.2)
theorem caller_room : Room callerA 20 := ⟨rfl, by show 1 + claimMargin + 20 < 900; decide +kernel, by show 4 + 40 * 20 < 9000; decide⟩
theorem well_obj {P : Params} {h : Heap} {a : Addr} {ws : List Value} {ds : List PyData} (hw : Well P h (.ref a) (ofPy (.list ds))) (hl : h.IsList a ws.toArray) : h.get? a = some { cls := .type "list", data := .seq ws.toArray } := by
  have hw' : Well P h (.ref a) (.list (ofPys ds)) := by simpa [ofPy] using hw
  cases hw' with
  | list e _ =>
    obtain ⟨o, e1, _, n, e2⟩ := hl
    rw [e] at e1
    cases e1
    cases e2
    exact e
theorem law_rec : ∃ d, recAt 55 = some d ∧ d.name = Str.ofString "law" := ⟨_, rfl, rfl⟩
theorem join {mean : ExcName → Option Value} {prog : Program} {w : World} {mg mb : Str → Option Value} {s₁ : Shared} (T : Top Q (looseW Q []) mean mg mb s₁.heap) {c P : Addr} (hT9 : TabsAt [(c, P)] s₁.heap) {fa a : Addr} {ns : List Int} {ws : List Value}
    (hmg : mg (Str.ofString "law") = some (.ref fa)) (hcode : ∀ o fd, s₁.heap.get? fa = some o → o.data = .func fd → fd.code = .ref c) (hw : Well w.params s₁.heap (.ref a) (ofPy (.list (ns.map .int)))) (hl : s₁.heap.IsList a ws.toArray) (hi : IntsAre ws ns) (hlen : ns.length ≤ 63) {R : Result → Shared → Prop}
    (hR : ∀ h tk, (∀ b o, (ghostOf s₁.heap [(c, P)]).get? b = some o → h.get? b = some o) → GrownAt P h → R (.ok (.ret (.bool true))) { s₁ with heap := h, toks := tk }) :
    codeAny (model prog w) callerA (.call (.ref fa) ⟨[.ref a], []⟩) R s₁ := by
  have T0 : Tx (lawC prog w mg mb (ghostOf s₁.heap [(c, P)])) := lawC_ok hT9 T
  obtain ⟨d, hd1, hd2⟩ := law_rec
  have e55 : mg d.name = some (.ref ((lawC prog w mg mb (ghostOf s₁.heap [(c, P)])).ad 55)) := T0.ad hd1
  rw [hd2, hmg] at e55
  obtain rfl : fa = (lawC prog w mg mb (ghostOf s₁.heap [(c, P)])).ad 55 := by simpa using e55
  have hgl : (ghostOf s₁.heap [(c, P)]).get? a = some { cls := .type "list", data := .seq ws.toArray } := ghost_get hT9 (well_obj hw hl) (fun q => by cases q)
  obtain ⟨bm, ob, b1, b2, b3, b4, b5, b6⟩ := T.bmain
  refine law_ok (C := lawC prog w mg mb (ghostOf s₁.heap [(c, P)])) (l := ns) T0 hlen caller_room hT9 (Keeps.refl _) hcode ⟨bm, ob, b1, b2, fun q => ?_, ghost_get hT9 b3 (fun q => by rw [q] at b4; cases b4), b4, b5, b6⟩ (.list hgl List.not_mem_nil (ints_reps hi)) fun v h tk k gr rv => ?_
  · obtain ⟨o, es, ep, e, hd, _⟩ := T.g
    rw [q, e] at b3
    cases b3
    rw [hd] at b6
    cases b6
  · cases rv
    exact hR h tk k gr
theorem law_tab {mean : ExcName → Option Value} {mg mb : Str → Option Value} {h : Heap} (T : Top Q (looseW Q []) mean mg mb h) {fa : Addr} (hmg : mg (Str.ofString "law") = some (.ref fa)) : ∃ c P, TabsAt [(c, P)] h ∧ ∀ o fd, h.get? fa = some o → o.data = .func fd → fd.code = .ref c := by
  obtain ⟨d, hd1, hd2⟩ := law_rec
  obtain ⟨a, o, fd, c, P, t1, t2, t3, t4, t5, t6⟩ := T.tab d (recAt_mem hd1)
  rw [hd2, hmg] at t1
  obtain rfl : fa = a := by simpa using t1
  refine ⟨c, P, fun q hq => ?_, fun o' fd' e1 e2 => ?_⟩
  · rw [List.mem_singleton.mp hq]
    exact ⟨CodeHd.of t5 t6, t6.2⟩
  · rw [t2] at e1
    cases e1
    rw [t3] at e2
    cases e2
    exact t4
theorem lawD_name : lawD.name = Str.ofString "law" := by kernel_rfl
end Mine
set_option maxRecDepth 100000 in
set_option maxHeartbeats 8000000 in
theorem PySem.Challenge.cw_nn0027_01_holds : PySem.Challenge.rw_nn0027_01.Holds := by
  refine Mine.hd2 ?_
  k_fill
  intro w s₀ s₁ mg mb G Y fa o pm cd doc dV kV ho hd hcd hD hmg hg args vals as hpre hlay hrd hwl hlo
  refine Ground.open G ?_
  intro T B D TE TW
  rw [Mine.lawD_name] at hmg
  obtain ⟨c9, P9, hT9, hcode⟩ := Mine.law_tab T hmg
  wrow_args hpre hlay hrd hwl hlo
  clear ho hd hcd hD
  refine enter_call ?_
  kn_posts
  refine Mine.join T hT9 hmg hcode (by assumption) (by assumption) (by assumption) (by omega) fun h tk k gr => ?_
  refine ⟨⟨.inl ⟨.bool true, .bool true, [], rfl, fun _ => ?_, .bool true, ?_, fun _ => ⟨List.nodup_nil, fun a ha => absurd ha List.not_mem_nil⟩⟩, k, rfl, hg⟩, gr, trivial⟩
  · rfl
  · kc_post
