import PyProof.Rows.All
import Wide.All
import OpenK.AllK
import Wide.FinOn
import PySem.Challenge.RW_nu0335_01
open PySem PySem.W PyProof.Rows PySem.Spec PySem.Calls
set_option Elab.async false
set_option maxRecDepth 100000
set_option maxHeartbeats 8000000
set_option rowWalk.seconds 0
set_option compiler.extract_closed false
namespace Mine
/-- what stands in the heap behind the top; the defs' parts are given by the program (`hd.heap_39`) -/
noncomputable def hd.Kof (a3 : Arguments) (b3 : List Stmt) (s3 : Scope) (a4 : Arguments) (b4 : List Stmt) (s4 : Scope) (a5 : Arguments) (b5 : List Stmt) (s5 : Scope) (a6 : Arguments) (b6 : List Stmt) (s6 : Scope) (a7 : Arguments) (b7 : List Stmt) (s7 : Scope) (a8 : Arguments) (b8 : List Stmt) (s8 : Scope) (a9 : Arguments) (b9 : List Stmt) (s9 : Scope) (a10 : Arguments) (b10 : List Stmt) (s10 : Scope) (a11 : Arguments) (b11 : List Stmt) (s11 : Scope) (a12 : Arguments) (b12 : List Stmt) (s12 : Scope) (a14_0 : Arguments) (b14_0 : List Stmt) (s14_0 : Scope) (a15 : Arguments) (b15 : List Stmt) (s15 : Scope) (a16 : Arguments) (b16 : List Stmt) (s16 : Scope) (a17 : Arguments) (b17 : List Stmt) (s17 : Scope) (a18 : Arguments) (b18 : List Stmt) (s18 : Scope) (a19 : Arguments) (b19 : List Stmt) (s19 : Scope) (a20_0 : Arguments) (b20_0 : List Stmt) (s20_0 : Scope) (a20_1 : Arguments) (b20_1 : List Stmt) (s20_1 : Scope) (a20_2 : Arguments) (b20_2 : List Stmt) (s20_2 : Scope) (a20_3 : Arguments) (b20_3 : List Stmt) (s20_3 : Scope) (a20_4 : Arguments) (b20_4 : List Stmt) (s20_4 : Scope) (a20_5 : Arguments) (b20_5 : List Stmt) (s20_5 : Scope) (a20_6 : Arguments) (b20_6 : List Stmt) (s20_6 : Scope) (a20_7 : Arguments) (b20_7 : List Stmt) (s20_7 : Scope) (a20_8 : Arguments) (b20_8 : List Stmt) (s20_8 : Scope) (a20_9 : Arguments) (b20_9 : List Stmt) (s20_9 : Scope) (a20_10 : Arguments) (b20_10 : List Stmt) (s20_10 : Scope) (a21 : Arguments) (b21 : List Stmt) (s21 : Scope) (a22 : Arguments) (b22 : List Stmt) (s22 : Scope) (a23 : Arguments) (b23 : List Stmt) (s23 : Scope) (a24 : Arguments) (b24 : List Stmt) (s24 : Scope) (a25 : Arguments) (b25 : List Stmt) (s25 : Scope) (a26 : Arguments) (b26 : List Stmt) (s26 : Scope) (a28 : Arguments) (b28 : List Stmt) (s28 : Scope) (a29 : Arguments) (b29 : List Stmt) (s29 : Scope) (a30 : Arguments) (b30 : List Stmt) (s30 : Scope) (a31 : Arguments) (b31 : List Stmt) (s31 : Scope) (a32 : Arguments) (b32 : List Stmt) (s32 : Scope) : Params → Frag := fun P =>
  (nat_lit 2, { cls := Value.none, data := Data.dict #[{ hash := PyData.keyHash P (Str.ofString "type.__subclasses__.Exception.0"), key := Value.str (Str.ofString "type.__subclasses__.Exception.0") 205, val := Value.int 24 0 }, { hash := PyData.keyHash P (Str.ofString "type.__subclasses__.Exception.n"), key := Value.str (Str.ofString "type.__subclasses__.Exception.n") 206, val := Value.int 1 0 }] 2 }) ::
  (nat_lit 3, { cls := Value.type "dict", data := Data.dict #[{ hash := PyData.keyHash P (Str.ofString "__name__"), key := Value.str (Str.ofString "__name__") 165, val := Value.str (Str.ofString "law_nu0335_01") 539 }, { hash := PyData.keyHash P (Str.ofString "__doc__"), key := Value.str (Str.ofString "__doc__") 166, val := Value.none }, { hash := PyData.keyHash P (Str.ofString "__package__"), key := Value.str (Str.ofString "__package__") 167, val := Value.none }, { hash := PyData.keyHash P (Str.ofString "__loader__"), key := Value.str (Str.ofString "__loader__") 168, val := Value.builtin "__main__.__loader__#opaque" }, { hash := PyData.keyHash P (Str.ofString "__spec__"), key := Value.str (Str.ofString "__spec__") 169, val := Value.none }, { hash := PyData.keyHash P (Str.ofString "__annotations__"), key := Value.str (Str.ofString "__annotations__") 170, val := Value.ref 6 }, { hash := PyData.keyHash P (Str.ofString "__builtins__"), key := Value.str (Str.ofString "__builtins__") 171, val := Value.ref 4 }, { hash := PyData.keyHash P (Str.ofString "__file__"), key := Value.str (Str.ofString "__file__") 173, val := Value.str (Str.ofString "/claim/cut.py") 172 }, { hash := PyData.keyHash P (Str.ofString "__cached__"), key := Value.str (Str.ofString "__cached__") 174, val := Value.none }, { hash := PyData.keyHash P (Str.ofString "YardError"), key := Value.str (Str.ofString "YardError") 208, val := Value.ref 24 }, { hash := PyData.keyHash P (Str.ofString "conditions"), key := Value.str (Str.ofString "conditions") 216, val := Value.ref 34 }, { hash := PyData.keyHash P (Str.ofString "operations"), key := Value.str (Str.ofString "operations") 222, val := Value.ref 41 }, { hash := PyData.keyHash P (Str.ofString "memory_names"), key := Value.str (Str.ofString "memory_names") 228, val := Value.ref 48 }, { hash := PyData.keyHash P (Str.ofString "is_whole"), key := Value.str (Str.ofString "is_whole") 237, val := Value.ref 55 }, { hash := PyData.keyHash P (Str.ofString "is_register"), key := Value.str (Str.ofString "is_register") 244, val := Value.ref 62 }, { hash := PyData.keyHash P (Str.ofString "immediate_operation"), key := Value.str (Str.ofString "immediate_operation") 251, val := Value.ref 69 }, { hash := PyData.keyHash P (Str.ofString "operation_fault"), key := Value.str (Str.ofString "operation_fault") 262, val := Value.ref 76 }, { hash := PyData.keyHash P (Str.ofString "memory_fault"), key := Value.str (Str.ofString "memory_fault") 269, val := Value.ref 83 }, { hash := PyData.keyHash P (Str.ofString "branch_fault"), key := Value.str (Str.ofString "branch_fault") 280, val := Value.ref 90 }, { hash := PyData.keyHash P (Str.ofString "row_fault"), key := Value.str (Str.ofString "row_fault") 288, val := Value.ref 97 }, { hash := PyData.keyHash P (Str.ofString "AsmError"), key := Value.str (Str.ofString "AsmError") 317, val := Value.ref 114 }, { hash := PyData.keyHash P (Str.ofString "is_letter"), key := Value.str (Str.ofString "is_letter") 324, val := Value.ref 123 }, { hash := PyData.keyHash P (Str.ofString "is_figure"), key := Value.str (Str.ofString "is_figure") 331, val := Value.ref 130 }, { hash := PyData.keyHash P (Str.ofString "word_end"), key := Value.str (Str.ofString "word_end") 340, val := Value.ref 137 }, { hash := PyData.keyHash P (Str.ofString "row_tokens"), key := Value.str (Str.ofString "row_tokens") 352, val := Value.ref 144 }, { hash := PyData.keyHash P (Str.ofString "is_number"), key := Value.str (Str.ofString "is_number") 361, val := Value.ref 151 }, { hash := PyData.keyHash P (Str.ofString "RowReader"), key := Value.str (Str.ofString "RowReader") 468, val := Value.ref 238 }, { hash := PyData.keyHash P (Str.ofString "memory_row"), key := Value.str (Str.ofString "memory_row") 480, val := Value.ref 249 }, { hash := PyData.keyHash P (Str.ofString "operation_row"), key := Value.str (Str.ofString "operation_row") 490, val := Value.ref 256 }, { hash := PyData.keyHash P (Str.ofString "read_row"), key := Value.str (Str.ofString "read_row") 501, val := Value.ref 263 }, { hash := PyData.keyHash P (Str.ofString "label_of"), key := Value.str (Str.ofString "label_of") 509, val := Value.ref 270 }, { hash := PyData.keyHash P (Str.ofString "aimed"), key := Value.str (Str.ofString "aimed") 521, val := Value.ref 277 }, { hash := PyData.keyHash P (Str.ofString "assemble"), key := Value.str (Str.ofString "assemble") 538, val := Value.ref 284 }, { hash := PyData.keyHash P (Str.ofString "_law_pull"), key := Value.str (Str.ofString "_law_pull") 553, val := Value.ref 291 }, { hash := PyData.keyHash P (Str.ofString "_law_sound"), key := Value.str (Str.ofString "_law_sound") 565, val := Value.ref 298 }, { hash := PyData.keyHash P (Str.ofString "_law_wrong"), key := Value.str (Str.ofString "_law_wrong") 572, val := Value.ref 305 }, { hash := PyData.keyHash P (Str.ofString "_law_told"), key := Value.str (Str.ofString "_law_told") 580, val := Value.ref 312 }, { hash := PyData.keyHash P (Str.ofString "law"), key := Value.str (Str.ofString "law") 601, val := Value.ref 319 }] 38 }) ::
  (nat_lit 15, { cls := Value.type "tuple", data := Data.seq #[Value.type "Exception"] }) ::
  (nat_lit 22, { cls := Value.type "tuple", data := Data.seq #[] }) ::
  (nat_lit 23, { cls := Value.type "dict", data := Data.dict #[{ hash := PyData.keyHash P (Str.ofString "__module__"), key := Value.str (Str.ofString "__module__") 196, val := Value.str (Str.ofString "moduleyard.errors") 187 }, { hash := PyData.keyHash P (Str.ofString "__firstlineno__"), key := Value.str (Str.ofString "__firstlineno__") 200, val := Value.int 2 199 }, { hash := PyData.keyHash P (Str.ofString "__static_attributes__"), key := Value.str (Str.ofString "__static_attributes__") 201, val := Value.ref 22 }, { hash := PyData.keyHash P (Str.ofString "__weakref__"), key := Value.str (Str.ofString "__weakref__") 203, val := Value.ref 25 }, { hash := PyData.keyHash P (Str.ofString "__doc__"), key := Value.str (Str.ofString "__doc__") 204, val := Value.none }] 3 }) ::
  (nat_lit 24, { cls := Value.type "type", data := Data.cls { name := Str.ofString "YardError", bases := [Value.type "Exception"], mro := [Value.ref 24, Value.type "Exception", Value.type "BaseException", Value.type "object"], ns := 23, qualname := Str.ofString "YardError", subclasses := [Value.ref 114] }, slots := #[some (Value.ref 15), none, some (Value.str (Str.ofString "YardError") 189), some (Value.str (Str.ofString "YardError") 197), some (Value.builtin "Exception.__new__"), some (Value.bool true)] }) ::
  (nat_lit 25, { cls := Value.type "getset_descriptor", data := Data.fields #[Value.str (Str.ofString "__weakref__") 202, Value.ref 24, Value.builtin "ExceptionGroup.__weakref__", Value.none] }) ::
  (nat_lit 28, { cls := Value.type "tuple", data := Data.seq #[] }) ::
  (nat_lit 30, { cls := Value.type "tuple", data := Data.seq #[] }) ::
  (nat_lit 31, { cls := Value.type "tuple", data := Data.seq #[] }) ::
  (nat_lit 33, { cls := Value.type "code", data := Data.fields #[Value.str (Str.ofString "conditions") 211, Value.str (Str.ofString "conditions") 212, Value.str (Str.ofString "/claim/cut.py") 213, Value.int 5 0, Value.int 0 0, Value.int 0 0, Value.int 0 0, Value.int 3 0, Value.ref 28, Value.bool true, Value.int 181 0, Value.ref 29, Value.none, Value.ref 30, Value.ref 31, Value.ref 32, Value.int 214 0, Value.int 5 0, Value.str (Str.ofString "/claim/cut.py") 215] }) ::
  (nat_lit 34, { cls := Value.type "function", data := Data.func { name := Str.ofString "conditions", qualname := Str.ofString "conditions", params := a3, body := FuncBody.stmts b3, scope := s3, globals := 3, closure := [], defaults := Value.none, kwdefaults := Value.none, pyModule := Value.str (Str.ofString "moduleyard.isa") 209, code := Value.ref 33 } }) ::
  (nat_lit 35, { cls := Value.type "tuple", data := Data.seq #[] }) ::
  (nat_lit 37, { cls := Value.type "tuple", data := Data.seq #[] }) ::
  (nat_lit 38, { cls := Value.type "tuple", data := Data.seq #[] }) ::
  (nat_lit 40, { cls := Value.type "code", data := Data.fields #[Value.str (Str.ofString "operations") 217, Value.str (Str.ofString "operations") 218, Value.str (Str.ofString "/claim/cut.py") 219, Value.int 7 0, Value.int 0 0, Value.int 0 0, Value.int 0 0, Value.int 3 0, Value.ref 35, Value.bool true, Value.int 181 0, Value.ref 36, Value.none, Value.ref 37, Value.ref 38, Value.ref 39, Value.int 220 0, Value.int 7 0, Value.str (Str.ofString "/claim/cut.py") 221] }) ::
  (nat_lit 41, { cls := Value.type "function", data := Data.func { name := Str.ofString "operations", qualname := Str.ofString "operations", params := a4, body := FuncBody.stmts b4, scope := s4, globals := 3, closure := [], defaults := Value.none, kwdefaults := Value.none, pyModule := Value.str (Str.ofString "moduleyard.isa") 209, code := Value.ref 40 } }) ::
  (nat_lit 42, { cls := Value.type "tuple", data := Data.seq #[] }) ::
  (nat_lit 44, { cls := Value.type "tuple", data := Data.seq #[] }) ::
  (nat_lit 45, { cls := Value.type "tuple", data := Data.seq #[] }) ::
  (nat_lit 47, { cls := Value.type "code", data := Data.fields #[Value.str (Str.ofString "memory_names") 223, Value.str (Str.ofString "memory_names") 224, Value.str (Str.ofString "/claim/cut.py") 225, Value.int 9 0, Value.int 0 0, Value.int 0 0, Value.int 0 0, Value.int 3 0, Value.ref 42, Value.bool true, Value.int 181 0, Value.ref 43, Value.none, Value.ref 44, Value.ref 45, Value.ref 46, Value.int 226 0, Value.int 9 0, Value.str (Str.ofString "/claim/cut.py") 227] }) ::
  (nat_lit 48, { cls := Value.type "function", data := Data.func { name := Str.ofString "memory_names", qualname := Str.ofString "memory_names", params := a5, body := FuncBody.stmts b5, scope := s5, globals := 3, closure := [], defaults := Value.none, kwdefaults := Value.none, pyModule := Value.str (Str.ofString "moduleyard.isa") 209, code := Value.ref 47 } }) ::
  (nat_lit 49, { cls := Value.type "tuple", data := Data.seq #[] }) ::
  (nat_lit 51, { cls := Value.type "tuple", data := Data.seq #[Value.str (Str.ofString "value") 232, Value.str (Str.ofString "low") 233, Value.str (Str.ofString "high") 234] }) ::
  (nat_lit 52, { cls := Value.type "tuple", data := Data.seq #[] }) ::
  (nat_lit 54, { cls := Value.type "code", data := Data.fields #[Value.str (Str.ofString "is_whole") 229, Value.str (Str.ofString "is_whole") 230, Value.str (Str.ofString "/claim/cut.py") 231, Value.int 11 0, Value.int 3 0, Value.int 0 0, Value.int 0 0, Value.int 3 0, Value.ref 49, Value.bool true, Value.int 181 0, Value.ref 50, Value.none, Value.ref 51, Value.ref 52, Value.ref 53, Value.int 235 0, Value.int 11 0, Value.str (Str.ofString "/claim/cut.py") 236] }) ::
  (nat_lit 55, { cls := Value.type "function", data := Data.func { name := Str.ofString "is_whole", qualname := Str.ofString "is_whole", params := a6, body := FuncBody.stmts b6, scope := s6, globals := 3, closure := [], defaults := Value.none, kwdefaults := Value.none, pyModule := Value.str (Str.ofString "moduleyard.isa") 209, code := Value.ref 54 } }) ::
  (nat_lit 56, { cls := Value.type "tuple", data := Data.seq #[] }) ::
  (nat_lit 58, { cls := Value.type "tuple", data := Data.seq #[Value.str (Str.ofString "value") 241] }) ::
  (nat_lit 59, { cls := Value.type "tuple", data := Data.seq #[] }) ::
  (nat_lit 61, { cls := Value.type "code", data := Data.fields #[Value.str (Str.ofString "is_register") 238, Value.str (Str.ofString "is_register") 239, Value.str (Str.ofString "/claim/cut.py") 240, Value.int 13 0, Value.int 1 0, Value.int 0 0, Value.int 0 0, Value.int 3 0, Value.ref 56, Value.bool true, Value.int 181 0, Value.ref 57, Value.none, Value.ref 58, Value.ref 59, Value.ref 60, Value.int 242 0, Value.int 13 0, Value.str (Str.ofString "/claim/cut.py") 243] }) ::
  (nat_lit 62, { cls := Value.type "function", data := Data.func { name := Str.ofString "is_register", qualname := Str.ofString "is_register", params := a7, body := FuncBody.stmts b7, scope := s7, globals := 3, closure := [], defaults := Value.none, kwdefaults := Value.none, pyModule := Value.str (Str.ofString "moduleyard.isa") 209, code := Value.ref 61 } }) ::
  (nat_lit 63, { cls := Value.type "tuple", data := Data.seq #[] }) ::
  (nat_lit 65, { cls := Value.type "tuple", data := Data.seq #[Value.str (Str.ofString "name") 248] }) ::
  (nat_lit 66, { cls := Value.type "tuple", data := Data.seq #[] }) ::
  (nat_lit 68, { cls := Value.type "code", data := Data.fields #[Value.str (Str.ofString "immediate_operation") 245, Value.str (Str.ofString "immediate_operation") 246, Value.str (Str.ofString "/claim/cut.py") 247, Value.int 15 0, Value.int 1 0, Value.int 0 0, Value.int 0 0, Value.int 3 0, Value.ref 63, Value.bool true, Value.int 181 0, Value.ref 64, Value.none, Value.ref 65, Value.ref 66, Value.ref 67, Value.int 249 0, Value.int 15 0, Value.str (Str.ofString "/claim/cut.py") 250] }) ::
  (nat_lit 69, { cls := Value.type "function", data := Data.func { name := Str.ofString "immediate_operation", qualname := Str.ofString "immediate_operation", params := a8, body := FuncBody.stmts b8, scope := s8, globals := 3, closure := [], defaults := Value.none, kwdefaults := Value.none, pyModule := Value.str (Str.ofString "moduleyard.isa") 209, code := Value.ref 68 } }) ::
  (nat_lit 70, { cls := Value.type "tuple", data := Data.seq #[] }) ::
  (nat_lit 72, { cls := Value.type "tuple", data := Data.seq #[Value.str (Str.ofString "row") 255, Value.str (Str.ofString "name") 256, Value.str (Str.ofString "a") 257, Value.str (Str.ofString "b") 258, Value.str (Str.ofString "c") 259] }) ::
  (nat_lit 73, { cls := Value.type "tuple", data := Data.seq #[] }) ::
  (nat_lit 75, { cls := Value.type "code", data := Data.fields #[Value.str (Str.ofString "operation_fault") 252, Value.str (Str.ofString "operation_fault") 253, Value.str (Str.ofString "/claim/cut.py") 254, Value.int 19 0, Value.int 1 0, Value.int 0 0, Value.int 0 0, Value.int 3 0, Value.ref 70, Value.bool true, Value.int 181 0, Value.ref 71, Value.none, Value.ref 72, Value.ref 73, Value.ref 74, Value.int 260 0, Value.int 19 0, Value.str (Str.ofString "/claim/cut.py") 261] }) ::
  (nat_lit 76, { cls := Value.type "function", data := Data.func { name := Str.ofString "operation_fault", qualname := Str.ofString "operation_fault", params := a9, body := FuncBody.stmts b9, scope := s9, globals := 3, closure := [], defaults := Value.none, kwdefaults := Value.none, pyModule := Value.str (Str.ofString "moduleyard.isa") 209, code := Value.ref 75 } }) ::
  (nat_lit 77, { cls := Value.type "tuple", data := Data.seq #[] }) ::
  (nat_lit 79, { cls := Value.type "tuple", data := Data.seq #[Value.str (Str.ofString "row") 266] }) ::
  (nat_lit 80, { cls := Value.type "tuple", data := Data.seq #[] }) ::
  (nat_lit 82, { cls := Value.type "code", data := Data.fields #[Value.str (Str.ofString "memory_fault") 263, Value.str (Str.ofString "memory_fault") 264, Value.str (Str.ofString "/claim/cut.py") 265, Value.int 32 0, Value.int 1 0, Value.int 0 0, Value.int 0 0, Value.int 3 0, Value.ref 77, Value.bool true, Value.int 181 0, Value.ref 78, Value.none, Value.ref 79, Value.ref 80, Value.ref 81, Value.int 267 0, Value.int 32 0, Value.str (Str.ofString "/claim/cut.py") 268] }) ::
  (nat_lit 83, { cls := Value.type "function", data := Data.func { name := Str.ofString "memory_fault", qualname := Str.ofString "memory_fault", params := a10, body := FuncBody.stmts b10, scope := s10, globals := 3, closure := [], defaults := Value.none, kwdefaults := Value.none, pyModule := Value.str (Str.ofString "moduleyard.isa") 209, code := Value.ref 82 } }) ::
  (nat_lit 84, { cls := Value.type "tuple", data := Data.seq #[] }) ::
  (nat_lit 86, { cls := Value.type "tuple", data := Data.seq #[Value.str (Str.ofString "row") 273, Value.str (Str.ofString "name") 274, Value.str (Str.ofString "cond") 275, Value.str (Str.ofString "c") 276, Value.str (Str.ofString "last") 277] }) ::
  (nat_lit 87, { cls := Value.type "tuple", data := Data.seq #[] }) ::
  (nat_lit 89, { cls := Value.type "code", data := Data.fields #[Value.str (Str.ofString "branch_fault") 270, Value.str (Str.ofString "branch_fault") 271, Value.str (Str.ofString "/claim/cut.py") 272, Value.int 36 0, Value.int 1 0, Value.int 0 0, Value.int 0 0, Value.int 3 0, Value.ref 84, Value.bool true, Value.int 181 0, Value.ref 85, Value.none, Value.ref 86, Value.ref 87, Value.ref 88, Value.int 278 0, Value.int 36 0, Value.str (Str.ofString "/claim/cut.py") 279] }) ::
  (nat_lit 90, { cls := Value.type "function", data := Data.func { name := Str.ofString "branch_fault", qualname := Str.ofString "branch_fault", params := a11, body := FuncBody.stmts b11, scope := s11, globals := 3, closure := [], defaults := Value.none, kwdefaults := Value.none, pyModule := Value.str (Str.ofString "moduleyard.isa") 209, code := Value.ref 89 } }) ::
  (nat_lit 91, { cls := Value.type "tuple", data := Data.seq #[] }) ::
  (nat_lit 93, { cls := Value.type "tuple", data := Data.seq #[Value.str (Str.ofString "row") 284, Value.str (Str.ofString "name") 285] }) ::
  (nat_lit 94, { cls := Value.type "tuple", data := Data.seq #[] }) ::
  (nat_lit 96, { cls := Value.type "code", data := Data.fields #[Value.str (Str.ofString "row_fault") 281, Value.str (Str.ofString "row_fault") 282, Value.str (Str.ofString "/claim/cut.py") 283, Value.int 51 0, Value.int 1 0, Value.int 0 0, Value.int 0 0, Value.int 3 0, Value.ref 91, Value.bool true, Value.int 181 0, Value.ref 92, Value.none, Value.ref 93, Value.ref 94, Value.ref 95, Value.int 286 0, Value.int 51 0, Value.str (Str.ofString "/claim/cut.py") 287] }) ::
  (nat_lit 97, { cls := Value.type "function", data := Data.func { name := Str.ofString "row_fault", qualname := Str.ofString "row_fault", params := a12, body := FuncBody.stmts b12, scope := s12, globals := 3, closure := [], defaults := Value.none, kwdefaults := Value.none, pyModule := Value.str (Str.ofString "moduleyard.isa") 209, code := Value.ref 96 } }) ::
  (nat_lit 98, { cls := Value.type "tuple", data := Data.seq #[Value.ref 24] }) ::
  (nat_lit 105, { cls := Value.type "tuple", data := Data.seq #[] }) ::
  (nat_lit 107, { cls := Value.type "tuple", data := Data.seq #[Value.str (Str.ofString "self") 306, Value.str (Str.ofString "row") 307, Value.str (Str.ofString "what") 308] }) ::
  (nat_lit 108, { cls := Value.type "tuple", data := Data.seq #[] }) ::
  (nat_lit 110, { cls := Value.type "code", data := Data.fields #[Value.str (Str.ofString "__init__") 303, Value.str (Str.ofString "AsmError.__init__") 304, Value.str (Str.ofString "/claim/cut.py") 305, Value.int 65 0, Value.int 3 0, Value.int 0 0, Value.int 0 0, Value.int 3 0, Value.ref 105, Value.bool true, Value.int 181 0, Value.ref 106, Value.none, Value.ref 107, Value.ref 108, Value.ref 109, Value.int 309 0, Value.int 65 0, Value.str (Str.ofString "/claim/cut.py") 310] }) ::
  (nat_lit 111, { cls := Value.type "function", data := Data.func { name := Str.ofString "__init__", qualname := Str.ofString "AsmError.__init__", params := a14_0, body := FuncBody.stmts b14_0, scope := s14_0, globals := 3, closure := [], defaults := Value.none, kwdefaults := Value.none, pyModule := Value.str (Str.ofString "moduleyard.asm") 289, code := Value.ref 110 } }) ::
  (nat_lit 112, { cls := Value.type "tuple", data := Data.seq #[Value.str (Str.ofString "row") 312, Value.str (Str.ofString "what") 313] }) ::
  (nat_lit 113, { cls := Value.type "dict", data := Data.dict #[{ hash := PyData.keyHash P (Str.ofString "__module__"), key := Value.str (Str.ofString "__module__") 298, val := Value.str (Str.ofString "moduleyard.asm") 289 }, { hash := PyData.keyHash P (Str.ofString "__firstlineno__"), key := Value.str (Str.ofString "__firstlineno__") 302, val := Value.int 63 301 }, { hash := PyData.keyHash P (Str.ofString "__init__"), key := Value.str (Str.ofString "__init__") 311, val := Value.ref 111 }, { hash := PyData.keyHash P (Str.ofString "__static_attributes__"), key := Value.str (Str.ofString "__static_attributes__") 314, val := Value.ref 112 }, { hash := PyData.keyHash P (Str.ofString "__doc__"), key := Value.str (Str.ofString "__doc__") 315, val := Value.none }] 2 }) ::
  (nat_lit 114, { cls := Value.type "type", data := Data.cls { name := Str.ofString "AsmError", bases := [Value.ref 24], mro := [Value.ref 114, Value.ref 24, Value.type "Exception", Value.type "BaseException", Value.type "object"], ns := 113, qualname := Str.ofString "AsmError" }, slots := #[some (Value.ref 98), none, some (Value.str (Str.ofString "AsmError") 291), some (Value.str (Str.ofString "AsmError") 299), some (Value.builtin "Exception.__new__"), some (Value.bool true)] }) ::
  (nat_lit 117, { cls := Value.type "tuple", data := Data.seq #[] }) ::
  (nat_lit 119, { cls := Value.type "tuple", data := Data.seq #[Value.str (Str.ofString "char") 321] }) ::
  (nat_lit 120, { cls := Value.type "tuple", data := Data.seq #[] }) ::
  (nat_lit 122, { cls := Value.type "code", data := Data.fields #[Value.str (Str.ofString "is_letter") 318, Value.str (Str.ofString "is_letter") 319, Value.str (Str.ofString "/claim/cut.py") 320, Value.int 68 0, Value.int 1 0, Value.int 0 0, Value.int 0 0, Value.int 3 0, Value.ref 117, Value.bool true, Value.int 181 0, Value.ref 118, Value.none, Value.ref 119, Value.ref 120, Value.ref 121, Value.int 322 0, Value.int 68 0, Value.str (Str.ofString "/claim/cut.py") 323] }) ::
  (nat_lit 123, { cls := Value.type "function", data := Data.func { name := Str.ofString "is_letter", qualname := Str.ofString "is_letter", params := a15, body := FuncBody.stmts b15, scope := s15, globals := 3, closure := [], defaults := Value.none, kwdefaults := Value.none, pyModule := Value.str (Str.ofString "moduleyard.asm") 289, code := Value.ref 122 } }) ::
  (nat_lit 124, { cls := Value.type "tuple", data := Data.seq #[] }) ::
  (nat_lit 126, { cls := Value.type "tuple", data := Data.seq #[Value.str (Str.ofString "char") 328] }) ::
  (nat_lit 127, { cls := Value.type "tuple", data := Data.seq #[] }) ::
  (nat_lit 129, { cls := Value.type "code", data := Data.fields #[Value.str (Str.ofString "is_figure") 325, Value.str (Str.ofString "is_figure") 326, Value.str (Str.ofString "/claim/cut.py") 327, Value.int 70 0, Value.int 1 0, Value.int 0 0, Value.int 0 0, Value.int 3 0, Value.ref 124, Value.bool true, Value.int 181 0, Value.ref 125, Value.none, Value.ref 126, Value.ref 127, Value.ref 128, Value.int 329 0, Value.int 70 0, Value.str (Str.ofString "/claim/cut.py") 330] }) ::
  (nat_lit 130, { cls := Value.type "function", data := Data.func { name := Str.ofString "is_figure", qualname := Str.ofString "is_figure", params := a16, body := FuncBody.stmts b16, scope := s16, globals := 3, closure := [], defaults := Value.none, kwdefaults := Value.none, pyModule := Value.str (Str.ofString "moduleyard.asm") 289, code := Value.ref 129 } }) ::
  (nat_lit 131, { cls := Value.type "tuple", data := Data.seq #[] }) ::
  (nat_lit 133, { cls := Value.type "tuple", data := Data.seq #[Value.str (Str.ofString "line") 335, Value.str (Str.ofString "start") 336, Value.str (Str.ofString "end") 337] }) ::
  (nat_lit 134, { cls := Value.type "tuple", data := Data.seq #[] }) ::
  (nat_lit 136, { cls := Value.type "code", data := Data.fields #[Value.str (Str.ofString "word_end") 332, Value.str (Str.ofString "word_end") 333, Value.str (Str.ofString "/claim/cut.py") 334, Value.int 72 0, Value.int 2 0, Value.int 0 0, Value.int 0 0, Value.int 3 0, Value.ref 131, Value.bool true, Value.int 181 0, Value.ref 132, Value.none, Value.ref 133, Value.ref 134, Value.ref 135, Value.int 338 0, Value.int 72 0, Value.str (Str.ofString "/claim/cut.py") 339] }) ::
  (nat_lit 137, { cls := Value.type "function", data := Data.func { name := Str.ofString "word_end", qualname := Str.ofString "word_end", params := a17, body := FuncBody.stmts b17, scope := s17, globals := 3, closure := [], defaults := Value.none, kwdefaults := Value.none, pyModule := Value.str (Str.ofString "moduleyard.asm") 289, code := Value.ref 136 } }) ::
  (nat_lit 138, { cls := Value.type "tuple", data := Data.seq #[] }) ::
  (nat_lit 140, { cls := Value.type "tuple", data := Data.seq #[Value.str (Str.ofString "line") 344, Value.str (Str.ofString "row") 345, Value.str (Str.ofString "tokens") 346, Value.str (Str.ofString "place") 347, Value.str (Str.ofString "char") 348, Value.str (Str.ofString "end") 349] }) ::
  (nat_lit 141, { cls := Value.type "tuple", data := Data.seq #[] }) ::
  (nat_lit 143, { cls := Value.type "code", data := Data.fields #[Value.str (Str.ofString "row_tokens") 341, Value.str (Str.ofString "row_tokens") 342, Value.str (Str.ofString "/claim/cut.py") 343, Value.int 77 0, Value.int 2 0, Value.int 0 0, Value.int 0 0, Value.int 3 0, Value.ref 138, Value.bool true, Value.int 181 0, Value.ref 139, Value.none, Value.ref 140, Value.ref 141, Value.ref 142, Value.int 350 0, Value.int 77 0, Value.str (Str.ofString "/claim/cut.py") 351] }) ::
  (nat_lit 144, { cls := Value.type "function", data := Data.func { name := Str.ofString "row_tokens", qualname := Str.ofString "row_tokens", params := a18, body := FuncBody.stmts b18, scope := s18, globals := 3, closure := [], defaults := Value.none, kwdefaults := Value.none, pyModule := Value.str (Str.ofString "moduleyard.asm") 289, code := Value.ref 143 } }) ::
  (nat_lit 145, { cls := Value.type "tuple", data := Data.seq #[] }) ::
  (nat_lit 147, { cls := Value.type "tuple", data := Data.seq #[Value.str (Str.ofString "token") 356, Value.str (Str.ofString "figures") 357, Value.str (Str.ofString "char") 358] }) ::
  (nat_lit 148, { cls := Value.type "tuple", data := Data.seq #[] }) ::
  (nat_lit 150, { cls := Value.type "code", data := Data.fields #[Value.str (Str.ofString "is_number") 353, Value.str (Str.ofString "is_number") 354, Value.str (Str.ofString "/claim/cut.py") 355, Value.int 94 0, Value.int 1 0, Value.int 0 0, Value.int 0 0, Value.int 3 0, Value.ref 145, Value.bool true, Value.int 181 0, Value.ref 146, Value.none, Value.ref 147, Value.ref 148, Value.ref 149, Value.int 359 0, Value.int 94 0, Value.str (Str.ofString "/claim/cut.py") 360] }) ::
  (nat_lit 151, { cls := Value.type "function", data := Data.func { name := Str.ofString "is_number", qualname := Str.ofString "is_number", params := a19, body := FuncBody.stmts b19, scope := s19, globals := 3, closure := [], defaults := Value.none, kwdefaults := Value.none, pyModule := Value.str (Str.ofString "moduleyard.asm") 289, code := Value.ref 150 } }) ::
  (nat_lit 159, { cls := Value.type "tuple", data := Data.seq #[] }) ::
  (nat_lit 161, { cls := Value.type "tuple", data := Data.seq #[Value.str (Str.ofString "self") 377, Value.str (Str.ofString "tokens") 378, Value.str (Str.ofString "row") 379] }) ::
  (nat_lit 162, { cls := Value.type "tuple", data := Data.seq #[] }) ::
  (nat_lit 164, { cls := Value.type "code", data := Data.fields #[Value.str (Str.ofString "__init__") 374, Value.str (Str.ofString "RowReader.__init__") 375, Value.str (Str.ofString "/claim/cut.py") 376, Value.int 104 0, Value.int 3 0, Value.int 0 0, Value.int 0 0, Value.int 3 0, Value.ref 159, Value.bool true, Value.int 181 0, Value.ref 160, Value.none, Value.ref 161, Value.ref 162, Value.ref 163, Value.int 380 0, Value.int 104 0, Value.str (Str.ofString "/claim/cut.py") 381] }) ::
  (nat_lit 165, { cls := Value.type "function", data := Data.func { name := Str.ofString "__init__", qualname := Str.ofString "RowReader.__init__", params := a20_0, body := FuncBody.stmts b20_0, scope := s20_0, globals := 3, closure := [], defaults := Value.none, kwdefaults := Value.none, pyModule := Value.str (Str.ofString "moduleyard.asm") 289, code := Value.ref 164 } }) ::
  (nat_lit 166, { cls := Value.type "tuple", data := Data.seq #[] }) ::
  (nat_lit 168, { cls := Value.type "tuple", data := Data.seq #[Value.str (Str.ofString "self") 386, Value.str (Str.ofString "what") 387] }) ::
  (nat_lit 169, { cls := Value.type "tuple", data := Data.seq #[] }) ::
  (nat_lit 171, { cls := Value.type "code", data := Data.fields #[Value.str (Str.ofString "fail") 383, Value.str (Str.ofString "RowReader.fail") 384, Value.str (Str.ofString "/claim/cut.py") 385, Value.int 109 0, Value.int 2 0, Value.int 0 0, Value.int 0 0, Value.int 3 0, Value.ref 166, Value.bool true, Value.int 181 0, Value.ref 167, Value.none, Value.ref 168, Value.ref 169, Value.ref 170, Value.int 388 0, Value.int 109 0, Value.str (Str.ofString "/claim/cut.py") 389] }) ::
  (nat_lit 172, { cls := Value.type "function", data := Data.func { name := Str.ofString "fail", qualname := Str.ofString "RowReader.fail", params := a20_1, body := FuncBody.stmts b20_1, scope := s20_1, globals := 3, closure := [], defaults := Value.none, kwdefaults := Value.none, pyModule := Value.str (Str.ofString "moduleyard.asm") 289, code := Value.ref 171 } }) ::
  (nat_lit 173, { cls := Value.type "tuple", data := Data.seq #[] }) ::
  (nat_lit 175, { cls := Value.type "tuple", data := Data.seq #[Value.str (Str.ofString "self") 394] }) ::
  (nat_lit 176, { cls := Value.type "tuple", data := Data.seq #[] }) ::
  (nat_lit 178, { cls := Value.type "code", data := Data.fields #[Value.str (Str.ofString "take") 391, Value.str (Str.ofString "RowReader.take") 392, Value.str (Str.ofString "/claim/cut.py") 393, Value.int 112 0, Value.int 1 0, Value.int 0 0, Value.int 0 0, Value.int 3 0, Value.ref 173, Value.bool true, Value.int 181 0, Value.ref 174, Value.none, Value.ref 175, Value.ref 176, Value.ref 177, Value.int 395 0, Value.int 112 0, Value.str (Str.ofString "/claim/cut.py") 396] }) ::
  (nat_lit 179, { cls := Value.type "function", data := Data.func { name := Str.ofString "take", qualname := Str.ofString "RowReader.take", params := a20_2, body := FuncBody.stmts b20_2, scope := s20_2, globals := 3, closure := [], defaults := Value.none, kwdefaults := Value.none, pyModule := Value.str (Str.ofString "moduleyard.asm") 289, code := Value.ref 178 } }) ::
  (nat_lit 180, { cls := Value.type "tuple", data := Data.seq #[] }) ::
  (nat_lit 182, { cls := Value.type "tuple", data := Data.seq #[Value.str (Str.ofString "self") 401, Value.str (Str.ofString "sign") 402] }) ::
  (nat_lit 183, { cls := Value.type "tuple", data := Data.seq #[] }) ::
  (nat_lit 185, { cls := Value.type "code", data := Data.fields #[Value.str (Str.ofString "expect") 398, Value.str (Str.ofString "RowReader.expect") 399, Value.str (Str.ofString "/claim/cut.py") 400, Value.int 118 0, Value.int 2 0, Value.int 0 0, Value.int 0 0, Value.int 3 0, Value.ref 180, Value.bool true, Value.int 181 0, Value.ref 181, Value.none, Value.ref 182, Value.ref 183, Value.ref 184, Value.int 403 0, Value.int 118 0, Value.str (Str.ofString "/claim/cut.py") 404] }) ::
  (nat_lit 186, { cls := Value.type "function", data := Data.func { name := Str.ofString "expect", qualname := Str.ofString "RowReader.expect", params := a20_3, body := FuncBody.stmts b20_3, scope := s20_3, globals := 3, closure := [], defaults := Value.none, kwdefaults := Value.none, pyModule := Value.str (Str.ofString "moduleyard.asm") 289, code := Value.ref 185 } }) ::
  (nat_lit 187, { cls := Value.type "tuple", data := Data.seq #[] }) ::
  (nat_lit 189, { cls := Value.type "tuple", data := Data.seq #[Value.str (Str.ofString "self") 409, Value.str (Str.ofString "token") 410] }) ::
  (nat_lit 190, { cls := Value.type "tuple", data := Data.seq #[] }) ::
  (nat_lit 192, { cls := Value.type "code", data := Data.fields #[Value.str (Str.ofString "register") 406, Value.str (Str.ofString "RowReader.register") 407, Value.str (Str.ofString "/claim/cut.py") 408, Value.int 122 0, Value.int 1 0, Value.int 0 0, Value.int 0 0, Value.int 3 0, Value.ref 187, Value.bool true, Value.int 181 0, Value.ref 188, Value.none, Value.ref 189, Value.ref 190, Value.ref 191, Value.int 411 0, Value.int 122 0, Value.str (Str.ofString "/claim/cut.py") 412] }) ::
  (nat_lit 193, { cls := Value.type "function", data := Data.func { name := Str.ofString "register", qualname := Str.ofString "RowReader.register", params := a20_4, body := FuncBody.stmts b20_4, scope := s20_4, globals := 3, closure := [], defaults := Value.none, kwdefaults := Value.none, pyModule := Value.str (Str.ofString "moduleyard.asm") 289, code := Value.ref 192 } }) ::
  (nat_lit 194, { cls := Value.type "tuple", data := Data.seq #[] }) ::
  (nat_lit 196, { cls := Value.type "tuple", data := Data.seq #[Value.str (Str.ofString "self") 417, Value.str (Str.ofString "token") 418] }) ::
  (nat_lit 197, { cls := Value.type "tuple", data := Data.seq #[] }) ::
  (nat_lit 199, { cls := Value.type "code", data := Data.fields #[Value.str (Str.ofString "whole") 414, Value.str (Str.ofString "RowReader.whole") 415, Value.str (Str.ofString "/claim/cut.py") 416, Value.int 130 0, Value.int 1 0, Value.int 0 0, Value.int 0 0, Value.int 3 0, Value.ref 194, Value.bool true, Value.int 181 0, Value.ref 195, Value.none, Value.ref 196, Value.ref 197, Value.ref 198, Value.int 419 0, Value.int 130 0, Value.str (Str.ofString "/claim/cut.py") 420] }) ::
  (nat_lit 200, { cls := Value.type "function", data := Data.func { name := Str.ofString "whole", qualname := Str.ofString "RowReader.whole", params := a20_5, body := FuncBody.stmts b20_5, scope := s20_5, globals := 3, closure := [], defaults := Value.none, kwdefaults := Value.none, pyModule := Value.str (Str.ofString "moduleyard.asm") 289, code := Value.ref 199 } }) ::
  (nat_lit 201, { cls := Value.type "tuple", data := Data.seq #[] }) ::
  (nat_lit 203, { cls := Value.type "tuple", data := Data.seq #[Value.str (Str.ofString "self") 425] }) ::
  (nat_lit 204, { cls := Value.type "tuple", data := Data.seq #[] }) ::
  (nat_lit 206, { cls := Value.type "code", data := Data.fields #[Value.str (Str.ofString "next_register") 422, Value.str (Str.ofString "RowReader.next_register") 423, Value.str (Str.ofString "/claim/cut.py") 424, Value.int 138 0, Value.int 1 0, Value.int 0 0, Value.int 0 0, Value.int 3 0, Value.ref 201, Value.bool true, Value.int 181 0, Value.ref 202, Value.none, Value.ref 203, Value.ref 204, Value.ref 205, Value.int 426 0, Value.int 138 0, Value.str (Str.ofString "/claim/cut.py") 427] }) ::
  (nat_lit 207, { cls := Value.type "function", data := Data.func { name := Str.ofString "next_register", qualname := Str.ofString "RowReader.next_register", params := a20_6, body := FuncBody.stmts b20_6, scope := s20_6, globals := 3, closure := [], defaults := Value.none, kwdefaults := Value.none, pyModule := Value.str (Str.ofString "moduleyard.asm") 289, code := Value.ref 206 } }) ::
  (nat_lit 208, { cls := Value.type "tuple", data := Data.seq #[] }) ::
  (nat_lit 210, { cls := Value.type "tuple", data := Data.seq #[Value.str (Str.ofString "self") 432] }) ::
  (nat_lit 211, { cls := Value.type "tuple", data := Data.seq #[] }) ::
  (nat_lit 213, { cls := Value.type "code", data := Data.fields #[Value.str (Str.ofString "next_whole") 429, Value.str (Str.ofString "RowReader.next_whole") 430, Value.str (Str.ofString "/claim/cut.py") 431, Value.int 142 0, Value.int 1 0, Value.int 0 0, Value.int 0 0, Value.int 3 0, Value.ref 208, Value.bool true, Value.int 181 0, Value.ref 209, Value.none, Value.ref 210, Value.ref 211, Value.ref 212, Value.int 433 0, Value.int 142 0, Value.str (Str.ofString "/claim/cut.py") 434] }) ::
  (nat_lit 214, { cls := Value.type "function", data := Data.func { name := Str.ofString "next_whole", qualname := Str.ofString "RowReader.next_whole", params := a20_7, body := FuncBody.stmts b20_7, scope := s20_7, globals := 3, closure := [], defaults := Value.none, kwdefaults := Value.none, pyModule := Value.str (Str.ofString "moduleyard.asm") 289, code := Value.ref 213 } }) ::
  (nat_lit 215, { cls := Value.type "tuple", data := Data.seq #[] }) ::
  (nat_lit 217, { cls := Value.type "tuple", data := Data.seq #[Value.str (Str.ofString "self") 439, Value.str (Str.ofString "token") 440] }) ::
  (nat_lit 218, { cls := Value.type "tuple", data := Data.seq #[] }) ::
  (nat_lit 220, { cls := Value.type "code", data := Data.fields #[Value.str (Str.ofString "condition") 436, Value.str (Str.ofString "RowReader.condition") 437, Value.str (Str.ofString "/claim/cut.py") 438, Value.int 146 0, Value.int 1 0, Value.int 0 0, Value.int 0 0, Value.int 3 0, Value.ref 215, Value.bool true, Value.int 181 0, Value.ref 216, Value.none, Value.ref 217, Value.ref 218, Value.ref 219, Value.int 441 0, Value.int 146 0, Value.str (Str.ofString "/claim/cut.py") 442] }) ::
  (nat_lit 221, { cls := Value.type "function", data := Data.func { name := Str.ofString "condition", qualname := Str.ofString "RowReader.condition", params := a20_8, body := FuncBody.stmts b20_8, scope := s20_8, globals := 3, closure := [], defaults := Value.none, kwdefaults := Value.none, pyModule := Value.str (Str.ofString "moduleyard.asm") 289, code := Value.ref 220 } }) ::
  (nat_lit 222, { cls := Value.type "tuple", data := Data.seq #[] }) ::
  (nat_lit 224, { cls := Value.type "tuple", data := Data.seq #[Value.str (Str.ofString "self") 447] }) ::
  (nat_lit 225, { cls := Value.type "tuple", data := Data.seq #[] }) ::
  (nat_lit 227, { cls := Value.type "code", data := Data.fields #[Value.str (Str.ofString "target") 444, Value.str (Str.ofString "RowReader.target") 445, Value.str (Str.ofString "/claim/cut.py") 446, Value.int 152 0, Value.int 1 0, Value.int 0 0, Value.int 0 0, Value.int 3 0, Value.ref 222, Value.bool true, Value.int 181 0, Value.ref 223, Value.none, Value.ref 224, Value.ref 225, Value.ref 226, Value.int 448 0, Value.int 152 0, Value.str (Str.ofString "/claim/cut.py") 449] }) ::
  (nat_lit 228, { cls := Value.type "function", data := Data.func { name := Str.ofString "target", qualname := Str.ofString "RowReader.target", params := a20_9, body := FuncBody.stmts b20_9, scope := s20_9, globals := 3, closure := [], defaults := Value.none, kwdefaults := Value.none, pyModule := Value.str (Str.ofString "moduleyard.asm") 289, code := Value.ref 227 } }) ::
  (nat_lit 229, { cls := Value.type "tuple", data := Data.seq #[] }) ::
  (nat_lit 231, { cls := Value.type "tuple", data := Data.seq #[Value.str (Str.ofString "self") 454] }) ::
  (nat_lit 232, { cls := Value.type "tuple", data := Data.seq #[] }) ::
  (nat_lit 234, { cls := Value.type "code", data := Data.fields #[Value.str (Str.ofString "finish") 451, Value.str (Str.ofString "RowReader.finish") 452, Value.str (Str.ofString "/claim/cut.py") 453, Value.int 158 0, Value.int 1 0, Value.int 0 0, Value.int 0 0, Value.int 3 0, Value.ref 229, Value.bool true, Value.int 181 0, Value.ref 230, Value.none, Value.ref 231, Value.ref 232, Value.ref 233, Value.int 455 0, Value.int 158 0, Value.str (Str.ofString "/claim/cut.py") 456] }) ::
  (nat_lit 235, { cls := Value.type "function", data := Data.func { name := Str.ofString "finish", qualname := Str.ofString "RowReader.finish", params := a20_10, body := FuncBody.stmts b20_10, scope := s20_10, globals := 3, closure := [], defaults := Value.none, kwdefaults := Value.none, pyModule := Value.str (Str.ofString "moduleyard.asm") 289, code := Value.ref 234 } }) ::
  (nat_lit 236, { cls := Value.type "tuple", data := Data.seq #[Value.str (Str.ofString "place") 458, Value.str (Str.ofString "row") 459, Value.str (Str.ofString "tokens") 460] }) ::
  (nat_lit 237, { cls := Value.type "dict", data := Data.dict #[{ hash := PyData.keyHash P (Str.ofString "__module__"), key := Value.str (Str.ofString "__module__") 369, val := Value.str (Str.ofString "moduleyard.asm") 289 }, { hash := PyData.keyHash P (Str.ofString "__firstlineno__"), key := Value.str (Str.ofString "__firstlineno__") 373, val := Value.int 102 372 }, { hash := PyData.keyHash P (Str.ofString "__init__"), key := Value.str (Str.ofString "__init__") 382, val := Value.ref 165 }, { hash := PyData.keyHash P (Str.ofString "fail"), key := Value.str (Str.ofString "fail") 390, val := Value.ref 172 }, { hash := PyData.keyHash P (Str.ofString "take"), key := Value.str (Str.ofString "take") 397, val := Value.ref 179 }, { hash := PyData.keyHash P (Str.ofString "expect"), key := Value.str (Str.ofString "expect") 405, val := Value.ref 186 }, { hash := PyData.keyHash P (Str.ofString "register"), key := Value.str (Str.ofString "register") 413, val := Value.ref 193 }, { hash := PyData.keyHash P (Str.ofString "whole"), key := Value.str (Str.ofString "whole") 421, val := Value.ref 200 }, { hash := PyData.keyHash P (Str.ofString "next_register"), key := Value.str (Str.ofString "next_register") 428, val := Value.ref 207 }, { hash := PyData.keyHash P (Str.ofString "next_whole"), key := Value.str (Str.ofString "next_whole") 435, val := Value.ref 214 }, { hash := PyData.keyHash P (Str.ofString "condition"), key := Value.str (Str.ofString "condition") 443, val := Value.ref 221 }, { hash := PyData.keyHash P (Str.ofString "target"), key := Value.str (Str.ofString "target") 450, val := Value.ref 228 }, { hash := PyData.keyHash P (Str.ofString "finish"), key := Value.str (Str.ofString "finish") 457, val := Value.ref 235 }, { hash := PyData.keyHash P (Str.ofString "__static_attributes__"), key := Value.str (Str.ofString "__static_attributes__") 461, val := Value.ref 236 }, { hash := PyData.keyHash P (Str.ofString "__dict__"), key := Value.str (Str.ofString "__dict__") 463, val := Value.ref 239 }, { hash := PyData.keyHash P (Str.ofString "__weakref__"), key := Value.str (Str.ofString "__weakref__") 465, val := Value.ref 240 }, { hash := PyData.keyHash P (Str.ofString "__doc__"), key := Value.str (Str.ofString "__doc__") 466, val := Value.none }] 4 }) ::
  (nat_lit 238, { cls := Value.type "type", data := Data.cls { name := Str.ofString "RowReader", bases := [Value.type "object"], mro := [Value.ref 238, Value.type "object"], ns := 237, qualname := Str.ofString "RowReader" }, slots := #[none, none, some (Value.str (Str.ofString "RowReader") 362), some (Value.str (Str.ofString "RowReader") 370), some (Value.builtin "object.__new__"), some (Value.bool true)] }) ::
  (nat_lit 239, { cls := Value.type "getset_descriptor", data := Data.fields #[Value.str (Str.ofString "__dict__") 462, Value.ref 238, Value.builtin "function.__dict__", Value.builtin "function.__dict__#set"] }) ::
  (nat_lit 240, { cls := Value.type "getset_descriptor", data := Data.fields #[Value.str (Str.ofString "__weakref__") 464, Value.ref 238, Value.builtin "ExceptionGroup.__weakref__", Value.none] }) ::
  (nat_lit 243, { cls := Value.type "tuple", data := Data.seq #[] }) ::
  (nat_lit 245, { cls := Value.type "tuple", data := Data.seq #[Value.str (Str.ofString "reader") 472, Value.str (Str.ofString "name") 473, Value.str (Str.ofString "a") 474, Value.str (Str.ofString "b") 475, Value.str (Str.ofString "offset") 476, Value.str (Str.ofString "sign") 477] }) ::
  (nat_lit 246, { cls := Value.type "tuple", data := Data.seq #[] }) ::
  (nat_lit 248, { cls := Value.type "code", data := Data.fields #[Value.str (Str.ofString "memory_row") 469, Value.str (Str.ofString "memory_row") 470, Value.str (Str.ofString "/claim/cut.py") 471, Value.int 161 0, Value.int 2 0, Value.int 0 0, Value.int 0 0, Value.int 3 0, Value.ref 243, Value.bool true, Value.int 181 0, Value.ref 244, Value.none, Value.ref 245, Value.ref 246, Value.ref 247, Value.int 478 0, Value.int 161 0, Value.str (Str.ofString "/claim/cut.py") 479] }) ::
  (nat_lit 249, { cls := Value.type "function", data := Data.func { name := Str.ofString "memory_row", qualname := Str.ofString "memory_row", params := a21, body := FuncBody.stmts b21, scope := s21, globals := 3, closure := [], defaults := Value.none, kwdefaults := Value.none, pyModule := Value.str (Str.ofString "moduleyard.asm") 289, code := Value.ref 248 } }) ::
  (nat_lit 250, { cls := Value.type "tuple", data := Data.seq #[] }) ::
  (nat_lit 252, { cls := Value.type "tuple", data := Data.seq #[Value.str (Str.ofString "reader") 484, Value.str (Str.ofString "name") 485, Value.str (Str.ofString "a") 486, Value.str (Str.ofString "b") 487] }) ::
  (nat_lit 253, { cls := Value.type "tuple", data := Data.seq #[] }) ::
  (nat_lit 255, { cls := Value.type "code", data := Data.fields #[Value.str (Str.ofString "operation_row") 481, Value.str (Str.ofString "operation_row") 482, Value.str (Str.ofString "/claim/cut.py") 483, Value.int 174 0, Value.int 2 0, Value.int 0 0, Value.int 0 0, Value.int 3 0, Value.ref 250, Value.bool true, Value.int 181 0, Value.ref 251, Value.none, Value.ref 252, Value.ref 253, Value.ref 254, Value.int 488 0, Value.int 174 0, Value.str (Str.ofString "/claim/cut.py") 489] }) ::
  (nat_lit 256, { cls := Value.type "function", data := Data.func { name := Str.ofString "operation_row", qualname := Str.ofString "operation_row", params := a22, body := FuncBody.stmts b22, scope := s22, globals := 3, closure := [], defaults := Value.none, kwdefaults := Value.none, pyModule := Value.str (Str.ofString "moduleyard.asm") 289, code := Value.ref 255 } }) ::
  (nat_lit 257, { cls := Value.type "tuple", data := Data.seq #[] }) ::
  (nat_lit 259, { cls := Value.type "tuple", data := Data.seq #[Value.str (Str.ofString "reader") 494, Value.str (Str.ofString "name") 495, Value.str (Str.ofString "a") 496, Value.str (Str.ofString "cond") 497, Value.str (Str.ofString "number") 498] }) ::
  (nat_lit 260, { cls := Value.type "tuple", data := Data.seq #[] }) ::
  (nat_lit 262, { cls := Value.type "code", data := Data.fields #[Value.str (Str.ofString "read_row") 491, Value.str (Str.ofString "read_row") 492, Value.str (Str.ofString "/claim/cut.py") 493, Value.int 182 0, Value.int 1 0, Value.int 0 0, Value.int 0 0, Value.int 3 0, Value.ref 257, Value.bool true, Value.int 181 0, Value.ref 258, Value.none, Value.ref 259, Value.ref 260, Value.ref 261, Value.int 499 0, Value.int 182 0, Value.str (Str.ofString "/claim/cut.py") 500] }) ::
  (nat_lit 263, { cls := Value.type "function", data := Data.func { name := Str.ofString "read_row", qualname := Str.ofString "read_row", params := a23, body := FuncBody.stmts b23, scope := s23, globals := 3, closure := [], defaults := Value.none, kwdefaults := Value.none, pyModule := Value.str (Str.ofString "moduleyard.asm") 289, code := Value.ref 262 } }) ::
  (nat_lit 264, { cls := Value.type "tuple", data := Data.seq #[] }) ::
  (nat_lit 266, { cls := Value.type "tuple", data := Data.seq #[Value.str (Str.ofString "tokens") 505, Value.str (Str.ofString "row") 506] }) ::
  (nat_lit 267, { cls := Value.type "tuple", data := Data.seq #[] }) ::
  (nat_lit 269, { cls := Value.type "code", data := Data.fields #[Value.str (Str.ofString "label_of") 502, Value.str (Str.ofString "label_of") 503, Value.str (Str.ofString "/claim/cut.py") 504, Value.int 204 0, Value.int 2 0, Value.int 0 0, Value.int 0 0, Value.int 3 0, Value.ref 264, Value.bool true, Value.int 181 0, Value.ref 265, Value.none, Value.ref 266, Value.ref 267, Value.ref 268, Value.int 507 0, Value.int 204 0, Value.str (Str.ofString "/claim/cut.py") 508] }) ::
  (nat_lit 270, { cls := Value.type "function", data := Data.func { name := Str.ofString "label_of", qualname := Str.ofString "label_of", params := a24, body := FuncBody.stmts b24, scope := s24, globals := 3, closure := [], defaults := Value.none, kwdefaults := Value.none, pyModule := Value.str (Str.ofString "moduleyard.asm") 289, code := Value.ref 269 } }) ::
  (nat_lit 271, { cls := Value.type "tuple", data := Data.seq #[] }) ::
  (nat_lit 273, { cls := Value.type "tuple", data := Data.seq #[Value.str (Str.ofString "name") 513, Value.str (Str.ofString "cond") 514, Value.str (Str.ofString "target") 515, Value.str (Str.ofString "index") 516, Value.str (Str.ofString "labels") 517, Value.str (Str.ofString "row") 518] }) ::
  (nat_lit 274, { cls := Value.type "tuple", data := Data.seq #[] }) ::
  (nat_lit 276, { cls := Value.type "code", data := Data.fields #[Value.str (Str.ofString "aimed") 510, Value.str (Str.ofString "aimed") 511, Value.str (Str.ofString "/claim/cut.py") 512, Value.int 210 0, Value.int 6 0, Value.int 0 0, Value.int 0 0, Value.int 3 0, Value.ref 271, Value.bool true, Value.int 181 0, Value.ref 272, Value.none, Value.ref 273, Value.ref 274, Value.ref 275, Value.int 519 0, Value.int 210 0, Value.str (Str.ofString "/claim/cut.py") 520] }) ::
  (nat_lit 277, { cls := Value.type "function", data := Data.func { name := Str.ofString "aimed", qualname := Str.ofString "aimed", params := a25, body := FuncBody.stmts b25, scope := s25, globals := 3, closure := [], defaults := Value.none, kwdefaults := Value.none, pyModule := Value.str (Str.ofString "moduleyard.asm") 289, code := Value.ref 276 } }) ::
  (nat_lit 278, { cls := Value.type "tuple", data := Data.seq #[] }) ::
  (nat_lit 280, { cls := Value.type "tuple", data := Data.seq #[Value.str (Str.ofString "text") 525, Value.str (Str.ofString "drafts") 526, Value.str (Str.ofString "labels") 527, Value.str (Str.ofString "number") 528, Value.str (Str.ofString "line") 529, Value.str (Str.ofString "tokens") 530, Value.str (Str.ofString "label") 531, Value.str (Str.ofString "reader") 532, Value.str (Str.ofString "row") 533, Value.str (Str.ofString "rows") 534, Value.str (Str.ofString "fault") 535] }) ::
  (nat_lit 281, { cls := Value.type "tuple", data := Data.seq #[] }) ::
  (nat_lit 283, { cls := Value.type "code", data := Data.fields #[Value.str (Str.ofString "assemble") 522, Value.str (Str.ofString "assemble") 523, Value.str (Str.ofString "/claim/cut.py") 524, Value.int 216 0, Value.int 1 0, Value.int 0 0, Value.int 0 0, Value.int 3 0, Value.ref 278, Value.bool true, Value.int 181 0, Value.ref 279, Value.none, Value.ref 280, Value.ref 281, Value.ref 282, Value.int 536 0, Value.int 216 0, Value.str (Str.ofString "/claim/cut.py") 537] }) ::
  (nat_lit 284, { cls := Value.type "function", data := Data.func { name := Str.ofString "assemble", qualname := Str.ofString "assemble", params := a26, body := FuncBody.stmts b26, scope := s26, globals := 3, closure := [], defaults := Value.none, kwdefaults := Value.none, pyModule := Value.str (Str.ofString "moduleyard.asm") 289, code := Value.ref 283 } }) ::
  (nat_lit 285, { cls := Value.type "tuple", data := Data.seq #[] }) ::
  (nat_lit 287, { cls := Value.type "tuple", data := Data.seq #[Value.str (Str.ofString "well") 544, Value.str (Str.ofString "most") 545, Value.str (Str.ofString "spot_at") 546, Value.str (Str.ofString "cells") 547, Value.str (Str.ofString "cell") 548, Value.str (Str.ofString "mixed") 549, Value.str (Str.ofString "drawn") 550] }) ::
  (nat_lit 288, { cls := Value.type "tuple", data := Data.seq #[] }) ::
  (nat_lit 290, { cls := Value.type "code", data := Data.fields #[Value.str (Str.ofString "_law_pull") 541, Value.str (Str.ofString "_law_pull") 542, Value.str (Str.ofString "/claim/cut.py") 543, Value.int 244 0, Value.int 2 0, Value.int 0 0, Value.int 0 0, Value.int 3 0, Value.ref 285, Value.bool true, Value.int 181 0, Value.ref 286, Value.none, Value.ref 287, Value.ref 288, Value.ref 289, Value.int 551 0, Value.int 244 0, Value.str (Str.ofString "/claim/cut.py") 552] }) ::
  (nat_lit 291, { cls := Value.type "function", data := Data.func { name := Str.ofString "_law_pull", qualname := Str.ofString "_law_pull", params := a28, body := FuncBody.stmts b28, scope := s28, globals := 3, closure := [], defaults := Value.none, kwdefaults := Value.none, pyModule := Value.str (Str.ofString "law_nu0335_01") 539, code := Value.ref 290 } }) ::
  (nat_lit 292, { cls := Value.type "tuple", data := Data.seq #[] }) ::
  (nat_lit 294, { cls := Value.type "tuple", data := Data.seq #[Value.str (Str.ofString "well") 557, Value.str (Str.ofString "number") 558, Value.str (Str.ofString "pick") 559, Value.str (Str.ofString "a") 560, Value.str (Str.ofString "b") 561, Value.str (Str.ofString "im") 562] }) ::
  (nat_lit 295, { cls := Value.type "tuple", data := Data.seq #[] }) ::
  (nat_lit 297, { cls := Value.type "code", data := Data.fields #[Value.str (Str.ofString "_law_sound") 554, Value.str (Str.ofString "_law_sound") 555, Value.str (Str.ofString "/claim/cut.py") 556, Value.int 258 0, Value.int 2 0, Value.int 0 0, Value.int 0 0, Value.int 3 0, Value.ref 292, Value.bool true, Value.int 181 0, Value.ref 293, Value.none, Value.ref 294, Value.ref 295, Value.ref 296, Value.int 563 0, Value.int 258 0, Value.str (Str.ofString "/claim/cut.py") 564] }) ::
  (nat_lit 298, { cls := Value.type "function", data := Data.func { name := Str.ofString "_law_sound", qualname := Str.ofString "_law_sound", params := a29, body := FuncBody.stmts b29, scope := s29, globals := 3, closure := [], defaults := Value.none, kwdefaults := Value.none, pyModule := Value.str (Str.ofString "law_nu0335_01") 539, code := Value.ref 297 } }) ::
  (nat_lit 299, { cls := Value.type "tuple", data := Data.seq #[] }) ::
  (nat_lit 301, { cls := Value.type "tuple", data := Data.seq #[Value.str (Str.ofString "pick") 569] }) ::
  (nat_lit 302, { cls := Value.type "tuple", data := Data.seq #[] }) ::
  (nat_lit 304, { cls := Value.type "code", data := Data.fields #[Value.str (Str.ofString "_law_wrong") 566, Value.str (Str.ofString "_law_wrong") 567, Value.str (Str.ofString "/claim/cut.py") 568, Value.int 276 0, Value.int 1 0, Value.int 0 0, Value.int 0 0, Value.int 3 0, Value.ref 299, Value.bool true, Value.int 181 0, Value.ref 300, Value.none, Value.ref 301, Value.ref 302, Value.ref 303, Value.int 570 0, Value.int 276 0, Value.str (Str.ofString "/claim/cut.py") 571] }) ::
  (nat_lit 305, { cls := Value.type "function", data := Data.func { name := Str.ofString "_law_wrong", qualname := Str.ofString "_law_wrong", params := a30, body := FuncBody.stmts b30, scope := s30, globals := 3, closure := [], defaults := Value.none, kwdefaults := Value.none, pyModule := Value.str (Str.ofString "law_nu0335_01") 539, code := Value.ref 304 } }) ::
  (nat_lit 306, { cls := Value.type "tuple", data := Data.seq #[] }) ::
  (nat_lit 308, { cls := Value.type "tuple", data := Data.seq #[Value.str (Str.ofString "text") 576, Value.str (Str.ofString "fault") 577] }) ::
  (nat_lit 309, { cls := Value.type "tuple", data := Data.seq #[] }) ::
  (nat_lit 311, { cls := Value.type "code", data := Data.fields #[Value.str (Str.ofString "_law_told") 573, Value.str (Str.ofString "_law_told") 574, Value.str (Str.ofString "/claim/cut.py") 575, Value.int 278 0, Value.int 1 0, Value.int 0 0, Value.int 0 0, Value.int 3 0, Value.ref 306, Value.bool true, Value.int 181 0, Value.ref 307, Value.none, Value.ref 308, Value.ref 309, Value.ref 310, Value.int 578 0, Value.int 278 0, Value.str (Str.ofString "/claim/cut.py") 579] }) ::
  (nat_lit 312, { cls := Value.type "function", data := Data.func { name := Str.ofString "_law_told", qualname := Str.ofString "_law_told", params := a31, body := FuncBody.stmts b31, scope := s31, globals := 3, closure := [], defaults := Value.none, kwdefaults := Value.none, pyModule := Value.str (Str.ofString "law_nu0335_01") 539, code := Value.ref 311 } }) ::
  (nat_lit 313, { cls := Value.type "tuple", data := Data.seq #[] }) ::
  (nat_lit 315, { cls := Value.type "tuple", data := Data.seq #[Value.str (Str.ofString "script") 584, Value.str (Str.ofString "well") 585, Value.str (Str.ofString "lines") 586, Value.str (Str.ofString "rows") 587, Value.str (Str.ofString "number") 588, Value.str (Str.ofString "line") 589, Value.str (Str.ofString "row") 590, Value.str (Str.ofString "due") 591, Value.str (Str.ofString "at") 592, Value.str (Str.ofString "name") 593, Value.str (Str.ofString "cond") 594, Value.str (Str.ofString "aim") 595, Value.str (Str.ofString "last") 596, Value.str (Str.ofString "what") 597, Value.str (Str.ofString "worse") 598] }) ::
  (nat_lit 316, { cls := Value.type "tuple", data := Data.seq #[] }) ::
  (nat_lit 318, { cls := Value.type "code", data := Data.fields #[Value.str (Str.ofString "law") 581, Value.str (Str.ofString "law") 582, Value.str (Str.ofString "/claim/cut.py") 583, Value.int 283 0, Value.int 1 0, Value.int 0 0, Value.int 0 0, Value.int 3 0, Value.ref 313, Value.bool true, Value.int 181 0, Value.ref 314, Value.none, Value.ref 315, Value.ref 316, Value.ref 317, Value.int 599 0, Value.int 283 0, Value.str (Str.ofString "/claim/cut.py") 600] }) ::
  (nat_lit 319, { cls := Value.type "function", data := Data.func { name := Str.ofString "law", qualname := Str.ofString "law", params := a32, body := FuncBody.stmts b32, scope := s32, globals := 3, closure := [], defaults := Value.none, kwdefaults := Value.none, pyModule := Value.str (Str.ofString "law_nu0335_01") 539, code := Value.ref 318 } }) :: []
noncomputable def hd.fin {x0 : Stmt} {x1 : Stmt} {x2 : Stmt} {n3 v3 : Str} {a3 : Arguments} {b3 : List Stmt} {d3 : List Expr} {r3 : Option Expr} {t3 : List TypeParam} {s3 : Scope} {u3 : Option Scope} {p3 : Pos} {n4 v4 : Str} {a4 : Arguments} {b4 : List Stmt} {d4 : List Expr} {r4 : Option Expr} {t4 : List TypeParam} {s4 : Scope} {u4 : Option Scope} {p4 : Pos} {n5 v5 : Str} {a5 : Arguments} {b5 : List Stmt} {d5 : List Expr} {r5 : Option Expr} {t5 : List TypeParam} {s5 : Scope} {u5 : Option Scope} {p5 : Pos} {n6 v6 : Str} {a6 : Arguments} {b6 : List Stmt} {d6 : List Expr} {r6 : Option Expr} {t6 : List TypeParam} {s6 : Scope} {u6 : Option Scope} {p6 : Pos} {n7 v7 : Str} {a7 : Arguments} {b7 : List Stmt} {d7 : List Expr} {r7 : Option Expr} {t7 : List TypeParam} {s7 : Scope} {u7 : Option Scope} {p7 : Pos} {n8 v8 : Str} {a8 : Arguments} {b8 : List Stmt} {d8 : List Expr} {r8 : Option Expr} {t8 : List TypeParam} {s8 : Scope} {u8 : Option Scope} {p8 : Pos} {n9 v9 : Str} {a9 : Arguments} {b9 : List Stmt} {d9 : List Expr} {r9 : Option Expr} {t9 : List TypeParam} {s9 : Scope} {u9 : Option Scope} {p9 : Pos} {n10 v10 : Str} {a10 : Arguments} {b10 : List Stmt} {d10 : List Expr} {r10 : Option Expr} {t10 : List TypeParam} {s10 : Scope} {u10 : Option Scope} {p10 : Pos} {n11 v11 : Str} {a11 : Arguments} {b11 : List Stmt} {d11 : List Expr} {r11 : Option Expr} {t11 : List TypeParam} {s11 : Scope} {u11 : Option Scope} {p11 : Pos} {n12 v12 : Str} {a12 : Arguments} {b12 : List Stmt} {d12 : List Expr} {r12 : Option Expr} {t12 : List TypeParam} {s12 : Scope} {u12 : Option Scope} {p12 : Pos} {x13 : Stmt} {cn14 cv14 : Str} {cb14 cd14 : List Expr} {ck14 : List Keyword} {ct14 : List TypeParam} {cs14 : Scope} {cu14 : Option Scope} {ca14 : List Str} {cp14 : Pos} {n14_0 v14_0 : Str} {a14_0 : Arguments} {b14_0 : List Stmt} {d14_0 : List Expr} {r14_0 : Option Expr} {t14_0 : List TypeParam} {s14_0 : Scope} {u14_0 : Option Scope} {p14_0 : Pos} {n15 v15 : Str} {a15 : Arguments} {b15 : List Stmt} {d15 : List Expr} {r15 : Option Expr} {t15 : List TypeParam} {s15 : Scope} {u15 : Option Scope} {p15 : Pos} {n16 v16 : Str} {a16 : Arguments} {b16 : List Stmt} {d16 : List Expr} {r16 : Option Expr} {t16 : List TypeParam} {s16 : Scope} {u16 : Option Scope} {p16 : Pos} {n17 v17 : Str} {a17 : Arguments} {b17 : List Stmt} {d17 : List Expr} {r17 : Option Expr} {t17 : List TypeParam} {s17 : Scope} {u17 : Option Scope} {p17 : Pos} {n18 v18 : Str} {a18 : Arguments} {b18 : List Stmt} {d18 : List Expr} {r18 : Option Expr} {t18 : List TypeParam} {s18 : Scope} {u18 : Option Scope} {p18 : Pos} {n19 v19 : Str} {a19 : Arguments} {b19 : List Stmt} {d19 : List Expr} {r19 : Option Expr} {t19 : List TypeParam} {s19 : Scope} {u19 : Option Scope} {p19 : Pos} {cn20 cv20 : Str} {cb20 cd20 : List Expr} {ck20 : List Keyword} {ct20 : List TypeParam} {cs20 : Scope} {cu20 : Option Scope} {ca20 : List Str} {cp20 : Pos} {n20_0 v20_0 : Str} {a20_0 : Arguments} {b20_0 : List Stmt} {d20_0 : List Expr} {r20_0 : Option Expr} {t20_0 : List TypeParam} {s20_0 : Scope} {u20_0 : Option Scope} {p20_0 : Pos} {n20_1 v20_1 : Str} {a20_1 : Arguments} {b20_1 : List Stmt} {d20_1 : List Expr} {r20_1 : Option Expr} {t20_1 : List TypeParam} {s20_1 : Scope} {u20_1 : Option Scope} {p20_1 : Pos} {n20_2 v20_2 : Str} {a20_2 : Arguments} {b20_2 : List Stmt} {d20_2 : List Expr} {r20_2 : Option Expr} {t20_2 : List TypeParam} {s20_2 : Scope} {u20_2 : Option Scope} {p20_2 : Pos} {n20_3 v20_3 : Str} {a20_3 : Arguments} {b20_3 : List Stmt} {d20_3 : List Expr} {r20_3 : Option Expr} {t20_3 : List TypeParam} {s20_3 : Scope} {u20_3 : Option Scope} {p20_3 : Pos} {n20_4 v20_4 : Str} {a20_4 : Arguments} {b20_4 : List Stmt} {d20_4 : List Expr} {r20_4 : Option Expr} {t20_4 : List TypeParam} {s20_4 : Scope} {u20_4 : Option Scope} {p20_4 : Pos} {n20_5 v20_5 : Str} {a20_5 : Arguments} {b20_5 : List Stmt} {d20_5 : List Expr} {r20_5 : Option Expr} {t20_5 : List TypeParam} {s20_5 : Scope} {u20_5 : Option Scope} {p20_5 : Pos} {n20_6 v20_6 : Str} {a20_6 : Arguments} {b20_6 : List Stmt} {d20_6 : List Expr} {r20_6 : Option Expr} {t20_6 : List TypeParam} {s20_6 : Scope} {u20_6 : Option Scope} {p20_6 : Pos} {n20_7 v20_7 : Str} {a20_7 : Arguments} {b20_7 : List Stmt} {d20_7 : List Expr} {r20_7 : Option Expr} {t20_7 : List TypeParam} {s20_7 : Scope} {u20_7 : Option Scope} {p20_7 : Pos} {n20_8 v20_8 : Str} {a20_8 : Arguments} {b20_8 : List Stmt} {d20_8 : List Expr} {r20_8 : Option Expr} {t20_8 : List TypeParam} {s20_8 : Scope} {u20_8 : Option Scope} {p20_8 : Pos} {n20_9 v20_9 : Str} {a20_9 : Arguments} {b20_9 : List Stmt} {d20_9 : List Expr} {r20_9 : Option Expr} {t20_9 : List TypeParam} {s20_9 : Scope} {u20_9 : Option Scope} {p20_9 : Pos} {n20_10 v20_10 : Str} {a20_10 : Arguments} {b20_10 : List Stmt} {d20_10 : List Expr} {r20_10 : Option Expr} {t20_10 : List TypeParam} {s20_10 : Scope} {u20_10 : Option Scope} {p20_10 : Pos} {n21 v21 : Str} {a21 : Arguments} {b21 : List Stmt} {d21 : List Expr} {r21 : Option Expr} {t21 : List TypeParam} {s21 : Scope} {u21 : Option Scope} {p21 : Pos} {n22 v22 : Str} {a22 : Arguments} {b22 : List Stmt} {d22 : List Expr} {r22 : Option Expr} {t22 : List TypeParam} {s22 : Scope} {u22 : Option Scope} {p22 : Pos} {n23 v23 : Str} {a23 : Arguments} {b23 : List Stmt} {d23 : List Expr} {r23 : Option Expr} {t23 : List TypeParam} {s23 : Scope} {u23 : Option Scope} {p23 : Pos} {n24 v24 : Str} {a24 : Arguments} {b24 : List Stmt} {d24 : List Expr} {r24 : Option Expr} {t24 : List TypeParam} {s24 : Scope} {u24 : Option Scope} {p24 : Pos} {n25 v25 : Str} {a25 : Arguments} {b25 : List Stmt} {d25 : List Expr} {r25 : Option Expr} {t25 : List TypeParam} {s25 : Scope} {u25 : Option Scope} {p25 : Pos} {n26 v26 : Str} {a26 : Arguments} {b26 : List Stmt} {d26 : List Expr} {r26 : Option Expr} {t26 : List TypeParam} {s26 : Scope} {u26 : Option Scope} {p26 : Pos} {x27 : Stmt} {n28 v28 : Str} {a28 : Arguments} {b28 : List Stmt} {d28 : List Expr} {r28 : Option Expr} {t28 : List TypeParam} {s28 : Scope} {u28 : Option Scope} {p28 : Pos} {n29 v29 : Str} {a29 : Arguments} {b29 : List Stmt} {d29 : List Expr} {r29 : Option Expr} {t29 : List TypeParam} {s29 : Scope} {u29 : Option Scope} {p29 : Pos} {n30 v30 : Str} {a30 : Arguments} {b30 : List Stmt} {d30 : List Expr} {r30 : Option Expr} {t30 : List TypeParam} {s30 : Scope} {u30 : Option Scope} {p30 : Pos} {n31 v31 : Str} {a31 : Arguments} {b31 : List Stmt} {d31 : List Expr} {r31 : Option Expr} {t31 : List TypeParam} {s31 : Scope} {u31 : Option Scope} {p31 : Pos} {n32 v32 : Str} {a32 : Arguments} {b32 : List Stmt} {d32 : List Expr} {r32 : Option Expr} {t32 : List TypeParam} {s32 : Scope} {u32 : Option Scope} {p32 : Pos}
  (_ : PySem.Challenge.pw_nu0335_01.main.body = [x0, x1, x2, Stmt.FunctionDef n3 a3 b3 d3 r3 t3 s3 u3 v3 p3, Stmt.FunctionDef n4 a4 b4 d4 r4 t4 s4 u4 v4 p4, Stmt.FunctionDef n5 a5 b5 d5 r5 t5 s5 u5 v5 p5, Stmt.FunctionDef n6 a6 b6 d6 r6 t6 s6 u6 v6 p6, Stmt.FunctionDef n7 a7 b7 d7 r7 t7 s7 u7 v7 p7, Stmt.FunctionDef n8 a8 b8 d8 r8 t8 s8 u8 v8 p8, Stmt.FunctionDef n9 a9 b9 d9 r9 t9 s9 u9 v9 p9, Stmt.FunctionDef n10 a10 b10 d10 r10 t10 s10 u10 v10 p10, Stmt.FunctionDef n11 a11 b11 d11 r11 t11 s11 u11 v11 p11, Stmt.FunctionDef n12 a12 b12 d12 r12 t12 s12 u12 v12 p12, x13, Stmt.ClassDef cn14 cb14 ck14 [Stmt.FunctionDef n14_0 a14_0 b14_0 d14_0 r14_0 t14_0 s14_0 u14_0 v14_0 p14_0] cd14 ct14 cs14 cu14 cv14 ca14 cp14, Stmt.FunctionDef n15 a15 b15 d15 r15 t15 s15 u15 v15 p15, Stmt.FunctionDef n16 a16 b16 d16 r16 t16 s16 u16 v16 p16, Stmt.FunctionDef n17 a17 b17 d17 r17 t17 s17 u17 v17 p17, Stmt.FunctionDef n18 a18 b18 d18 r18 t18 s18 u18 v18 p18, Stmt.FunctionDef n19 a19 b19 d19 r19 t19 s19 u19 v19 p19, Stmt.ClassDef cn20 cb20 ck20 [Stmt.FunctionDef n20_0 a20_0 b20_0 d20_0 r20_0 t20_0 s20_0 u20_0 v20_0 p20_0, Stmt.FunctionDef n20_1 a20_1 b20_1 d20_1 r20_1 t20_1 s20_1 u20_1 v20_1 p20_1, Stmt.FunctionDef n20_2 a20_2 b20_2 d20_2 r20_2 t20_2 s20_2 u20_2 v20_2 p20_2, Stmt.FunctionDef n20_3 a20_3 b20_3 d20_3 r20_3 t20_3 s20_3 u20_3 v20_3 p20_3, Stmt.FunctionDef n20_4 a20_4 b20_4 d20_4 r20_4 t20_4 s20_4 u20_4 v20_4 p20_4, Stmt.FunctionDef n20_5 a20_5 b20_5 d20_5 r20_5 t20_5 s20_5 u20_5 v20_5 p20_5, Stmt.FunctionDef n20_6 a20_6 b20_6 d20_6 r20_6 t20_6 s20_6 u20_6 v20_6 p20_6, Stmt.FunctionDef n20_7 a20_7 b20_7 d20_7 r20_7 t20_7 s20_7 u20_7 v20_7 p20_7, Stmt.FunctionDef n20_8 a20_8 b20_8 d20_8 r20_8 t20_8 s20_8 u20_8 v20_8 p20_8, Stmt.FunctionDef n20_9 a20_9 b20_9 d20_9 r20_9 t20_9 s20_9 u20_9 v20_9 p20_9, Stmt.FunctionDef n20_10 a20_10 b20_10 d20_10 r20_10 t20_10 s20_10 u20_10 v20_10 p20_10] cd20 ct20 cs20 cu20 cv20 ca20 cp20, Stmt.FunctionDef n21 a21 b21 d21 r21 t21 s21 u21 v21 p21, Stmt.FunctionDef n22 a22 b22 d22 r22 t22 s22 u22 v22 p22, Stmt.FunctionDef n23 a23 b23 d23 r23 t23 s23 u23 v23 p23, Stmt.FunctionDef n24 a24 b24 d24 r24 t24 s24 u24 v24 p24, Stmt.FunctionDef n25 a25 b25 d25 r25 t25 s25 u25 v25 p25, Stmt.FunctionDef n26 a26 b26 d26 r26 t26 s26 u26 v26 p26, x27, Stmt.FunctionDef n28 a28 b28 d28 r28 t28 s28 u28 v28 p28, Stmt.FunctionDef n29 a29 b29 d29 r29 t29 s29 u29 v29 p29, Stmt.FunctionDef n30 a30 b30 d30 r30 t30 s30 u30 v30 p30, Stmt.FunctionDef n31 a31 b31 d31 r31 t31 s31 u31 v31 p31, Stmt.FunctionDef n32 a32 b32 d32 r32 t32 s32 u32 v32 p32]) : Params → Frag := hd.Kof a3 b3 s3 a4 b4 s4 a5 b5 s5 a6 b6 s6 a7 b7 s7 a8 b8 s8 a9 b9 s9 a10 b10 s10 a11 b11 s11 a12 b12 s12 a14_0 b14_0 s14_0 a15 b15 s15 a16 b16 s16 a17 b17 s17 a18 b18 s18 a19 b19 s19 a20_0 b20_0 s20_0 a20_1 b20_1 s20_1 a20_2 b20_2 s20_2 a20_3 b20_3 s20_3 a20_4 b20_4 s20_4 a20_5 b20_5 s20_5 a20_6 b20_6 s20_6 a20_7 b20_7 s20_7 a20_8 b20_8 s20_8 a20_9 b20_9 s20_9 a20_10 b20_10 s20_10 a21 b21 s21 a22 b22 s22 a23 b23 s23 a24 b24 s24 a25 b25 s25 a26 b26 s26 a28 b28 s28 a29 b29 s29 a30 b30 s30 a31 b31 s31 a32 b32 s32
noncomputable def hd.heap_39 : Params → Frag := by
  refine (?f : ∀ k : Params → Frag, k = hd.fin rfl → Params → Frag) _ (by delta hd.fin hd.Kof; exact rfl)
  exact fun k _ => k
noncomputable def hd.vfin {x0 x1 x2 x3 x4 x5 x6 x7 x8 x9 x10 x11 x12 x13 x14 x15 x16 x17 x18 x19 x20 x21 x22 x23 x24 x25 x26 x27 x28 x29 x30 x31 x32 : Stmt} (_ : PySem.Challenge.pw_nu0335_01.main.body = [x0, x1, x2, x3, x4, x5, x6, x7, x8, x9, x10, x11, x12, x13, x14, x15, x16, x17, x18, x19, x20, x21, x22, x23, x24, x25, x26, x27, x28, x29, x30, x31, x32]) : Program := { PySem.Challenge.pw_nu0335_01 with main := { PySem.Challenge.pw_nu0335_01.main with body := [x1, x3, x4, x5, x6, x7, x8, x9, x10, x11, x12, x14, x15, x16, x17, x18, x19, x20, x21, x22, x23, x24, x25, x26, x28, x29, x30, x31, x32] } }
noncomputable def hd.view_39 : Program := by
  refine (?f : ∀ k : Program, k = hd.vfin rfl → Program) _ (by delta hd.vfin; exact rfl)
  exact fun k _ => k
noncomputable abbrev hd.H : Hook := kHook hd.heap_39 (nat_lit 2 :: nat_lit 3 :: nat_lit 15 :: nat_lit 22 :: nat_lit 23 :: nat_lit 24 :: nat_lit 25 :: nat_lit 28 :: nat_lit 30 :: nat_lit 31 :: nat_lit 33 :: nat_lit 34 :: nat_lit 35 :: nat_lit 37 :: nat_lit 38 :: nat_lit 40 :: nat_lit 41 :: nat_lit 42 :: nat_lit 44 :: nat_lit 45 :: nat_lit 47 :: nat_lit 48 :: nat_lit 49 :: nat_lit 51 :: nat_lit 52 :: nat_lit 54 :: nat_lit 55 :: nat_lit 56 :: nat_lit 58 :: nat_lit 59 :: nat_lit 61 :: nat_lit 62 :: nat_lit 63 :: nat_lit 65 :: nat_lit 66 :: nat_lit 68 :: nat_lit 69 :: nat_lit 70 :: nat_lit 72 :: nat_lit 73 :: nat_lit 75 :: nat_lit 76 :: nat_lit 77 :: nat_lit 79 :: nat_lit 80 :: nat_lit 82 :: nat_lit 83 :: nat_lit 84 :: nat_lit 86 :: nat_lit 87 :: nat_lit 89 :: nat_lit 90 :: nat_lit 91 :: nat_lit 93 :: nat_lit 94 :: nat_lit 96 :: nat_lit 97 :: nat_lit 98 :: nat_lit 105 :: nat_lit 107 :: nat_lit 108 :: nat_lit 110 :: nat_lit 111 :: nat_lit 112 :: nat_lit 113 :: nat_lit 114 :: nat_lit 117 :: nat_lit 119 :: nat_lit 120 :: nat_lit 122 :: nat_lit 123 :: nat_lit 124 :: nat_lit 126 :: nat_lit 127 :: nat_lit 129 :: nat_lit 130 :: nat_lit 131 :: nat_lit 133 :: nat_lit 134 :: nat_lit 136 :: nat_lit 137 :: nat_lit 138 :: nat_lit 140 :: nat_lit 141 :: nat_lit 143 :: nat_lit 144 :: nat_lit 145 :: nat_lit 147 :: nat_lit 148 :: nat_lit 150 :: nat_lit 151 :: nat_lit 159 :: nat_lit 161 :: nat_lit 162 :: nat_lit 164 :: nat_lit 165 :: nat_lit 166 :: nat_lit 168 :: nat_lit 169 :: nat_lit 171 :: nat_lit 172 :: nat_lit 173 :: nat_lit 175 :: nat_lit 176 :: nat_lit 178 :: nat_lit 179 :: nat_lit 180 :: nat_lit 182 :: nat_lit 183 :: nat_lit 185 :: nat_lit 186 :: nat_lit 187 :: nat_lit 189 :: nat_lit 190 :: nat_lit 192 :: nat_lit 193 :: nat_lit 194 :: nat_lit 196 :: nat_lit 197 :: nat_lit 199 :: nat_lit 200 :: nat_lit 201 :: nat_lit 203 :: nat_lit 204 :: nat_lit 206 :: nat_lit 207 :: nat_lit 208 :: nat_lit 210 :: nat_lit 211 :: nat_lit 213 :: nat_lit 214 :: nat_lit 215 :: nat_lit 217 :: nat_lit 218 :: nat_lit 220 :: nat_lit 221 :: nat_lit 222 :: nat_lit 224 :: nat_lit 225 :: nat_lit 227 :: nat_lit 228 :: nat_lit 229 :: nat_lit 231 :: nat_lit 232 :: nat_lit 234 :: nat_lit 235 :: nat_lit 236 :: nat_lit 237 :: nat_lit 238 :: nat_lit 239 :: nat_lit 240 :: nat_lit 243 :: nat_lit 245 :: nat_lit 246 :: nat_lit 248 :: nat_lit 249 :: nat_lit 250 :: nat_lit 252 :: nat_lit 253 :: nat_lit 255 :: nat_lit 256 :: nat_lit 257 :: nat_lit 259 :: nat_lit 260 :: nat_lit 262 :: nat_lit 263 :: nat_lit 264 :: nat_lit 266 :: nat_lit 267 :: nat_lit 269 :: nat_lit 270 :: nat_lit 271 :: nat_lit 273 :: nat_lit 274 :: nat_lit 276 :: nat_lit 277 :: nat_lit 278 :: nat_lit 280 :: nat_lit 281 :: nat_lit 283 :: nat_lit 284 :: nat_lit 285 :: nat_lit 287 :: nat_lit 288 :: nat_lit 290 :: nat_lit 291 :: nat_lit 292 :: nat_lit 294 :: nat_lit 295 :: nat_lit 297 :: nat_lit 298 :: nat_lit 299 :: nat_lit 301 :: nat_lit 302 :: nat_lit 304 :: nat_lit 305 :: nat_lit 306 :: nat_lit 308 :: nat_lit 309 :: nat_lit 311 :: nat_lit 312 :: nat_lit 313 :: nat_lit 315 :: nat_lit 316 :: nat_lit 318 :: nat_lit 319 :: []) (fun _ => by kernel_rfl)
theorem hd.said : OpenLaw.wellSaid PySem.Challenge.rw_nu0335_01 = true := by
  first
    | exact (congrFun PySem.W.Fast.te9446332074065402090 _).trans (by kernel_rfl)
    | kernel_rfl
theorem hd.of_parts {p q : Program} {loose : List Str} {Xt : Shared → Bool} {α : Type} {Yf : Shared → α} {Ya : World → α} {N : Nat}
    (hA : ∀ w, (openEnds treeTable p w N).map Yf = some (Ya w))
    (hB : ∀ w, (openEnds treeTable p w N).map (fun s => (seen ((recsOf q).map (·.name)) (ownsOf q) [] { s with gens := #[] }, s.heap.bltView,
      s.heap.keysOk (looseW q loose) ((recsOf q).map (·.name)) ((litsOf q).map (·.1)) ((clssOf q (looseW q loose)).map (·.name)) && s.heap.accountedOkI (importedModules p.main.body) && s.heap.isNs mainGlobals && s.heap.isNs builtinsNs && tablesOk q s.heap && Xt s && s.gens.size == 0)) = some (expectedOf q, bltViewBooted, true))
    (hC : ∀ w, (openEnds treeTable p w N).map (fun s => (tabsOk q s, pinSeenD q (drecsOf q) s, plainSeenE q (looseW q loose) s, plainSeenD q loose s, wideSeen q s, clsSeenW q loose s)) = some (true, pinGoodD (drecsOf q), plainGoodE q (looseW q loose), plainGoodD q loose, wideGood q, clsGoodW q loose)) :
    LeftO p q loose Xt Yf Ya N := by
  intro w
  obtain ⟨s, hs, eA⟩ := Option.map_eq_some_iff.mp (hA w)
  have eB := hB w
  have eC := hC w
  rw [hs] at eB eC ⊢
  have b := Option.some.inj eB
  have c := Option.some.inj eC
  refine congrArg some (Prod.ext ?_ eA)
  have b1 := congrArg Prod.fst b
  have b2 := congrArg (fun x => x.2.1) b
  have b3 := congrArg (fun x => x.2.2) b
  exact Prod.ext b1 (Prod.ext b2 (Prod.ext b3 c))
theorem hd.leftA (w : World) : (openEnds treeTable PySem.Challenge.rw_nu0335_01.row.toRowW.prog w 3814).map (Hook.obs hd.H) = some (Hook.val hd.H w) := by
  unfold openEnds fencedOpening topFrom
  try rw [PySem.W.Fast.te14364793385576792824]
  try rw [PySem.W.Fast.te10274390034422433532]
  try rw [PySem.W.Fast.te1435165496053646825]
  try rw [PySem.W.Fast.te14289696077712309145]
  try rw [PySem.W.Fast.te14082659384304107361]
  try rw [PySem.W.Fast.te8920871248978507458]
  try rw [PySem.W.Fast.te5923862056798008813]
  kernel_rfl
theorem hd.leftB (w : World) : (openEnds treeTable PySem.Challenge.rw_nu0335_01.row.toRowW.prog w 3814).map (fun s => (seen ((recsOf hd.view_39).map (·.name)) (ownsOf hd.view_39) [] { s with gens := #[] }, s.heap.bltView,
      s.heap.keysOk (looseW hd.view_39 []) ((recsOf hd.view_39).map (·.name)) ((litsOf hd.view_39).map (·.1)) ((clssOf hd.view_39 (looseW hd.view_39 [])).map (·.name)) && s.heap.accountedOkI (importedModules PySem.Challenge.rw_nu0335_01.row.toRowW.prog.main.body) && s.heap.isNs mainGlobals && s.heap.isNs builtinsNs && tablesOk hd.view_39 s.heap && (fun s => xlAt hd.view_39 [] s && recOk (RowW.records PySem.Challenge.rw_nu0335_01.row.toRowW) s) s && s.gens.size == 0)) = some (expectedOf hd.view_39, bltViewBooted, true) := by
  unfold openEnds fencedOpening topFrom
  try rw [PySem.W.Fast.te14364793385576792824]
  try rw [PySem.W.Fast.te10274390034422433532]
  try rw [PySem.W.Fast.te1435165496053646825]
  try rw [PySem.W.Fast.te14289696077712309145]
  try rw [PySem.W.Fast.te14082659384304107361]
  try rw [PySem.W.Fast.te8920871248978507458]
  try rw [PySem.W.Fast.te5923862056798008813]
  try rw [PySem.W.Fast.te5160383126252970620]
  try rw [PySem.W.Fast.te3399658132070893891]
  try rw [PySem.W.Fast.te5991557255702980513]
  try rw [PySem.W.Fast.te10880121769531294198]
  try rw [PySem.W.Fast.te821141287760084731]
  try rw [PySem.W.Fast.te7409074990110511671]
  try rw [PySem.W.Fast.te13664370479719496447]
  try rw [PySem.W.Fast.te14722251495701143533]
  try rw [PySem.W.Fast.te10994771534591457954]
  try rw [PySem.W.Fast.te479339242167458305]
  try rw [PySem.W.Fast.te16090120013241838585]
  try rw [PySem.W.Fast.te3247288618530077131]
  try rw [PySem.W.Fast.te2386780881361962483]
  try rw [PySem.W.Fast.te11698064438423848299]
  try rw [PySem.W.Fast.te7317090234206586261]
  try rw [PySem.W.Fast.te7369524293546568484]
  kernel_rfl
theorem hd.leftC (w : World) : (openEnds treeTable PySem.Challenge.rw_nu0335_01.row.toRowW.prog w 3814).map (fun s => (tabsOk hd.view_39 s, pinSeenD hd.view_39 (drecsOf hd.view_39) s, plainSeenE hd.view_39 (looseW hd.view_39 []) s, plainSeenD hd.view_39 [] s, wideSeen hd.view_39 s, clsSeenW hd.view_39 [] s)) = some (true, pinGoodD (drecsOf hd.view_39), plainGoodE hd.view_39 (looseW hd.view_39 []), plainGoodD hd.view_39 [], wideGood hd.view_39, clsGoodW hd.view_39 []) := by
  unfold openEnds fencedOpening topFrom
  try rw [PySem.W.Fast.te14364793385576792824]
  try rw [PySem.W.Fast.te10274390034422433532]
  try rw [PySem.W.Fast.te1435165496053646825]
  try rw [PySem.W.Fast.te14289696077712309145]
  try rw [PySem.W.Fast.te14082659384304107361]
  try rw [PySem.W.Fast.te8920871248978507458]
  try rw [PySem.W.Fast.te5923862056798008813]
  try rw [PySem.W.Fast.te5160383126252970620]
  try rw [PySem.W.Fast.te3399658132070893891]
  try rw [PySem.W.Fast.te5991557255702980513]
  try rw [PySem.W.Fast.te10880121769531294198]
  try rw [PySem.W.Fast.te821141287760084731]
  try rw [PySem.W.Fast.te7409074990110511671]
  try rw [PySem.W.Fast.te13664370479719496447]
  try rw [PySem.W.Fast.te14722251495701143533]
  try rw [PySem.W.Fast.te10994771534591457954]
  try rw [PySem.W.Fast.te479339242167458305]
  try rw [PySem.W.Fast.te16090120013241838585]
  try rw [PySem.W.Fast.te3247288618530077131]
  try rw [PySem.W.Fast.te2386780881361962483]
  try rw [PySem.W.Fast.te11698064438423848299]
  try rw [PySem.W.Fast.te7317090234206586261]
  try rw [PySem.W.Fast.te7369524293546568484]
  kernel_rfl
theorem hd.left : LeftO PySem.Challenge.rw_nu0335_01.row.toRowW.prog hd.view_39 [] (fun s => xlAt hd.view_39 [] s && recOk (RowW.records PySem.Challenge.rw_nu0335_01.row.toRowW) s) (Hook.obs hd.H) (Hook.val hd.H) 3814 := hd.of_parts hd.leftA hd.leftB hd.leftC
end Mine
namespace Mine
open Sem (wp)

/-- every object stays where it is and keeps its dict -/
def DK (h h' : Heap) : Prop := ∀ b o, h.get? b = some o → ∃ o', h'.get? b = some o' ∧ o'.dict = o.dict
theorem DK.refl (h : Heap) : DK h h := fun _ o e => ⟨o, e, rfl⟩
theorem DK.trans {h₁ h₂ h₃ : Heap} (x : DK h₁ h₂) (y : DK h₂ h₃) : DK h₁ h₃ := fun b o e => by
  obtain ⟨o₂, e₂, d₂⟩ := x b o e
  obtain ⟨o₃, e₃, d₃⟩ := y b o₂ e₂
  exact ⟨o₃, e₃, d₃.trans d₂⟩
theorem DK.push (h : Heap) (o : Obj) : DK h (h.push o) := fun _ o' e => ⟨o', Heap.get?_push_of_some _ e, rfl⟩
theorem DK.update (h : Heap) (a : Addr) (f : Obj → Obj) (hf : ∀ o, (f o).dict = o.dict ∧ (f o).isFreed = o.isFreed) : DK h (h.update a f) := fun b o e => by
  by_cases q : a = b
  · subst q
    exact ⟨f o, Heap.get?_update_self f e ((hf o).2.trans (Heap.get?_some_iff.mp e).2), (hf o).1⟩
  · exact ⟨o, (Heap.get?_update_other _ _ q).trans e, rfl⟩
theorem dk_fields (i : Nat) (x : Value) (o : Obj) : (Obj.mapFields (·.setIfInBounds i x) o).dict = o.dict ∧ (Obj.mapFields (·.setIfInBounds i x) o).isFreed = o.isFreed := by
  obtain ⟨c, d, dt, sl⟩ := o
  cases dt <;> exact ⟨rfl, rfl⟩
theorem dk_slots (sl : Array (Option Value)) (o : Obj) : ({ o with slots := sl } : Obj).dict = o.dict ∧ ({ o with slots := sl } : Obj).isFreed = o.isFreed := by
  obtain ⟨c, d, dt, sl⟩ := o
  cases dt <;> exact ⟨rfl, rfl⟩

structure KeepsD {α : Type} (t : Sem α) : Prop where
  out : ∀ (M : Model) (Γ : PySem.Ctx) (P : α → Pos → Shared → Prop) (Ee : Value → Pos → Shared → Prop) (p : Pos) (s : Shared), wp M Γ t P Ee p s →
    wp M Γ t (fun a p' s' => P a p' s' ∧ DK s.heap s'.heap) (fun e p' s' => Ee e p' s' ∧ DK s.heap s'.heap) p s
namespace KeepsD
variable {α β : Type}
theorem pure (a : α) : KeepsD (Pure.pure a : Sem α) := ⟨fun _ _ _ _ _ s h => ⟨h, DK.refl s.heap⟩⟩
theorem unsupported (w : String) : KeepsD (PySem.unsupported w : Sem α) := ⟨fun _ _ _ _ _ _ h => h⟩
theorem bind {m : Sem α} {f : α → Sem β} (hm : KeepsD m) (hf : ∀ a, KeepsD (f a)) : KeepsD (m >>= f) := ⟨fun M Γ P Ee p s h => by
  rw [Sem.wp_bind'] at h ⊢
  refine Sem.wp_mono M Γ m (fun a p' s' h' => ?_) (fun _ _ _ x => x) p s (hm.out M Γ _ Ee p s h)
  exact Sem.wp_mono M Γ (f a) (fun _ _ _ x => ⟨x.1, h'.2.trans x.2⟩) (fun _ _ _ x => ⟨x.1, h'.2.trans x.2⟩) p' s' ((hf a).out M Γ P Ee p' s' h'.1)⟩
theorem ite {c : Prop} [Decidable c] {t u : Sem α} (ht : KeepsD t) (hu : KeepsD u) : KeepsD (if c then t else u) := by split <;> assumption
theorem load (a : Addr) : KeepsD (PySem.load a) := ⟨fun _ _ _ _ _ s h => by
  obtain ⟨o, ho, h⟩ := h
  exact ⟨o, ho, h, DK.refl s.heap⟩⟩
theorem update (a : Addr) (f : Obj → Obj) (hf : ∀ o, (f o).dict = o.dict ∧ (f o).isFreed = o.isFreed) : KeepsD (PySem.update a f) := ⟨fun M Γ P Ee p s h =>
  (Sem.wp_cmd_update M Γ _ p s a f _).mpr ⟨((Sem.wp_cmd_update M Γ _ p s a f _).mp h).1, ((Sem.wp_cmd_update M Γ _ p s a f _).mp h).2, DK.update _ _ _ hf⟩⟩
theorem stack : KeepsD PySem.stack := ⟨fun M Γ P Ee p s h => by
  unfold PySem.stack at h ⊢
  rw [Sem.wp_stack] at h ⊢
  exact ⟨h, DK.refl s.heap⟩⟩
theorem alloc (o : Obj) : KeepsD (PySem.alloc o) := ⟨fun _ _ _ _ _ s h => ⟨h, DK.push s.heap o⟩⟩
theorem field (v : Value) (i : Nat) : KeepsD (PySem.field v i) := ⟨fun _ Γ P Ee p s h => by
  obtain ⟨a, o, vs, x, e, ho, hd, hx, h⟩ := (wp_field_iff Γ v i P Ee p s).mp h
  exact (wp_field_iff Γ v i _ _ p s).mpr ⟨a, o, vs, x, e, ho, hd, hx, h, DK.refl s.heap⟩⟩
theorem setField (v : Value) (i : Nat) (x : Value) : KeepsD (PySem.setField v i x) := ⟨fun _ Γ P Ee p s h => by
  obtain ⟨a, o, vs, e, ho, hd, hx, h⟩ := (wp_setField_iff Γ v i x P Ee p s).mp h
  exact (wp_setField_iff Γ v i x _ _ p s).mpr ⟨a, o, vs, e, ho, hd, hx, h, DK.update _ _ _ (dk_fields i x)⟩⟩
theorem newFields (n : String) (vs : List Value) : KeepsD (PySem.newFields n vs) := ⟨fun M Γ P Ee p s h => by
  unfold PySem.newFields newObj newObjAsIs at h ⊢
  simp only [Sem.wp_bind', PySem.alloc, Sem.wp_alloc, Sem.wp_pure, Sem.wp_pure'] at h ⊢
  by_cases hz : vs.toArray.size > sizeLine + 2
  · simp only [hz, if_true] at h
    exact h.elim
  · simp only [hz, if_false] at h ⊢
    simp only [Sem.wp_bind', Sem.wp_alloc, Sem.wp_pure, Sem.wp_pure'] at h ⊢
    exact ⟨h, DK.push _ _⟩⟩
end KeepsD
theorem kd_behindIsImport (env : Env) (outer : List Env) : KeepsD (behindIsImport env outer) := by
  unfold behindIsImport
  repeat' with_reducible first
    | exact KeepsD.pure _
    | exact KeepsD.field _ _
    | apply KeepsD.ite
    | apply KeepsD.bind
    | intro _
    | split
theorem kd_under : KeepsD underTheClaimsCaller := by
  unfold underTheClaimsCaller
  repeat' with_reducible first
    | exact KeepsD.pure _
    | exact KeepsD.stack
    | apply KeepsD.ite
    | apply KeepsD.bind
    | intro _
    | split
theorem kd_keptBack (env : Env) (i : Bool) (l : List Env) : KeepsD (keptBack env i l) := by
  have := kd_under
  cases l <;> unfold keptBack <;> repeat' with_reducible first
    | assumption
    | exact KeepsD.pure _
    | apply KeepsD.ite
    | apply KeepsD.bind
    | intro _
    | split
theorem kd_readyFrames : ∀ l : List Env, KeepsD (readyFrames l)
  | [] => KeepsD.pure _
  | env :: outer => by
    have ih := kd_readyFrames outer
    have h1 := kd_behindIsImport env outer
    have h2 := fun i => kd_keptBack env i outer
    unfold readyFrames
    repeat' with_reducible first
      | assumption
      | exact KeepsD.pure _
      | exact KeepsD.unsupported _
      | exact KeepsD.load _
      | (refine KeepsD.update _ _ ?_; intro o; exact dk_slots _ o)
      | apply KeepsD.ite
      | apply KeepsD.bind
      | intro _
      | split
    all_goals first | exact h2 _ | exact KeepsD.update _ _ fun o => dk_slots _ o
theorem kd_frameObject (l : List Env) : KeepsD (frameObject l) := by
  cases l with
  | nil => exact KeepsD.pure _
  | cons env outer =>
    have := kd_readyFrames (env :: outer)
    unfold frameObject
    exact KeepsD.bind this fun _ => KeepsD.pure _
theorem kd_frameEnvs : KeepsD frameEnvs := by
  unfold frameEnvs
  exact KeepsD.bind KeepsD.stack fun _ => KeepsD.pure _
theorem kd_frameOf (env : Env) : KeepsD (PySem.frameOf env) := by
  have h1 := kd_frameEnvs
  have h2 := kd_frameObject
  unfold PySem.frameOf
  refine KeepsD.bind h1 fun _ => KeepsD.bind (h2 _) fun r => ?_
  cases r
  · exact KeepsD.unsupported _
  · exact KeepsD.pure _
theorem kd_entryPlaceOf (f : Addr) (hn : Bool) : KeepsD (entryPlaceOf f hn) := by
  unfold entryPlaceOf
  refine KeepsD.bind KeepsD.stack fun acts => ?_
  split <;> exact KeepsD.pure _
theorem kd_newEntry (a b c d e : Value) (pl : List Value) : KeepsD (EntryCells.newEntry a b c d e pl) := by
  unfold EntryCells.newEntry
  exact KeepsD.newFields _ _
theorem kd_noteFrame (e : Value) (env : Env) : KeepsD (noteFrame e env) := by
  unfold noteFrame
  cases env.frame with
  | none => exact KeepsD.unsupported _
  | some f =>
    have tail : ∀ head : Value, KeepsD (do setField e 1 (← EntryCells.newEntry head (← PySem.frameOf env) .none (rawInt f) .none (← entryPlaceOf f (head != .none)))) := fun head =>
      KeepsD.bind (kd_frameOf env) fun _ => KeepsD.bind (kd_entryPlaceOf f _) fun _ => KeepsD.bind (kd_newEntry _ _ _ _ _ _) fun _ => KeepsD.setField _ _ _
    refine KeepsD.bind (KeepsD.field _ _) fun head => ?_
    by_cases hn : (head != .none) = true
    · simp only [hn, if_true]
      refine KeepsD.bind (KeepsD.field _ _) fun m => ?_
      by_cases hm : (m == rawInt f) = true
      · simp only [hm, if_true]
        exact KeepsD.pure _
      · simp only [hm, Bool.false_eq_true, if_false]
        have t := tail head
        rw [hn] at t
        exact KeepsD.bind (KeepsD.setField _ _ _) fun _ => t
    · simp only [hn, Bool.false_eq_true, if_false]
      have hn' : (head != .none) = false := by simpa using hn
      have t := tail head
      rw [hn'] at t
      exact t
theorem kd_setFlight (e : Value) (f : Option Addr) : KeepsD (setFlight e f) := by
  unfold setFlight
  refine KeepsD.bind (KeepsD.field _ _) fun tb => ?_
  by_cases hn : (tb != .none) = true
  · simp only [hn, if_true]
    exact KeepsD.setField _ _ _
  · simp only [hn, Bool.false_eq_true, if_false]
    exact KeepsD.pure _
theorem kd_leaving (env : Env) (e : Value) : KeepsD (leaving env e) := by
  unfold leaving
  exact KeepsD.bind (kd_noteFrame _ _) fun _ => kd_setFlight _ _
theorem KeepsD.any {α : Type} {t : Sem α} (k : KeepsD t) {M : Model} {A : Around} {Q : α → Shared → Prop} {E : Value → Shared → Prop} {s : Shared} (h : wpAny M A t Q E s) :
    wpAny M A t (fun a s' => Q a s' ∧ DK s.heap s'.heap) (fun e s' => E e s' ∧ DK s.heap s'.heap) s := fun Γ p hΓ => k.out M Γ _ _ p s (h Γ p hΓ)

/-- the dict of an AsmError that is made: its row and its text -/
def AsmDict (od : Obj) (row : Int) (what : Str) : Prop :=
  ∃ es n tr tw, od = dictOf es n ∧ getL "row" es = some (some (.int row tr)) ∧ getL "what" es = some (some (.str what tw))
/-- an AsmError, just made: it has left no frame yet -/
structure MadeD (h h' : Heap) (e : Addr) (row : Int) (what : Str) : Prop where
  keeps : ∀ b o, h.get? b = some o → h'.get? b = some o
  new : h.get? e = none
  there : ∃ t dx od, h'.get? e = some { cls := .ref 114, dict := some dx, data := .fields #[.ref t, .none, .none, .none, .bool false, .none] } ∧ h'.get? dx = some od ∧ dx ≠ e ∧ h.get? dx = none ∧ AsmDict od row what
/-- an AsmError in flight, that may still leave the frames of l -/
def FlyD (base : Heap) (l : List Env) (e : Addr) (row : Int) (what : Str) (h : Heap) : Prop :=
  ∃ B dx od a0 oe, base.StaysIn B ∧ B.get? dx = some od ∧ AsmDict od row what ∧ Heap.FlyingW B l e (.ref 114) a0 h ∧ h.get? e = some oe ∧ oe.dict = some dx ∧ base.get? dx = none

section
variable {M : Model} {A : Around} {E : Value → Shared → Prop} {s' : Shared} {base g h : Heap} {outer : List Env} {L a e : Addr} {m : Str → Option Value} {name : Str} {scope : Scope} {cd : Value} {Q : Unit → Shared → Prop} {row : Int} {what : Str}

theorem leave_made (K : Below A base outer g) (F : Fr g L h m) (hx : MadeD h s'.heap e row what)
    (hQ : ∀ h', FlyD base outer e row what h' → g.UpToSlots h' → Q () { s' with heap := h' }) (hk : scope.kind = .function := by rfl) :
    wpAny M (A.deeper (envOf name scope L a cd)) (leaving (envOf name scope L a cd) (.ref e)) Q E s' := by
  have K' := K.push (name := name) (a := a) (cd := cd) F hk
  obtain ⟨t, dx, od, he, hdx, hne, hdn, had⟩ := hx.there
  have hbn : base.get? dx = none := by
    cases q : base.get? dx with
    | none => rfl
    | some o =>
      have := K'.stays _ _ q
      rw [hdn] at this
      cases this
  let as := e :: (envOf name scope L a cd :: outer).filterMap (·.frame)
  have hin : ∀ env ∈ (envOf name scope L a cd :: outer), ∀ b, env.frame = some b → b ∈ as := fun env hm b hb => .tail _ (List.mem_filterMap.mpr ⟨env, hm, hb⟩)
  have hfn : ∀ b, base.get? b ≠ none → b ∉ (envOf name scope L a cd :: outer).filterMap (·.frame) := fun b hb hm => hb (K'.frames.mem hm).1
  have st : base.StaysIn (hideAll s'.heap as) := fun b o q => hideAll_get _ (hx.keeps _ _ (K'.stays b o q)) fun hm => by
    rcases List.mem_cons.mp hm with rfl | hm
    · have := K'.stays _ _ q
      rw [hx.new] at this
      cases this
    · exact hfn b (by rw [q]; intro z; cases z) hm
  have hdxB : (hideAll s'.heap as).get? dx = some od := hideAll_get _ hdx fun hm => by
    rcases List.mem_cons.mp hm with q | hm
    · exact hne q
    · obtain ⟨_, o, ho, _⟩ := K'.frames.mem hm
      rw [hdn] at ho
      cases ho
  have Fs : s'.heap.FunFrames base (envOf name scope L a cd :: outer) := K'.frames.of_keeps fun b o hb _ => ⟨o, hx.keeps b o hb, rfl⟩
  have w := wpAny_leaving_firstW (M := M) (A := A.deeper (envOf name scope L a cd)) (E := E) (s := s') (base := hideAll s'.heap as) (env := envOf name scope L a cd) (outer := outer) (L := L) (e := e) (a0 := .ref t)
    (Q := fun _ s₂ => ∃ h', s₂ = { s' with heap := h' } ∧ Heap.LeftW (hideAll s'.heap as) (envOf name scope L a cd :: outer) e (.ref 114) (.ref t) s'.heap h')
    K'.stack (funFrames_hide Fs hin) rfl he (fun b o q => of_hideAll _ q) (hideAll_none _ (.head _)) rfl rfl rfl fun h' hL => ⟨h', rfl, hL⟩
  refine wpAny_mono ((kd_leaving _ _).any w) (fun u s₂ p => ?_) fun _ _ x => x.1
  obtain ⟨⟨h', rfl, k1, ⟨_, _, k2⟩, k3, k4⟩, dk⟩ := p
  obtain ⟨oe, ho, hd⟩ := dk _ _ he
  exact hQ h' ⟨_, dx, od, .ref t, oe, st, hdxB, had, ⟨k1, hideAll_none _ (.head _), k2, k3⟩, ho, hd, hbn⟩
    ((Heap.UpToSlots.of_keeps F.keep).trans ((Heap.UpToSlots.of_keeps hx.keeps).trans k4))

theorem leave_on (K : Below A base outer g) (R : FlyD base (envOf name scope L a cd :: outer) e row what s'.heap) (hsm : g.UpToSlots s'.heap)
    (hQ : ∀ h', FlyD base outer e row what h' → g.UpToSlots h' → Q () { s' with heap := h' }) :
    wpAny M (A.deeper (envOf name scope L a cd)) (leaving (envOf name scope L a cd) (.ref e)) Q E s' := by
  obtain ⟨B, dx, od, a0, oe, hB, hdx, had, hfl, he, hd, hbn⟩ := R
  have w := wpAny_leaves_onW (M := M) (E := E) (s := s') (base := B) (env := envOf name scope L a cd) (outer := outer) (L := L) (e := e) (cls := .ref 114) (a0 := a0)
    (Q := fun _ s₂ => ∃ h', s₂ = { s' with heap := h' } ∧ Heap.FlyingW B outer e (.ref 114) a0 h' ∧ s'.heap.UpToSlots h') (Around.frames_deeper K.stack) rfl hfl fun h' x1 x2 => ⟨h', rfl, x1, x2⟩
  refine wpAny_mono ((kd_leaving _ _).any w) (fun u s₂ p => ?_) fun _ _ x => x.1
  obtain ⟨⟨h', rfl, k1, k2⟩, dk⟩ := p
  obtain ⟨oe', ho, hd'⟩ := dk _ _ he
  exact hQ h' ⟨B, dx, od, a0, oe', hB, hdx, had, k1, ho, hd'.trans hd, hbn⟩ (hsm.trans k2)
end

end Mine
namespace Mine
theorem around_up {α : Type} {M : Model} {A A' : Around} {t : Sem α} {Q : α → Shared → Prop} {E : Value → Shared → Prop} {s : Shared} (h1 : A.handled = A'.handled) (h2 : A.depth ≤ A'.depth) (h3 : A.frames = A'.frames) (h4 : A.guards = A'.guards) (h5 : A.units ≤ A'.units)
    (h : wpAny M A' t Q E s) : wpAny M A t Q E s := fun Γ p hΓ => h Γ p ⟨hΓ.1.trans h1, Nat.le_trans hΓ.2.1 h2, fun l hl => hΓ.2.2.1 l (h3.trans hl), fun g hg => hΓ.2.2.2.1 g (h4.trans hg), Nat.le_trans hΓ.2.2.2.2 h5⟩

theorem asm_cls {P : Params} {h : Heap} (X : (hd.heap_39 P).In h) : ∃ nm qn N bs bm hdct sn sub ab col dd k0 k1 k2 k3 k5 newId,
    h.get? 114 = some (excClassObj nm qn 114 N bs bm hdct sn sub ab col dd k0 k1 k2 k3 k5 newId) ∧ bm.contains (.type "BaseException") = true ∧ bm.contains (.type "Exception") = true := kts_cls (T := "Exception") X (by kernel_rfl)

section
variable {M : Model} {A : Around} {E : Value → Shared → Prop} {env : Env}
variable {nm q : Str} {C N : Addr} {bs bm : List Value} {hdct : Bool} {sn : List Str} {sub : List Value} {ab : Bool} {col : Option Bool} {dd : Option Addr} {k0 k1 k2 k3 k5 : Option Value} {newId : String}
theorem raiseStmt_made {s : Shared} {x : Sem Value} {Q : Flow → Shared → Prop} (hbase : bm.contains (.type "BaseException") = true) (hh : A.handled = none)
    (h : wpAny M A x (fun v s₁ => ∃ e t dx, v = .ref e ∧ s₁.heap.get? C = some (excClassObj nm q C N bs bm hdct sn sub ab col dd k0 k1 k2 k3 k5 newId) ∧
      s₁.heap.get? e = some { cls := .ref C, dict := some dx, data := .fields #[.ref t, .none, .none, .none, .bool false, .none] } ∧ E (.ref e) s₁) E s) :
    wpAny M A (raiseStmt env (some x) none) Q E s := by
  have hcB : (Value.ref C :: bm).contains (.type "BaseException") = true := by rw [List.contains_cons, hbase, Bool.or_true]
  unfold raiseStmt
  refine wpAny_bind (wpAny_mono h (fun v s₁ h₁ => ?_) fun _ _ x => x)
  obtain ⟨e, t, dx, rfl, hC, he, hE⟩ := h₁
  obtain ⟨hp, g, d, tk, os⟩ := s₁
  repeat (first | with_reducible refine wpAny_loadPart_at he ?_ | with_reducible refine wpAny_loadPart_at hC ?_ | (with_reducible refine wpAny_isSubtype_exc hC ?_; rw [hcB]) | wp_step)
  exact wpAny_raiseNew_none hh hE
end
end Mine
namespace Mine
open Sem (wp)
open Builtin Builtin.ObjectAttr
section
variable {prog : Program} {w : World} {A : Around} {E : Value → Shared → Prop} {h : Heap} {g : Array GenState} {d : Drawn} {t : Nat} {os : OsState}
variable {nm q : Str} {C N : Addr} {bs bm bmB : List Value} {hdct : Bool} {sn : List Str} {sub : List Value} {ab : Bool} {col : Option Bool} {dd : Option Addr} {k0 k1 k2 k3 k5 : Option Value} {B Bn newId nid initId inN : String} {bmN : List Value}
theorem type_call_init (Fn : ExcBaseFacts Bn newId inN bmN) (hBn : bmB.contains (.type Bn) = true) (F : ExcBaseFacts B nid initId bmB) (T : OwnTail h bmB bm) {mN : Str → Option Value} {rest : List Value} {Q : Fin → Shared → Prop} {f : Addr} {fo : Obj}
    (hC : h.get? C = some (excClassObj nm q C N bs bm hdct sn sub ab col dd k0 k1 k2 k3 k5 newId)) (hn : h.Ns N mN) (hni : mN "__init__" = some (.ref f)) (hf : h.get? f = some fo) (hfc : fo.cls = .type "function")
    (hq : ∀ h' e, Heap.MadeExcOf h h' e (.ref C) rest → codeAny (model prog w) A (.call (.ref f) ⟨.ref e :: rest, []⟩) (fun r s' => match r with | .ok (.ret v) => v = .none ∧ Q (.done (.ret (.ref e))) s' | .ok _ => False | .error x => E x s') ⟨h', g, d, t, os⟩) (hrest : rest.length ≤ sizeLine := by size_fits) :
    wpAny (model prog w) A (Builtin.«type.__call__» ⟨.ref C :: rest, []⟩) Q E ⟨h, g, d, t, os⟩ := by
  repeat (first | with_reducible refine wpAny_loadPart_at hC ?_ | with_reducible refine wpAny_madeBy_exc hC ?_ | wp_step)
  refine codeAny_call_builtin_code (Code.quiet_builtin _ Fn.quiet) (wpAny_check_new_subU Fn hBn T hC ?_)
  refine codeAny_exc_new_subU Fn hBn F T hC ?_ hrest
  show wpAny _ _ _ _ _ _
  have hC₁ := Heap.get?_push_of_some { cls := .ref C, data := .fields #[.ref h.objs.size, .none, .none, .none, .bool false, .none] }
    (Heap.get?_push_of_some { cls := .type "tuple", data := .seq rest.toArray } hC)
  have hf₁ := Heap.get?_push_of_some { cls := .ref C, data := .fields #[.ref h.objs.size, .none, .none, .none, .bool false, .none] }
    (Heap.get?_push_of_some { cls := .type "tuple", data := .seq rest.toArray } hf)
  have hn₁ : ((h.push { cls := .type "tuple", data := .seq rest.toArray }).push { cls := .ref C, data := .fields #[.ref h.objs.size, .none, .none, .none, .bool false, .none] }).Ns N mN :=
    let ⟨o, es, ep, e, r⟩ := hn; ⟨o, es, ep, Heap.get?_push_of_some _ (Heap.get?_push_of_some _ e), r⟩
  have hget : ((h.push { cls := .type "tuple", data := .seq rest.toArray }).push
      { cls := .ref C, data := .fields #[.ref h.objs.size, .none, .none, .none, .bool false, .none] }).get? (h.objs.size + 1) = some
      { cls := .ref C, data := .fields #[.ref h.objs.size, .none, .none, .none, .bool false, .none] } := by heap_get
  have hcC : (Value.ref C :: bm).contains (.ref C) = true := by simp
  have T₁ := T.keeps (h' := (h.push { cls := .type "tuple", data := .seq rest.toArray }).push { cls := .ref C, data := .fields #[.ref h.objs.size, .none, .none, .none, .bool false, .none] })
    fun b o e => Heap.get?_push_of_some _ (Heap.get?_push_of_some _ e)
  unfold isInstance
  repeat (first | with_reducible refine wpAny_loadPart_at hget ?_ | (with_reducible refine wpAny_isSubtype_exc hC₁ ?_; rw [hcC]) | wp_step)
  show wpAny _ _ (typeLookup (.ref C) _) _ _ _
  refine wpAny_typeLookup_tail hC₁ hn₁ T₁ F.mroIs F.init.lookup ?_
  rw [hni]
  refine wpAny_holding (wpAny_bind ?_)
  unfold bindSpecial
  repeat (first | (with_reducible refine wpAny_loadPart_at hf₁ ?_; rw [hfc]) | wp_step)
  refine codeAny_mono (hq _ (h.objs.size + 1) ⟨fun b o hb => Heap.get?_push_of_some _ (Heap.get?_push_of_some _ hb), Heap.get?_none_of_le (Nat.le_succ _), h.objs.size, hget, Heap.get?_none_of_le (Nat.le_refl _), Heap.get?_push_of_some _ (Heap.get?_push_at rfl rfl)⟩) fun r s' z => ?_
  rcases r with e | (v | _ | _ | _) <;> first | exact z | exact z.elim | skip
  obtain ⟨rfl, z⟩ := z
  exact wpAny_pure (wpAny_pure z)
theorem exc_made (Fn : ExcBaseFacts Bn newId inN bmN) (hBn : bmB.contains (.type Bn) = true) (F : ExcBaseFacts B nid initId bmB) (T : OwnTail h bmB bm) {mN : Str → Option Value} {rest : List Value} {Q : Value → Shared → Prop} {f : Addr} {fo : Obj}
    (hC : h.get? C = some (excClassObj nm q C N bs bm hdct sn sub ab col dd k0 k1 k2 k3 k5 newId)) (hn : h.Ns N mN) (hni : mN "__init__" = some (.ref f)) (hf : h.get? f = some fo) (hfc : fo.cls = .type "function")
    (hq : ∀ h' e, Heap.MadeExcOf h h' e (.ref C) rest → codeAny (model prog w) (A.under (.builtin "type.__call__" ⟨.ref C :: rest, []⟩)) (.call (.ref f) ⟨.ref e :: rest, []⟩) (fun r s' => match r with | .ok (.ret v) => v = .none ∧ Q (.ref e) s' | .ok _ => False | .error x => E x s') ⟨h', g, d, t, os⟩) (hrest : rest.length ≤ sizeLine := by size_fits) :
    wpAny (model prog w) A (call (.ref C) rest) Q E ⟨h, g, d, t, os⟩ := by
  have f1 := tc_lookup
  have f2 := tc_bind (.ref C)
  have hT : (⟨h, g, d, t, os⟩ : Shared).TypeIs (.ref C) "type" := ⟨_, hC, rfl⟩
  refine wpAny_call (codeAny_of_tree ?_)
  show wpAny _ _ (callAny (.ref C) _) _ _ _
  repeat (any_goals (first | assumption | with_reducible refine wpAny_loadPart_at hC ?_ | wp_step))
  refine ⟨rfl, ?_⟩
  exact codeAny_call_builtin_at (Code.quiet_builtin _ (by decide +kernel)) entry_typeCall (wpAny_check_type_call_sub hC (type_call_init (hrest := hrest) Fn hBn F T hC hn hni hf hfc fun h' e hm => hq h' e hm))
end
section
variable {prog : Program} {w : World} {A : Around} {K : Frag} {C x dx : Addr} {hh : Heap} {g : Array GenState} {d : Drawn} {t : Nat} {os : OsState} {E : Value → Shared → Prop} {od od' : Obj} {cd : ClassData} {name : Str} {tk : Tok} {v : Value} {Q : Unit → Shared → Prop} {vs : Array Value} {es : List DictEntry} {n n' : Nat} {es' : List DictEntry}
theorem exc_open {ox : Obj} {od : Option Obj} (X : K.In hh) (I : InstAt hh x ox C od)
    (hs : findIn K (.ref C) "__setattr__" = some (some (.builtin "object.__setattr__"))) (hc : clsIn K C = some cd) (hne : cd.mro.isEmpty = false) (ho : cd.mro.contains (.type "object") = true)
    (hp : refuseLoop (.ref x) "__setattr__" cd.mro = pure ()) (ht : takerIn K C name = some none)
    (h : ∀ A' tk b, wpAny (model prog w) A' (storeInOwnDict (.ref x) (.ref C) (.str name tk) name v b) (fun fin s' => fin = .done (.ret .none) ∧ Q () s') E ⟨hh, g, d, t + 1, os⟩) :
    wpAny (model prog w) A (setAttr (.ref x) name v) Q E ⟨hh, g, d, t, os⟩ := by
  refine set_plain (s := ⟨hh, g, d, t, os⟩) X I hs ?_
  have SF := PySem.F.store_object
  have sub : Looks (model prog w) hh (isInstance (.ref x) (.type "object")) true := I.type.andThen (looks_mroIn X (by unfold mroIn; rw [hc, Option.bind_some, if_neg (by rw [hne]; decide), ho]))
  refine codeAny_call_builtin SF.slot.plain SF.entry (@check_slot (model prog w) _ _ ⟨hh, g, d, t + 1, os⟩ "object.__setattr__" "object" "__setattr__" (.ref x) [.str name t, v] [] _ SF.kind SF.split sub (SF.args _ _ _) ?_)
  obtain ⟨attr, ha, hr⟩ := Option.bind_eq_some_iff.mp ht
  have hm : Looks (model prog w) hh (mroOf (.ref C)) cd.mro := (looks_clsIn X hc).andThen .now
  have L3 : Looks (model prog w) hh (storeTaker? attr) none := by
    cases attr with
    | none => exact .now
    | some a =>
      obtain ⟨b, hb, hbn⟩ := Option.map_eq_some_iff.mp hr
      cases b with
      | true => cases hbn
      | false => exact (looks_takesIn X hb).andThen .now
  have I1 : Looks (model prog w) hh (typeOf (.ref x)) (.ref C) := I.type
  rw [osa_eq, refuse_eq]
  refine wpAny_bind (wpAny_bind (Looks.here (s := ⟨hh, g, d, t + 1, os⟩) I1 (wpAny_bind (Looks.here (s := ⟨hh, g, d, t + 1, os⟩) hm ?_))))
  rw [hp]
  refine wpAny_pure (wpAny_bind (Looks.here (s := ⟨hh, g, d, t + 1, os⟩) I1 (wpAny_bind (Looks.here (s := ⟨hh, g, d, t + 1, os⟩) (looks_findIn X ha) (wpAny_bind (Looks.here (s := ⟨hh, g, d, t + 1, os⟩) L3 ?_))))))
  refine wpAny_mono (h _ t attr.isSome) (fun fin s' z => ?_) fun _ _ z => z
  obtain ⟨rfl, z⟩ := z
  exact z
theorem in_dict (D : hh.get? dx = some (dictOf es n)) (hz : es'.length ≤ 1000) (hr : aRefKeyMayBeTheName name es.toArray = false)
    (e : Obj.putName name (PyData.keyHash w.params name) (.str name t) v (dictOf es n) = dictOf es' n')
    (h : ∀ h' t', (∀ a o, hh.get? a = some o → a ≠ dx → h'.get? a = some o) → h'.get? dx = some (dictOf es' n') → Q () ⟨h', g, d, t', os⟩) :
    wpAny (model prog w) A (storeInDict dx (.str name tk) name v) (fun fin s' => fin = .done (.ret .none) ∧ Q () s') E ⟨hh, g, d, t, os⟩ := by
  unfold storeInDict newKeyGuard nsSet
  refine wpAny_bind (wpAny_pure (wpAny_bind (wpAny_bind (wpAny_bind (wpAny_askSetting (wpAny_pure (wpAny_bind (wpAny_mkText (wpAny_bind (wpAny_loadPart D ?_))))))))))
  dsimp only [dictOf]
  rw [hr]
  refine wpAny_updatePart D ?_
  have D' : (hh.update dx (Obj.putName name (PyData.keyHash w.params name) (.str name t) v)).get? dx = some (dictOf es' n') := (Heap.get?_update_self _ D (by rw [e]; rfl)).trans (by rw [e])
  refine wpAny_bind (wpAny_lookBehind D' (pastItsLine_dict (by rw [List.size_toArray, sizeLine_eq]; omega)) ?_)
  exact wpAny_pure ⟨rfl, h _ _ (fun a o q ne => (Heap.get?_update_ne _ _ _ _ ne).trans q) D'⟩
theorem own_new {b : Bool} {M : Model} {oC : Obj} (hC : hh.get? C = some oC) (hc : oC.data = .cls cd) (hx : hh.get? x = some { cls := .ref C, data := .fields vs }) (hd : cd.hasDict = true)
    (h : ∀ h', (∀ a o, hh.get? a = some o → a ≠ x → h'.get? a = some o) → h'.get? x = some { cls := .ref C, dict := some hh.objs.size, data := .fields vs } → h'.get? hh.objs.size = some emptyDict → 
      wpAny M A (storeInDict hh.objs.size (.str name tk) name v) (fun fin s' => fin = .done (.ret .none) ∧ Q () s') E ⟨h', g, d, t, os⟩) :
    wpAny M A (storeInOwnDict (.ref x) (.ref C) (.str name tk) name v b) (fun fin s' => fin = .done (.ret .none) ∧ Q () s') E ⟨hh, g, d, t, os⟩ := by
  unfold storeInOwnDict
  repeat (first | (with_reducible refine wpAny_loadPart_at hx ?_) | wp_step)
  rw [hc]
  refine wpAny_pure ?_
  rw [hd]
  have hx₁ : (hh.push emptyDict).get? x = some { cls := .ref C, data := .fields vs } := Heap.get?_push_of_some _ hx
  have hxs : x ≠ hh.objs.size := Nat.ne_of_lt (Heap.lt_size hx)
  refine wpAny_bind (wpAny_alloc' ?_)
  refine wpAny_bind (wpAny_update' hx₁ ?_)
  refine wpAny_pure ?_
  exact h _ (fun a o e ne => (Heap.get?_update_ne _ _ _ _ ne).trans (Heap.get?_push_of_some _ e)) (Heap.get?_update_self _ hx₁ rfl) ((Heap.get?_update_ne _ _ _ _ hxs.symm).trans (Heap.get?_push_at rfl rfl))
theorem own_old {b : Bool} {M : Model} {oC : Obj} (hC : hh.get? C = some oC) (hc : oC.data = .cls cd) (hx : hh.get? x = some { cls := .ref C, dict := some dx, data := .fields vs }) (hd : cd.hasDict = true)
    (h : wpAny M A (storeInDict dx (.str name tk) name v) (fun fin s' => fin = .done (.ret .none) ∧ Q () s') E ⟨hh, g, d, t, os⟩) :
    wpAny M A (storeInOwnDict (.ref x) (.ref C) (.str name tk) name v b) (fun fin s' => fin = .done (.ret .none) ∧ Q () s') E ⟨hh, g, d, t, os⟩ := by
  unfold storeInOwnDict
  repeat (first | (with_reducible refine wpAny_loadPart_at hx ?_) | wp_step)
  rw [hc]
  refine wpAny_pure ?_
  rw [hd]
  exact wpAny_pure h
theorem self_store {M : Model} {env : Env} {m : Str → Option Value} {sf nm : Str} {p1 p2 p3 pos : Pos} {QF : Flow → Shared → Prop} (hn : hh.Ns env.locals m) (e1 : m sf = some (.ref x)) (e2 : m nm = some v)
    (h : wpAny M A (setAttr (.ref x) name v) (fun _ => QF .next) E ⟨hh, g, d, t, os⟩) (hk : env.scope.kind = .function := by rfl) (h1 : env.kindOf sf = some .local := by rfl) (h2 : env.kindOf nm = some .local := by rfl) (d1 : (sf == ("__debug__" : Str)) = false := by decide) (d2 : (nm == ("__debug__" : Str)) = false := by decide)
    (hs : swapsWith (.Name nm p3) (some (.Attribute (.Name sf p1) name p2)) pos.line env = pure false := by rfl) : wpAny M A (exec (.Assign [.Attribute (.Name sf p1) name p2] (.Name nm p3) pos) env) QF E ⟨hh, g, d, t, os⟩ :=
  plainObj_wpAny_Assign_Attribute (wpAny_Name (wpAny_loadName_local hk h2 hn e2 (wpAny_Name (wpAny_loadName_local hk h1 hn e1 h) d1)) d2) hs
end
theorem asm_set {prog : Program} {w : World} {A : Around} {h₁ : Heap} {e : Addr} {ts : Array Value} {od : Option Obj} {dict : Option Addr} {g : Array GenState} {d : Drawn} {t : Nat} {os : OsState} {E : Value → Shared → Prop} {name : Str} {v : Value} {Q : Unit → Shared → Prop} (X : (hd.heap_39 w.params).In h₁)
    (I : InstAt h₁ e { cls := .ref 114, dict := dict, data := .fields ts } 114 od) (ht : takerIn (hd.heap_39 w.params) 114 name = some none)
    (h : ∀ A' tk b, wpAny (model prog w) A' (storeInOwnDict (.ref e) (.ref 114) (.str name tk) name v b) (fun fin s' => fin = .done (.ret .none) ∧ Q () s') E ⟨h₁, g, d, t + 1, os⟩) :
    wpAny (model prog w) A (setAttr (.ref e) name v) Q E ⟨h₁, g, d, t, os⟩ := by
  refine exc_open (cd := { name := "AsmError", bases := [.ref 24], mro := [.ref 114, .ref 24, .type "Exception", .type "BaseException", .type "object"], ns := 113, qualname := "AsmError" }) X I (by kernel_rfl) (by kernel_rfl) rfl (by decide) ?_ ht h
  rw [refuseLoop_ref, refuseLoop_ref]
  exact PySem.F.store_Exception.passes _
section
variable {prog : Program} {w : World} {A : Around} {hh : Heap} {e : Addr} {ts : Array Value} {oC : Obj} {cd : ClassData} {g : Array GenState} {d : Drawn} {t tr tw : Nat} {os : OsState} {E : Value → Shared → Prop} {row : Int} {what : Str} {Q : Unit → Shared → Prop}
  (X : (hd.heap_39 w.params).In hh) (hC : hh.get? 114 = some oC) (hcd : oC.data = .cls cd) (hd' : cd.hasDict = true)
include X hC hcd hd'
theorem asm_row (he : hh.get? e = some { cls := .ref 114, data := .fields ts })
    (hq : ∀ h' dx tk tk', (∀ a o, hh.get? a = some o → a ≠ e → h'.get? a = some o) → h'.get? e = some { cls := .ref 114, dict := some dx, data := .fields ts } → hh.get? dx = none → dx ≠ e →
      h'.get? dx = some (dictOf [⟨PyData.keyHash w.params "row", .str "row" tk, .int row tr⟩] 1) → Q () ⟨h', g, d, tk', os⟩) :
    wpAny (model prog w) A (setAttr (.ref e) "row" (.int row tr)) Q E ⟨hh, g, d, t, os⟩ := by
  refine asm_set (dict := none) (od := none) X ⟨he, rfl, rfl, trivial⟩ (by kernel_rfl) fun A' tk b => ?_
  refine own_new (Q := Q) hC hcd he hd' fun h₁ k1 e1 d1 => ?_
  have ne : e ≠ hh.objs.size := Nat.ne_of_lt (Heap.lt_size he)
  refine in_dict (Q := Q) (es := []) (n := 0) (es' := [⟨PyData.keyHash w.params "row", .str "row" _, .int row tr⟩]) (n' := 1) d1 (Nat.le_of_ble_eq_true rfl) (by kernel_rfl) (by rfl) fun h₂ t₂ k2 d2 => ?_
  exact hq _ _ _ _ (fun a o q n => k2 _ _ (k1 _ _ q n) (Nat.ne_of_lt (Heap.lt_size q))) (k2 _ _ e1 ne) (Heap.get?_none_of_le (Nat.le_refl _)) ne.symm d2
theorem asm_what {dx : Addr} {tk₀ : Tok} (he : hh.get? e = some { cls := .ref 114, dict := some dx, data := .fields ts }) (hdx : hh.get? dx = some (dictOf [⟨PyData.keyHash w.params "row", .str "row" tk₀, .int row tr⟩] 1))
    (hq : ∀ h' od tk', (∀ a o, hh.get? a = some o → a ≠ dx → h'.get? a = some o) → h'.get? dx = some od → AsmDict od row what → Q () ⟨h', g, d, tk', os⟩) :
    wpAny (model prog w) A (setAttr (.ref e) "what" (.str what tw)) Q E ⟨hh, g, d, t, os⟩ := by
  refine asm_set (dict := some dx) (od := some _) X ⟨he, rfl, rfl, hdx⟩ (by kernel_rfl) fun A' tk b => ?_
  refine own_old (Q := Q) hC hcd he hd' ?_
  refine in_dict (Q := Q) (es' := [⟨PyData.keyHash w.params "row", .str "row" _, .int row tr⟩, ⟨PyData.keyHash w.params "what", .str "what" _, .str what tw⟩]) (n' := 2) hdx (Nat.le_of_ble_eq_true rfl) (by kernel_rfl) (by rfl) fun h₂ t₂ k2 d2 => ?_
  exact hq _ _ _ k2 d2 ⟨_, _, _, _, rfl, rfl, rfl⟩
end
theorem asm_weight (rest : List Value) : (Code.builtin "type.__call__" ⟨.ref 114 :: rest, []⟩).weight = 1 := by kernel_rfl
theorem asm_locals (a b c : Value) : ∀ x ∈ ([("self", a), ("row", b), ("what", c)] : List (Str × Value)), List.lookup x.1 ([("self", .local), ("row", .local), ("what", .local)] : List (Str × NameKind)) = some .local := by
  intro x hx
  rcases List.mem_cons.mp hx with rfl | hx
  · rfl
  rcases List.mem_cons.mp hx with rfl | hx
  · rfl
  rcases List.mem_cons.mp hx with rfl | hx
  · rfl
  cases hx
theorem asm_made (p : Program) (w : World) (l : List Env) (gd : Option (List Code)) (row : Int) (what : Str) (t t2 : Tok) (s : Shared) (Q E : Value → Shared → Prop) (KX : (hd.heap_39 w.params).In s.heap)
    (hQ : ∀ e h' tk', MadeD s.heap h' e row what → Q (.ref e) { s with heap := h', toks := tk' }) :
    wpAny (model p w) { handled := none, depth := 900, frames := some l, guards := gd, units := 9000 } (call (.ref 114) [.int row t, .str what t2]) Q E s := by
  revert KX
  have _hp : PySem.Challenge.rw_nu0335_01.name = PySem.Challenge.rw_nu0335_01.name := rfl
  revert _hp
  w_top off
  k_fill
  intro _hp; clear _hp
  intro KX
  obtain ⟨hh, g, d, tk, os⟩ := s
  dsimp only at KX hQ
  have hC := KX 114 _ (by k_is)
  have hf := KX 111 _ (by k_is)
  have T : OwnTail hh [.type "Exception", .type "BaseException", .type "object"] [.ref 24, .type "Exception", .type "BaseException", .type "object"] := tail_of_in KX (by kernel_rfl)
  have hok : nsOkIn (hd.heap_39 w.params) 113 = true := by kernel_rfl
  have hni : hh.nsMap 113 "__init__" = some (.ref 111) := by unfold Heap.nsMap; rw [KX 113 _ (by k_is)]; rfl
  have hcs : nsOkIn (hd.heap_39 w.params) cStatics = true := by kernel_rfl
  have hlim : hh.NoLimit := ⟨_, .of_isNs (isNs_of_in KX hcs), nsMap_none_of_in KX hcs (by kernel_rfl)⟩
  have hrec : hh.CodeRec (.ref 110) "AsmError.__init__" := codeRec_of KX (by kernel_rfl)
  refine exc_made PySem.F.excBase_Exception (by decide) PySem.F.excBase_Exception T hC (.of_isNs (isNs_of_in KX hok)) hni hf rfl (fun h' e hm => ?_)
  obtain ⟨t₀, he, -⟩ := hm.there
  have keep : ∀ {h₁ : Heap}, (∀ a o, h'.get? a = some o → a ≠ e → h₁.get? a = some o) → ∀ a o, hh.get? a = some o → h₁.get? a = some o := fun k a o q => k a o (hm.keeps _ _ q) fun z => by rw [z, hm.new] at q; cases q
  refine codeAny_call_def (s := ⟨h', g, d, tk, os⟩) (binds := [("self", .ref e), ("row", .int row t), ("what", .str what t2)]) (show 900 + Code.weight _ < recursionLimit from by rw [asm_weight]; decide) (hm.keeps _ _ hf) rfl (hlim.keeps hm.keeps) (hrec.keeps hm.keeps) rfl (BindsTo.of_eq rfl) (by decide) (asm_locals _ _ _) fun h₀ hns hk => ?_
  have ne : h'.objs.size ≠ e := (Nat.ne_of_lt (Heap.lt_size he)).symm
  have hce : (114 : Addr) ≠ e := fun z => by
    have := hm.new
    rw [← z, hC] at this
    cases this
  refine wpAny_execs_cons (self_store hns rfl rfl (asm_row (KX.keeps fun a o q => hk _ _ (hm.keeps _ _ q)) (hk _ _ (hm.keeps _ _ hC)) rfl rfl (hk _ _ he) fun h₂ dx tk₂ t₂ k e2 n1 n2 d2 => ?_))
  obtain ⟨oL, es, ep, hL, r⟩ := hns
  have hns₂ : h₂.Ns h'.objs.size _ := ⟨oL, es, ep, k _ _ hL ne, r⟩
  have k₂ : ∀ a o, hh.get? a = some o → h₂.get? a = some o := keep fun a o q n => k _ _ (hk _ _ q) n
  refine wpAny_execs_cons (self_store hns₂ rfl rfl (asm_what (KX.keeps k₂) (k₂ _ _ hC) rfl rfl e2 d2 fun h₃ od t₃ k3 d3 D => ?_))
  refine wpAny_execs_nil ⟨rfl, hQ e h₃ t₃ ⟨fun a o q => k3 _ _ (k₂ _ _ q) fun z => ?_, hm.new, t₀, dx, od, k3 _ _ e2 n2.symm, d3, n2, ?_, D⟩⟩
  · have := hk _ _ (hm.keeps _ _ q)
    rw [z, n1] at this
    cases this
  · cases q : hh.get? dx with
    | none => rfl
    | some o =>
      have := hk _ _ (hm.keeps _ _ q)
      rw [n1] at this
      cases this
end Mine
namespace Mine
/-- the goal is put aside as one letter, so that what is taken apart meanwhile does not copy it -/
theorem absG {G : Prop} (h : ∀ P : Prop, (G → P) → P) : G := h G id
/-- the arguments of a raise: an int and a text -/
def AsmArgs (w : World) (E : Value → Shared → Prop) (vs : List Value) (s : Shared) : Prop :=
  ∃ row t what t2, vs = [.int row t, .str what t2] ∧ (hd.heap_39 w.params).In s.heap ∧ ∀ e h' tk', MadeD s.heap h' e row what → E (.ref e) { s with heap := h', toks := tk' }
theorem asmArgs_ {w : World} {E : Value → Shared → Prop} {s : Shared} {row : Int} {what : Str} {t t2 : Tok} (X : (hd.heap_39 w.params).In s.heap) (h : ∀ e h' tk', MadeD s.heap h' e row what → E (.ref e) { s with heap := h', toks := tk' }) :
    AsmArgs w E [.int row t, .str what t2] s := ⟨_, _, _, _, rfl, X, h⟩
theorem AsmArgs.out {w : World} {E : Value → Shared → Prop} {s : Shared} {vs : List Value} (h : AsmArgs w E vs s) : ∃ row t what t2, vs = [.int row t, .str what t2] ∧ (hd.heap_39 w.params).In s.heap ∧ ∀ e h' tk', MadeD s.heap h' e row what → E (.ref e) { s with heap := h', toks := tk' } := h

theorem asm_lk (P : Params) : ((hd.heap_39 P).lookup 114).isSome = true := by kernel_rfl
theorem asm_same {P : Params} {h h' : Heap} {o : Obj} (X : (hd.heap_39 P).In h) (X' : (hd.heap_39 P).In h') (e : h.get? 114 = some o) : h'.get? 114 = some o := by
  obtain ⟨o', ho⟩ := Option.isSome_iff_exists.mp (asm_lk P)
  have q := X _ _ ho
  rw [e] at q
  cases q
  exact X' _ _ ho
theorem raise_asm {w : World} {A : Around} {E : Value → Shared → Prop} {s : Shared} {h₀ : Heap} {L a : Addr} {m mg mb : Str → Option Value} {cn : Str} {cs : Scope} {ccd : Value} {outer : List Env} {p : Program} {loose : List Str}
    {np cpos pos : Pos} {e₀ : Expr} {rest : List Expr} {Q : Flow → Shared → Prop} (F : Fr h₀ L s.heap m) (X : (hd.heap_39 w.params).In h₀) (T : TopRead p loose mg mb h₀)
    (en : nsIn (hd.heap_39 w.params) mainGlobals "AsmError" = some (some (.ref 114))) (hh : A.handled = none) (hf : A.frames = some (envOf cn cs L a ccd :: outer)) (h1 : A.depth ≤ 900) (h2 : A.units ≤ 9000)
    (h : wpAny (model PySem.Challenge.rw_nu0335_01.row.prog w) A (spliced (backTo cpos (starEach (e₀ :: rest) (envOf cn cs L a ccd)))) (fun vs s₂ => AsmArgs w E vs s₂) E s)
    (he : starEach (e₀ :: rest) (envOf cn cs L a ccd) = (false, eval e₀ (envOf cn cs L a ccd)) :: starEach rest (envOf cn cs L a ccd) := by rfl)
    (hplain : (backTo cpos (starEach rest (envOf cn cs L a ccd))).any (·.1) = false := by rfl)
    (hk : cs.kind = .function := by rfl) (hx : (envOf cn cs L a ccd).kindOf "AsmError" = some .globalImplicit := by rfl) :
    wpAny (model PySem.Challenge.rw_nu0335_01.row.prog w) A (exec (.Raise (some (.Call (.Name "AsmError" np) (e₀ :: rest) [] cpos)) none pos) (envOf cn cs L a ccd)) Q E s := by
  refine absG fun G hG => ?_
  obtain ⟨nm, q, N, bs, bm, hdct, sn, sub, ab, col, dd, k0, k1, k2, k3, k5, newId, hC, hbase, _⟩ := asm_cls X
  refine hG ?_; clear hG
  rw [arm_exec_Raise]
  refine wpAny_bind (wpAny_standAt (raiseStmt_made (C := 114) (nm := nm) (q := q) (N := N) (bs := bs) (bm := bm) (hdct := hdct) (sn := sn) (sub := sub) (ab := ab) (col := col) (dd := dd) (k0 := k0) (k1 := k1) (k2 := k2) (k3 := k3) (k5 := k5) (newId := newId) hbase hh ?_))
  refine wpAny_bind (wpAny_mono (wpAny_Call_ofName (name_K F X T en ?_ hk hx (by decide))) (fun v s₃ h₃ => wpAny_bind (wpAny_standAt (wpAny_pure h₃))) fun _ _ x => x)
  unfold callWith
  refine wpAny_bind (wpAny_holding (wpAny_mono (Q := fun (aa : Args) s₂ => aa.kw = [] ∧ AsmArgs w E aa.pos s₂) ?_ (fun aa s₂ h₂ => wpAny_bind (wpAny_standAt ?_)) fun _ _ x => x))
  · rw [he] at h ⊢
    exact Calls.evalArgs_plain (wpAny_mono h (fun vs s₂ h₂ => ⟨rfl, h₂⟩) fun _ _ y => y)
  obtain ⟨apos, akw⟩ := aa
  obtain ⟨hkw, h₂⟩ := h₂
  obtain rfl : akw = [] := hkw
  obtain ⟨row, t, what, t2, e2, X₂, hE⟩ := h₂.out
  dsimp only at e2
  subst e2
  obtain ⟨hp, g, d, tk, os⟩ := s₂
  refine absG fun G hG => ?_
  obtain ⟨nm', q', N', bs', bm', hdct', sn', sub', ab', col', dd', k0', k1', k2', k3', k5', newId', hC₂, hbase₂, _⟩ := asm_cls X₂
  refine hG ?_; clear hG
  have hst : ((backTo cpos (starEach (e₀ :: rest) (envOf cn cs L a ccd))).any (·.1) || (backToKw cpos (keywordEach [] (envOf cn cs L a ccd))).any (·.1.isNone)) = false := by
    rw [he]
    show ((false || (backTo cpos (starEach rest (envOf cn cs L a ccd))).any (·.1)) || false) = false
    rw [hplain]; rfl
  simp only [hst]
  refine wpAny_bind (wpAny_keeperOf_exc hC₂ ?_)
  refine wpAny_bind (around_up (A' := { handled := none, depth := 900, frames := some (envOf cn cs L a ccd :: outer), guards := A.guards, units := 9000 }) hh h1 hf rfl h2 (asm_made _ w _ _ row what t t2 _ _ _ X₂ fun e h' tk' hm => ?_))
  refine wpAny_bind (wpAny_holding (wpAny_point (wpAny_pure ?_)))
  obtain ⟨t', dx, od, ht, _⟩ := hm.there
  exact ⟨e, t', dx, rfl, hm.keeps _ _ (asm_same X X₂ hC), ht, hE e h' tk' hm⟩

/-- what a call of the def at f does, from any caller's frame and over the ledger news: it comes back with a value and a ledger that fit Ret, or raises an AsmError whose row and text fit Exc -/
def Con (d : Nat) (w : World) (mean : ExcName → Option Value) (mg mb : Str → Option Value) (f : Addr) (news : List (Addr × Obj)) (vs : List Value) (Ret : Value → List (Addr × Obj) → Prop) (Exc : Int → Str → Prop) : Prop :=
  ∀ (dp un : Nat) (gd : Option (List Code)) (cn : Str) (cs : Scope) (a : Addr) (ccd : Value) (cl : List (Str × Addr)) (outer : List Env) (A₀ : Around) (base h₀ : Heap) (L : Addr) (m : Str → Option Value) (s : Shared) (Q E : Value → Shared → Prop),
    Below A₀ base outer h₀ → Fr h₀ L s.heap m → (hd.heap_39 w.params).In h₀ → News h₀ L s.heap news → Top hd.view_39 (looseW hd.view_39 []) mean mg mb h₀ → cs.kind = .function → dp + d ≤ 900 → un + 10 * d ≤ 9000 →
    (∀ (r : Value) (nw : List (Addr × Obj)) (h' : Heap) (tk' : Nat), Fr h₀ L h' m → News h₀ L h' nw → Ret r nw → Q r { s with heap := h', toks := tk' }) →
    (∀ (e : Addr) (row : Int) (what : Str) (h' : Heap) (tk' : Nat), FlyD base (envX cn cs L a ccd cl :: outer) e row what h' → h₀.UpToSlots h' → h'.Ns L m → Exc row what → E (.ref e) { s with heap := h', toks := tk' }) →
    wpAny (model PySem.Challenge.rw_nu0335_01.row.prog w) (ktrTop dp un gd cn cs L a ccd cl outer) (call (.ref f) vs) Q E s
theorem room1 {x b k a c : Nat} (h : x + b ≤ c) (e : Nat.ble (k + a) b = true) : x + k + a ≤ c := Nat.le_trans (Nat.le_of_eq (Nat.add_assoc x k a)) (Nat.le_trans (Nat.add_le_add_left (Nat.le_of_ble_eq_true e) x) h)
theorem room2 {x b k a c : Nat} (h : x + 10 * b ≤ c) (e : Nat.ble (k + 10 * a) (10 * b) = true) : x + k + 10 * a ≤ c := room1 h e
theorem room3 {x b k c : Nat} (h : x + b ≤ c) (e : Nat.ble k b = true) : x + k ≤ c := Nat.le_trans (Nat.add_le_add_left (Nat.le_of_ble_eq_true e) x) h
theorem room4 {x b k c : Nat} (h : x + 10 * b ≤ c) (e : Nat.ble k (10 * b) = true) : x + k ≤ c := room3 h e
section
variable {M : Model} {A : Around} {env : Env} {E : Value → Shared → Prop} {hp : Heap} {g : Array GenState} {d : Drawn} {t : Nat} {o : OsState}
theorem c_int {i : Int} {k : Nat} {pos : Pos} {Q : Value → Shared → Prop} (h : Q (.int i t) ⟨hp, g, d, t + 1, o⟩) : wpAny M A (eval (.Constant (.int i) k pos) env) Q E ⟨hp, g, d, t, o⟩ := wpAny_Constant_int h
theorem c_str {x : Str} {k : Nat} {pos : Pos} {Q : Value → Shared → Prop} (h : Q (.str x t) ⟨hp, g, d, t + 1, o⟩) : wpAny M A (eval (.Constant (.str x) k pos) env) Q E ⟨hp, g, d, t, o⟩ := Calls.Constant_str h
theorem st_m {h₀ : Heap} {L a : Addr} {m : Str → Option Value} {cn : Str} {cs : Scope} {ccd : Value} {cl : List (Str × Addr)} {x : Str} {v : Value} {Q : Unit → Shared → Prop} {news : List (Addr × Obj)} (F : Fr h₀ L hp m) (N : News h₀ L hp news)
    (h : ∀ h', Fr h₀ L h' (fun y => if y = x then some v else m y) → News h₀ L h' news → Q () ⟨h', g, d, t + 1, o⟩)
    (hk : cs.kind = .function := by rfl) (hx : (envX cn cs L a ccd cl).kindOf x = some .local := by rfl) : wpAny M A (storeName (envX cn cs L a ccd cl) x v) Q E ⟨hp, g, d, t, o⟩ := storeX_L F N h hk hx
end
section
variable {M : Model} {A : Around} {env : Env} {Q : Flow → Shared → Prop} {E : Value → Shared → Prop} {s : Shared}
/-- what comes behind a statement -/
@[irreducible] def ExK (M : Model) (A : Around) (env : Env) (rest : List Stmt) (Q : Flow → Shared → Prop) (E : Value → Shared → Prop) : Flow → Shared → Prop := fun f s => match f with | .next => wpAny M A (execs rest env) Q E s | f => Q f s
theorem ex_cons {st : Stmt} {rest : List Stmt} (h : wpAny M A (exec st env) (ExK M A env rest Q E) E s) : wpAny M A (execs (st :: rest) env) Q E s := wpAny_execs_cons (by unfold ExK at h; exact h)
theorem ex_next {rest : List Stmt} (h : wpAny M A (execs rest env) Q E s) : ExK M A env rest Q E .next s := by unfold ExK; exact h
theorem ex_ret {rest : List Stmt} {v : Value} (h : Q (.ret v) s) : ExK M A env rest Q E (.ret v) s := by unfold ExK; exact h
/-- what comes behind a test -/
@[irreducible] def IfK (M : Model) (A : Around) (env : Env) (body orelse : List Stmt) (Q : Flow → Shared → Prop) (E : Value → Shared → Prop) : Bool → Shared → Prop := fun b s => if b then wpAny M A (execs body env) Q E s else wpAny M A (execs orelse env) Q E s
theorem if_m {test : Expr} {body orelse : List Stmt} {pos : Pos} (h : wpAny M A (isTrue test env (eval test env)) (IfK M A env body orelse Q E) E s) : wpAny M A (exec (.If test body orelse pos) env) Q E s := wpAny_If (by unfold IfK at h; exact h)
theorem if_out {body orelse : List Stmt} {b : Bool} (h : if b then wpAny M A (execs body env) Q E s else wpAny M A (execs orelse env) Q E s) : IfK M A env body orelse Q E b s := by unfold IfK; exact h
end
section
variable {M : Model} {A : Around} {env : Env} {E : Value → Shared → Prop} {s : Shared} {α β γ : Type}
/-- what comes behind a value -/
@[irreducible] def BK (M : Model) (A : Around) (k : α → Sem β) (Q : β → Shared → Prop) (E : Value → Shared → Prop) (v : α) (s : Shared) : Prop := wpAny M A (k v) Q E s
/-- what comes behind the first of two values -/
@[irreducible] def BK2 (M : Model) (A : Around) (t : Sem β) (k : α → β → Sem γ) (Q : γ → Shared → Prop) (E : Value → Shared → Prop) (v : α) (s : Shared) : Prop := wpAny M A t (BK M A (k v) Q E) E s
@[irreducible] def ConsK (v : Value) (Q : List Value → Shared → Prop) (vs : List Value) (s : Shared) : Prop := Q (v :: vs) s
@[irreducible] def ArgK (M : Model) (A : Around) (t : Sem (List Value)) (Q : List Value → Shared → Prop) (E : Value → Shared → Prop) (v : Value) (s : Shared) : Prop := wpAny M A t (ConsK v Q) E s
@[irreducible] def NextK (Q : Flow → Shared → Prop) (_ : Unit) (s : Shared) : Prop := Q .next s
theorem bk_out {k : α → Sem β} {Q : β → Shared → Prop} {v : α} (h : wpAny M A (k v) Q E s) : BK M A k Q E v s := by unfold BK; exact h
theorem bk2_out {t : Sem β} {k : α → β → Sem γ} {Q : γ → Shared → Prop} {v : α} (h : wpAny M A t (BK M A (k v) Q E) E s) : BK2 M A t k Q E v s := by unfold BK2; exact h
theorem cons_out {v : Value} {Q : List Value → Shared → Prop} {vs : List Value} (h : Q (v :: vs) s) : ConsK v Q vs s := by unfold ConsK; exact h
theorem arg_out {t : Sem (List Value)} {Q : List Value → Shared → Prop} {v : Value} (h : wpAny M A t (ConsK v Q) E s) : ArgK M A t Q E v s := by unfold ArgK; exact h
theorem next_out {Q : Flow → Shared → Prop} {u : Unit} (h : Q .next s) : NextK Q u s := by unfold NextK; exact h
theorem m_bin {l r : Expr} {op : Operator} {pos : Pos} {Q : Value → Shared → Prop} (h : wpAny M A (eval l env) (BK2 M A (eval r env) (binaryOp op) Q E) E s) : wpAny M A (eval (.BinOp l op r pos) env) Q E s :=
  wpAny_BinOp (by unfold BK2 BK at h; exact h)
theorem m_cmp {l r : Expr} {op : CmpOp} {pos : Pos} {whole : Sem Value} {Q : Bool → Shared → Prop} (h : wpAny M A (eval l env) (BK2 M A (eval r env) (compareOp op) (BK M A truthy Q E) E) E s)
    (hm : behindInMarks op r = false := by with_unfolding_all rfl) : wpAny M A (isTrue (.Compare l [op] [r] pos) env whole) Q E s := wpAny_isTrue_Compare1 (by unfold BK2 BK at h; exact h) hm
theorem m_sub {value slice : Expr} {pos : Pos} {Q : Value → Shared → Prop} (h : wpAny M A (eval value env) (BK2 M A (eval slice env) (subscriptTail value slice) Q E) E s) : wpAny M A (eval (.Subscript value slice pos) env) Q E s :=
  Subscript_ (by unfold BK2 BK at h; exact h)
theorem m_test {e : Expr} {whole : Sem Value} {Q : Bool → Shared → Prop} (h : wpAny M A whole (BK M A truthy Q E) E s)
    (he : isTrue e env whole = (do let v ← whole; standAt e.pos; holding [v] (truthy v)) := by rfl) : wpAny M A (isTrue e env whole) Q E s := isTrue_plain (by unfold BK at h; exact h) he
theorem m_call {func : Expr} {args : List Expr} {pos : Pos} {Q : Value → Shared → Prop} (h : wpAny M A (eval func env) (BK M A (fun f => callWith pos f [] (backTo pos (starEach args env)) []) Q E) E s)
    (he : eval (.Call func args [] pos) env = (do callWith pos (← eval func env) [] (backTo pos (starEach args env)) (backToKw pos (keywordEach [] env))) := by rfl) : wpAny M A (eval (.Call func args [] pos) env) Q E s :=
  Call_ (by unfold BK at h; exact h) he
theorem m_arg {e : Expr} {rest : List Expr} {pos : Pos} {Q : List Value → Shared → Prop} (h : wpAny M A (eval e env) (ArgK M A (spliced (backTo pos (starEach rest env))) Q E) E s)
    (he : starEach (e :: rest) env = (false, eval e env) :: starEach rest env := by rfl) : wpAny M A (spliced (backTo pos (starEach (e :: rest) env))) Q E s := args_cons (by unfold ArgK ConsK at h; exact h) he
theorem m_tup {elts : List Expr} {k : Nat} {pos : Pos} {Q : Value → Shared → Prop} (h : wpAny M A (spliced (backTo pos (starEach elts env))) (BK M A newTuple Q E) E s) : wpAny M A (eval (.Tuple elts k pos) env) Q E s := Tuple_ (by unfold BK at h; exact h)
theorem m_asg {x : Str} {pos' pos : Pos} {value : Expr} {Q : Flow → Shared → Prop} (h : wpAny M A (eval value env) (BK M A (storeName env x) (NextK Q) E) E s)
    (hs : swapsWith value (some (.Name x pos')) pos.line env = pure false := by rfl) : wpAny M A (exec (.Assign [.Name x pos'] value pos) env) Q E s := wpAny_Assign_Name (by unfold BK NextK at h; exact h) hs
end
section
variable {M : Model} {A : Around} {env : Env} {E : Value → Shared → Prop} {s : Shared}
theorem m_meth {o : Expr} {name : Str} {apos pos : Pos} {args : List Expr} {pl : Sem Bool} {Q : Value → Shared → Prop}
    (h : wpAny M A (eval o env) (BK M A (fun ov => getMethod ov name pl) (BK M A (fun fx => callWith pos fx.1 fx.2 (backTo pos (starEach args env)) []) Q E) E) E s)
    (he : eval (.Call (.Attribute o name apos) args [] pos) env = (do
      let ov ← eval o env
      standAt apos.atName
      let (f, first) ← holding [ov] (getMethod ov name pl)
      callWith pos f first (backTo pos (starEach args env)) []) := by rfl) : wpAny M A (eval (.Call (.Attribute o name apos) args [] pos) env) Q E s := MethodCall_ (by unfold BK at h; exact h) he
theorem gen_f {α : Type} {t : Sem α} {Q : α → Shared → Prop} (h : wpAny M A t Q (fun _ _ => False) s) : wpAny M A t Q E s := wpAny_mono h (fun _ _ x => x) fun _ _ x => x.elim
end
section
variable {M : Model} {A : Around} {env : Env} {E : Value → Shared → Prop} {s : Shared} {α : Type}
@[irreducible] def AndK (M : Model) (A : Around) (t : Sem Bool) (Q : Bool → Shared → Prop) (E : Value → Shared → Prop) (c : Bool) (s : Shared) : Prop := if c then wpAny M A t Q E s else Q false s
@[irreducible] def OrK (M : Model) (A : Around) (t : Sem Bool) (Q : Bool → Shared → Prop) (E : Value → Shared → Prop) (c : Bool) (s : Shared) : Prop := if c then Q true s else wpAny M A t Q E s
@[irreducible] def SelK (M : Model) (A : Around) (t u : Sem α) (Q : α → Shared → Prop) (E : Value → Shared → Prop) (c : Bool) (s : Shared) : Prop := if c then wpAny M A t Q E s else wpAny M A u Q E s
@[irreducible] def NotK (Q : Bool → Shared → Prop) (c : Bool) (s : Shared) : Prop := Q (!c) s
theorem and_out {t : Sem Bool} {Q : Bool → Shared → Prop} {c : Bool} (h : if c then wpAny M A t Q E s else Q false s) : AndK M A t Q E c s := by unfold AndK; exact h
theorem or_out {t : Sem Bool} {Q : Bool → Shared → Prop} {c : Bool} (h : if c then Q true s else wpAny M A t Q E s) : OrK M A t Q E c s := by unfold OrK; exact h
theorem sel_out {t u : Sem α} {Q : α → Shared → Prop} {c : Bool} (h : if c then wpAny M A t Q E s else wpAny M A u Q E s) : SelK M A t u Q E c s := by unfold SelK; exact h
theorem not_out {Q : Bool → Shared → Prop} {c : Bool} (h : Q (!c) s) : NotK Q c s := by unfold NotK; exact h
theorem m_and {x : Expr} {rest : List Expr} {pos : Pos} {whole : Sem Value} {Q : Bool → Shared → Prop} (h : wpAny M A (isTrue x env (eval x env)) (AndK M A (isTrue (.BoolOp .And rest pos) env whole) Q E) E s) : wpAny M A (isTrue (.BoolOp .And (x :: rest) pos) env whole) Q E s :=
  isTrue_and (by unfold AndK at h; exact h)
theorem m_or {x : Expr} {rest : List Expr} {pos : Pos} {whole : Sem Value} {Q : Bool → Shared → Prop} (h : wpAny M A (isTrue x env (eval x env)) (OrK M A (isTrue (.BoolOp .Or rest pos) env whole) Q E) E s) : wpAny M A (isTrue (.BoolOp .Or (x :: rest) pos) env whole) Q E s :=
  isTrue_or (by unfold OrK at h; exact h)
theorem m_sel {test body orelse : Expr} {pos : Pos} {Q : Value → Shared → Prop} (h : wpAny M A (isTrue test env (eval test env)) (SelK M A (eval body env) (eval orelse env) Q E) E s) : wpAny M A (eval (.IfExp test body orelse pos) env) Q E s :=
  IfExp_ (by unfold SelK at h; exact h)
theorem m_not {x : Expr} {pos : Pos} {whole : Sem Value} {Q : Bool → Shared → Prop} (h : wpAny M A (isTrue x env (eval x env)) (NotK Q) E s) : wpAny M A (isTrue (.UnaryOp .Not x pos) env whole) Q E s := isTrue_not (by unfold NotK at h; exact h)
end
end Mine
namespace Mine
local macro_rules | `(tactic| walk_at "mlt") => `(tactic| first | with_reducible assumption | exact And.left (by with_reducible assumption) | exact And.right (by with_reducible assumption) | exact And.left (And.right (by with_reducible assumption)) | exact And.left (And.right (And.right (by with_reducible assumption))) | exact And.left (And.right (And.right (And.right (by with_reducible assumption)))) | exact And.left (And.right (And.right (And.right (And.right (by with_reducible assumption))))) | exact And.left (And.right (And.right (And.right (And.right (And.right (by with_reducible assumption)))))) | exact And.left (And.right (And.right (And.right (And.right (And.right (And.right (by with_reducible assumption))))))) | exact And.left (And.right (And.right (And.right (And.right (And.right (And.right (And.right (by with_reducible assumption)))))))))
local macro_rules | `(tactic| omega) => `(tactic| first | with_reducible assumption | decide | exact Nat.le_trans (by with_reducible assumption) (by decide) | exact Int.lt_of_lt_of_le (by with_reducible assumption) (by decide) | exact Int.le_trans (by with_reducible assumption) (by decide) | walk_at "mlt" | exact Nat.ne_of_gt (by walk_at "mlt") | exact Nat.ne_of_lt (by walk_at "mlt") | fail)
local macro_rules | `(tactic| walk_at "exec Raise some none") => `(tactic| (k_here; (with_reducible rename Fr _ _ _ _ => kF); k_dflt (refine' raise_asm kF ?k1 ?k2 ?k3 ?kh ?kf ?kd ?ku ?_; (case k1 => k_asm); (case k2 => k_asm); (case k3 => k_is); (case kh => exact rfl); (case kf => exact rfl); (case kd => ((simp only [depth_deeper]; omega))); (case ku => ((simp only [units_deeper]; omega))); k_whole)))
local macro_rules | `(tactic| walk_at "AsmArgs") => `(tactic| (k_here; refine asmArgs_ ?k1 ?_; (case k1 => k_in); intro e' h' tk' hm'))
local macro_rules | `(tactic| walk_at "leaving ref") => `(tactic| (k_here; first
  | (refine' leave_made ?k1 ?k2 ?k3 ?_; (case k1 => assumption); (case k2 => assumption); (case k3 => assumption); k_whole; intro h' R' U'; (try dsimp only))
  | (refine' leave_on ?k1 ?k2 ?k3 ?_; (case k1 => assumption); (case k2 => assumption); (case k3 => assumption); k_whole; intro h' R' U'; (try dsimp only))))
local macro_rules | `(tactic| ktn_open) => `(tactic| (first | exact rfl | assumption))
local macro_rules | `(tactic| tb_start) => `(tactic| ((try dsimp only [ktrTop, PySem.Around.deeper]); first | exact room1 (by with_reducible assumption) (by exact rfl) | exact room2 (by with_reducible assumption) (by exact rfl) | exact room3 (by with_reducible assumption) (by exact rfl) | exact room4 (by with_reducible assumption) (by exact rfl) | omega))
local macro_rules | `(tactic| walk_at "callWith ref") => `(tactic| (k_here; (with_reducible show wpAny _ _ (callWith _ _ _ (backTo _ (starEach [] _)) []) _ _ _); k_dflt (refine' callWith_K0 ?k1 ?k2 ?_; (case k1 => first | with_reducible assumption | exact Frag.In.keeps (by with_reducible assumption) (Fr.keep (by with_reducible assumption))); (case k2 => k_is); k_whole)))
local macro_rules | `(tactic| walk_at "m8") => `(tactic| ((case B => k_asm); (case F => k_asm); (case X => k_asm); (case N => k_asm); (case T => k_asm); (case k => ktn_open); (case d => tb_start); (case u => tb_start)))
local macro_rules | `(tactic| walk_at "mp") => `(tactic| (intro t' h' tk' F' N'; (try dsimp only); (try k_sweep)))
local macro_rules | `(tactic| walk_at "eval Constant int") => `(tactic| (k_here; refine c_int ?_))
local macro_rules | `(tactic| walk_at "eval Constant str") => `(tactic| (k_here; refine c_str ?_))
local macro_rules | `(tactic| walk_at "storeName") => `(tactic| (k_here; k_dflt (refine' st_m ?F ?N ?_ ?a ?b; (case a => rfl); (case b => rfl); (case F => k_asm); (case N => k_asm); k_whole); intro h' F' N'; (try k_sweep)))
local macro_rules | `(tactic| walk_at "execs cons") => `(tactic| (k_here; with_reducible refine ex_cons ?_))
local macro_rules | `(tactic| walk_at "exec If") => `(tactic| (k_here; with_reducible refine if_m ?_))
local macro_rules | `(tactic| walk_at "ExK") => `(tactic| (k_here; first | (with_reducible refine ex_next ?_) | (with_reducible refine ex_ret ?_)))
local macro_rules | `(tactic| walk_at "IfK") => `(tactic| (k_here; with_reducible refine if_out ?_))
local macro_rules | `(tactic| walk_at "execs nil") => `(tactic| (k_here; with_reducible refine wpAny_execs_nil ?_))
local macro_rules | `(tactic| walk_at "BK") => `(tactic| (k_here; with_reducible refine bk_out ?_))
local macro_rules | `(tactic| walk_at "BK2") => `(tactic| (k_here; with_reducible refine bk2_out ?_))
local macro_rules | `(tactic| walk_at "ConsK") => `(tactic| (k_here; with_reducible refine cons_out ?_))
local macro_rules | `(tactic| walk_at "ArgK") => `(tactic| (k_here; with_reducible refine arg_out ?_))
local macro_rules | `(tactic| walk_at "NextK") => `(tactic| (k_here; with_reducible refine next_out ?_))
local macro_rules | `(tactic| walk_at "eval BinOp") => `(tactic| (k_here; with_reducible refine m_bin ?_))
local macro_rules | `(tactic| walk_at "isTrue Compare") => `(tactic| (k_here; with_reducible refine m_cmp ?_))
local macro_rules | `(tactic| walk_at "eval Subscript") => `(tactic| (k_here; with_reducible refine m_sub ?_))
local macro_rules | `(tactic| walk_at "isTrue") => `(tactic| (k_here; refine m_test ?_))
local macro_rules | `(tactic| walk_at "eval Call") => `(tactic| (k_here; k_dflt (refine m_call ?_)))
local macro_rules | `(tactic| walk_at "spliced") => `(tactic| (k_here; refine m_arg ?_))
local macro_rules | `(tactic| walk_at "eval Tuple") => `(tactic| (k_here; with_reducible refine m_tup ?_))
local macro_rules | `(tactic| walk_at "exec Assign") => `(tactic| (k_here; refine m_asg ?_))
local macro_rules | `(tactic| walk_at "eval Call Attribute") => `(tactic| (k_here; refine m_meth ?_))
local macro_rules | `(tactic| k_qdec) => `(tactic| first | decide +kernel | fail)
local macro_rules | `(tactic| walk_at "AndK") => `(tactic| (k_here; with_reducible refine and_out ?_))
local macro_rules | `(tactic| walk_at "OrK") => `(tactic| (k_here; with_reducible refine or_out ?_))
local macro_rules | `(tactic| walk_at "SelK") => `(tactic| (k_here; with_reducible refine sel_out ?_))
local macro_rules | `(tactic| walk_at "NotK") => `(tactic| (k_here; with_reducible refine not_out ?_))
local macro_rules | `(tactic| walk_at "isTrue BoolOp") => `(tactic| (k_here; first | (with_reducible refine m_and ?_) | (with_reducible refine m_or ?_)))
local macro_rules | `(tactic| walk_at "isTrue UnaryOp") => `(tactic| (k_here; with_reducible refine m_not ?_))
local macro_rules | `(tactic| walk_at "eval IfExp") => `(tactic| (k_here; with_reducible refine m_sel ?_))
local macro_rules | `(tactic| walk_at "subscriptTail Name Constant ref int") => `(tactic| (k_here; k_dflt (refine' item_tupleT ?t ?a ?b ?c ?d ?_; (case t => exact News.isTup (by k_asm) (by k_mem)); (case a => decide); (case b => decide); (case c => rfl); (case d => rfl); k_whole)))

/-- here the walk stops: the rest is by hand -/
def StopG (p : Prop) : Prop := p
theorem stop_in {p : Prop} (h : StopG p) : p := h
theorem stop_out {p : Prop} (h : p) : StopG p := h
theorem exc_close {h₀ g h' : Heap} {L : Addr} {m : Str → Option Value} (FG : Fr h₀ L g m) (U : g.UpToSlots h') : h₀.UpToSlots h' ∧ h'.Ns L m := ⟨(Heap.UpToSlots.of_keeps FG.keep).trans U, U.ns FG.ns⟩
/-- a pure answer: the value, and the ledger as it was -/
abbrev PRet (news : List (Addr × Obj)) (R : Tok → Value) : Value → List (Addr × Obj) → Prop := fun r nw => (∃ t, r = R t) ∧ nw = news
abbrev NoExc : Int → Str → Prop := fun _ _ => False
section
variable {d : Nat} {w : World} {mean : ExcName → Option Value} {mg mb : Str → Option Value} {f : Addr} {news : List (Addr × Obj)} {vs : List Value} {Ret : Value → List (Addr × Obj) → Prop} {Exc : Int → Str → Prop}
  {dp un : Nat} {gd : Option (List Code)} {cn : Str} {cs : Scope} {a : Addr} {ccd : Value} {cl : List (Str × Addr)} {outer : List Env} {A₀ : Around} {base h₀ : Heap} {L : Addr} {m : Str → Option Value} {s : Shared} {Q E : Value → Shared → Prop}
theorem Con.use (C : Con d w mean mg mb f news vs Ret Exc) (B : Below A₀ base outer h₀) (F : Fr h₀ L s.heap m) (X : (hd.heap_39 w.params).In h₀) (N : News h₀ L s.heap news) (T : Top hd.view_39 (looseW hd.view_39 []) mean mg mb h₀) (hk : cs.kind = .function) (hd : dp + d ≤ 900) (hu : un + 10 * d ≤ 9000)
    (hret : ∀ (r : Value) (nw : List (Addr × Obj)) (h' : Heap) (tk' : Nat), Fr h₀ L h' m → News h₀ L h' nw → Ret r nw → Q r { s with heap := h', toks := tk' })
    (hexc : ∀ (e : Addr) (row : Int) (what : Str) (h' : Heap) (tk' : Nat), FlyD base (envX cn cs L a ccd cl :: outer) e row what h' → h₀.UpToSlots h' → h'.Ns L m → Exc row what → E (.ref e) { s with heap := h', toks := tk' }) :
    wpAny (model PySem.Challenge.rw_nu0335_01.row.prog w) (ktrTop dp un gd cn cs L a ccd cl outer) (call (.ref f) vs) Q E s := C _ _ _ _ _ _ _ _ _ _ _ _ _ _ _ _ _ B F X N T hk hd hu hret hexc
theorem Con.pure {R : Tok → Value} (C : Con d w mean mg mb f news vs (PRet news R) NoExc) (B : Below A₀ base outer h₀) (F : Fr h₀ L s.heap m) (X : (hd.heap_39 w.params).In h₀) (N : News h₀ L s.heap news) (T : Top hd.view_39 (looseW hd.view_39 []) mean mg mb h₀) (hk : cs.kind = .function) (hd : dp + d ≤ 900) (hu : un + 10 * d ≤ 9000)
    (hret : ∀ (t : Tok) (h' : Heap) (tk' : Nat), Fr h₀ L h' m → News h₀ L h' news → Q (R t) { s with heap := h', toks := tk' }) :
    wpAny (model PySem.Challenge.rw_nu0335_01.row.prog w) (ktrTop dp un gd cn cs L a ccd cl outer) (call (.ref f) vs) Q E s :=
  C.use B F X N T hk hd hu (fun r nw h' tk' F' N' R' => by
    obtain ⟨⟨t, rfl⟩, rfl⟩ := R'
    exact hret t h' tk' F' N') fun _ _ _ _ _ _ _ _ x => x.elim
end
def ltS (x y : Str) : Bool := decide (x.cps.toList < y.cps.toList)
def isLetterS (c : Str) : Bool := (!ltS c "a" && !ltS "z" c) || ((!ltS c "A" && !ltS "Z" c) || c == "_")
def isFigureS (c : Str) : Bool := !ltS c "0" && !ltS "9" c
theorem is_letter_con (w : World) (mean : ExcName → Option Value) (mg mb : Str → Option Value) (news : List (Addr × Obj)) (c : Str) (t : Tok) : Con 1 w mean mg mb 123 news [.str c t] (PRet news fun _ => .bool (isLetterS c)) NoExc := by
  unfold Con
  w_top off
  k_fill
  intro dp un gd cn cs a ccd cl outer A₀ base h₀ L m s Q E B F X N T hk hd hu hret hexc
  refine wpAny_call ?_
  k_dflt cell_enter
  k_steps
  all_goals (refine hret _ _ _ _ (by assumption) (by assumption) ⟨⟨0, ?_⟩, rfl⟩)
  all_goals (simp only [isLetterS, ltS, *, decide_true, decide_false, not_true_eq_false, not_false_eq_true, Bool.not_true, Bool.not_false, Bool.and_true, Bool.true_and, Bool.and_false, Bool.false_and, Bool.or_false, Bool.false_or, Bool.or_true, Bool.true_or])
theorem is_figure_con (w : World) (mean : ExcName → Option Value) (mg mb : Str → Option Value) (news : List (Addr × Obj)) (c : Str) (t : Tok) : Con 1 w mean mg mb 130 news [.str c t] (PRet news fun _ => .bool (isFigureS c)) NoExc := by
  unfold Con
  w_top off
  k_fill
  intro dp un gd cn cs a ccd cl outer A₀ base h₀ L m s Q E B F X N T hk hd hu hret hexc
  refine wpAny_call ?_
  k_dflt cell_enter
  k_steps
  all_goals (refine hret _ _ _ _ (by assumption) (by assumption) ⟨⟨0, ?_⟩, rfl⟩)
  all_goals (simp only [isFigureS, ltS, *, decide_true, decide_false, not_true_eq_false, not_false_eq_true, Bool.not_true, Bool.not_false, Bool.and_true, Bool.true_and, Bool.and_false, Bool.false_and, Bool.or_false, Bool.false_or, Bool.or_true, Bool.true_or])

local macro_rules | `(tactic| walk_at "call ref") => `(tactic| (k_here; (with_reducible show wpAny _ _ (call (Value.ref 123) _) _ _ _); k_dflt (refine' Con.pure (is_letter_con _ _ _ _ _ _ _) ?B ?F ?X ?N ?T ?k ?d ?u ?_; walk_at "m8"; k_whole); walk_at "mp"))
local macro_rules | `(tactic| walk_at "call ref") => `(tactic| (k_here; (with_reducible show wpAny _ _ (call (Value.ref 130) _) _ _ _); k_dflt (refine' Con.pure (is_figure_con _ _ _ _ _ _ _) ?B ?F ?X ?N ?T ?k ?d ?u ?_; walk_at "m8"; k_whole); walk_at "mp"))

def isWordAt (x : Str) (e : Int) : Bool := isLetterS (Txt.item x e) || isFigureS (Txt.item x e)
def wordEndN (x : Str) : Nat → Int → Int
  | 0, e => e
  | n + 1, e => if e < (x.length : Int) then (if isWordAt x e = true then wordEndN x n (e + 1) else e) else e
def wordEndF (x : Str) (i : Int) : Int := wordEndN x x.length (i + 1)
def WeX (x : Str) (i e : Int) : Prop := ∃ n : Nat, (x.length : Int) - e ≤ n ∧ wordEndN x n e = wordEndF x i
theorem we_start {x : Str} {i : Int} (h0 : 0 ≤ i) (h1 : i < (x.length : Int)) : i + 1 ≤ i + 1 ∧ i + 1 ≤ (x.length : Int) ∧ WeX x i (i + 1) := ⟨by omega, by omega, x.length, by omega, rfl⟩
theorem we_step {x : Str} {i e : Int} (h1 : i + 1 ≤ e) (h : WeX x i e) (hl : e < (x.length : Int)) (hc : isWordAt x e = true) : i + 1 ≤ e + 1 ∧ e + 1 ≤ (x.length : Int) ∧ WeX x i (e + 1) := by
  obtain ⟨n, hn, hw⟩ := h
  cases n with
  | zero => omega
  | succ n =>
    refine ⟨by omega, by omega, n, by omega, ?_⟩
    rw [← hw, wordEndN, if_pos hl, if_pos hc]
theorem we_end1 {x : Str} {i e : Int} (h : WeX x i e) (hl : ¬ e < (x.length : Int)) : e = wordEndF x i := by
  obtain ⟨n, _, hw⟩ := h
  cases n with
  | zero => exact hw
  | succ n => rw [← hw, wordEndN, if_neg hl]
theorem we_end2 {x : Str} {i e : Int} (h : WeX x i e) (hl : e < (x.length : Int)) (hc : isWordAt x e = false) : e = wordEndF x i := by
  obtain ⟨n, hn, hw⟩ := h
  cases n with
  | zero => omega
  | succ n => rw [← hw, wordEndN]; simp [hc]
theorem we_range {x : Str} {i : Int} (h0 : 0 ≤ i) (h1 : i < (x.length : Int)) : i + 1 ≤ wordEndF x i ∧ wordEndF x i ≤ x.length := by
  have key : ∀ n e, i + 1 ≤ e → e ≤ (x.length : Int) → i + 1 ≤ wordEndN x n e ∧ wordEndN x n e ≤ x.length := by
    intro n
    induction n with
    | zero => intro e a b; exact ⟨a, b⟩
    | succ n ih =>
      intro e a b
      rw [wordEndN]
      split
      · split
        · exact ih _ (by omega) (by omega)
        · exact ⟨a, b⟩
      · exact ⟨a, b⟩
  exact key _ _ (by omega) (by omega)
theorem word_at1 {x : Str} {e : Int} (h : isLetterS (Txt.item x e) = true) : isWordAt x e = true := by simp [isWordAt, h]
theorem word_at2 {x : Str} {e : Int} (h : isFigureS (Txt.item x e) = true) : isWordAt x e = true := by simp [isWordAt, h]
theorem word_at3 {x : Str} {e : Int} (h : isLetterS (Txt.item x e) = false) (h' : isFigureS (Txt.item x e) = false) : isWordAt x e = false := by simp [isWordAt, h, h']
theorem word_end_con (w : World) (mean : ExcName → Option Value) (mg mb : Str → Option Value) (news : List (Addr × Obj)) (x : Str) (i : Int) (t t2 : Tok) (h0 : 0 ≤ i) (h1 : i < (x.length : Int)) (h2 : x.length ≤ 1048576) : Con 3 w mean mg mb 137 news [.str x t, .int i t2] (PRet news fun t => .int (wordEndF x i) t) NoExc := by
  unfold Con
  w_top off
  k_fill
  intro dp un gd cn cs a ccd cl outer A₀ base h₀ L m s Q E B F X N T hk hd hu hret hexc
  refine wpAny_call ?_
  k_dflt cell_enter
  k_with_none
  k_with "exec While BoolOp cons nil" => k_while (fun _ e => i + 1 ≤ e ∧ e ≤ x.length ∧ WeX x i e) (fun _ e => (x.length - e).toNat) "end"
  k_with "state" => (first | exact we_start h0 h1 | exact we_step (by assumption) (by assumption) (by assumption) (word_at1 (by assumption)) | exact we_step (by assumption) (by assumption) (by assumption) (word_at2 (by assumption)))
  k_steps
  all_goals first
    | exact hret _ _ _ _ (by assumption) (by assumption) ⟨⟨_, congrArg (Value.int · _) (we_end2 (by assumption) (by assumption) (word_at3 (by assumption) (by assumption)))⟩, rfl⟩
    | exact hret _ _ _ _ (by assumption) (by assumption) ⟨⟨_, congrArg (Value.int · _) (we_end1 (by assumption) (by assumption))⟩, rfl⟩

local macro_rules | `(tactic| walk_at "call ref") => `(tactic| (k_here; (with_reducible show wpAny _ _ (call (Value.ref 137) _) _ _ _); k_dflt (refine' Con.pure (word_end_con _ _ _ _ _ _ _ _ _ ?k0 ?k1 ?k2) ?B ?F ?X ?N ?T ?k ?d ?u ?_; walk_at "m8"; (case k0 => omega); (case k1 => omega); (case k2 => omega); k_whole); walk_at "mp"))
local macro_rules | `(tactic| walk_at "KswEnd") => `(tactic| (k_here; k_dflt (refine stop_in ?_)))
local macro_rules | `(tactic| tb_rel) => `(tactic| (intro z h2 h3; (simp only [List.forall_mem_cons, List.not_mem_nil, false_implies, implies_true, and_true, ne_eq] at h2); (simp only [List.contains_cons, List.contains_nil, Bool.or_false, Bool.or_eq_false_iff, beq_eq_false_iff_ne, ne_eq] at h3); simp [kstB, h2, h3]))

def inT (s c : Str) : Bool := !(Builtin.Str.occurrences s c 0 s.length 1).isEmpty
def tokN (x : Str) : Nat → Int → List Str → Option (List Str)
  | 0, _, ts => some ts
  | n + 1, p, ts =>
    if p < (x.length : Int) then
      if (Txt.item x p != Str.ofString ";") = true then
        if inT " \t\r" (Txt.item x p) = true then tokN x n (p + 1) ts
        else if inT ",:[]" (Txt.item x p) = true then tokN x n (p + 1) (ts ++ [Txt.item x p])
        else if (isLetterS (Txt.item x p) || (isFigureS (Txt.item x p) || Txt.item x p == Str.ofString "-")) = true then tokN x n (wordEndF x p) (ts ++ [Txt.slice x (some p) (some (wordEndF x p))])
        else none
      else some ts
    else some ts
def rowTokensF (x : Str) : Option (List Str) := tokN x x.length 0 []
def RtX (x : Str) (ts : List Str) (p : Int) : Prop := ∃ n : Nat, (x.length : Int) - p ≤ n ∧ tokN x n p ts = rowTokensF x
section
variable {x : Str} {ts : List Str} {p : Int}
theorem rt_start : RtX x [] 0 := ⟨x.length, by omega, rfl⟩
theorem rt_a (h : RtX x ts p) (hl : p < (x.length : Int)) (hs : (Txt.item x p != Str.ofString ";") = true) (ha : (Builtin.Str.occurrences (Str.ofString " \t\r") (Txt.item x p) 0 (Str.ofString " \t\r").length 1).isEmpty = false) : RtX x ts (p + 1) := by
  obtain ⟨n, hn, hw⟩ := h
  cases n with
  | zero => omega
  | succ n => exact ⟨n, by omega, by rw [← hw, tokN, if_pos hl, if_pos hs, if_pos (by simp [inT, ha])]⟩
theorem rt_b (h : RtX x ts p) (hl : p < (x.length : Int)) (hs : (Txt.item x p != Str.ofString ";") = true) (ha : (Builtin.Str.occurrences (Str.ofString " \t\r") (Txt.item x p) 0 (Str.ofString " \t\r").length 1).isEmpty = true)
    (hb : (Builtin.Str.occurrences (Str.ofString ",:[]") (Txt.item x p) 0 (Str.ofString ",:[]").length 1).isEmpty = false) : RtX x (ts ++ [Txt.item x p]) (p + 1) := by
  obtain ⟨n, hn, hw⟩ := h
  cases n with
  | zero => omega
  | succ n => exact ⟨n, by omega, by rw [← hw, tokN, if_pos hl, if_pos hs, if_neg (by simp [inT, ha]), if_pos (by simp [inT, hb])]⟩
theorem rt_c (h : RtX x ts p) (h0 : 0 ≤ p) (hl : p < (x.length : Int)) (hs : (Txt.item x p != Str.ofString ";") = true) (ha : (Builtin.Str.occurrences (Str.ofString " \t\r") (Txt.item x p) 0 (Str.ofString " \t\r").length 1).isEmpty = true)
    (hb : (Builtin.Str.occurrences (Str.ofString ",:[]") (Txt.item x p) 0 (Str.ofString ",:[]").length 1).isEmpty = true) (hc : (isLetterS (Txt.item x p) || (isFigureS (Txt.item x p) || Txt.item x p == Str.ofString "-")) = true) :
    RtX x (ts ++ [Txt.slice x (some p) (some (wordEndF x p))]) (wordEndF x p) := by
  obtain ⟨n, hn, hw⟩ := h
  have hr := we_range (x := x) (i := p) h0 hl
  cases n with
  | zero => omega
  | succ n => exact ⟨n, by omega, by rw [← hw, tokN, if_pos hl, if_pos hs, if_neg (by simp [inT, ha]), if_neg (by simp [inT, hb]), if_pos hc]⟩
theorem rt_none (h : RtX x ts p) (hl : p < (x.length : Int)) (hs : (Txt.item x p != Str.ofString ";") = true) (ha : (Builtin.Str.occurrences (Str.ofString " \t\r") (Txt.item x p) 0 (Str.ofString " \t\r").length 1).isEmpty = true)
    (hb : (Builtin.Str.occurrences (Str.ofString ",:[]") (Txt.item x p) 0 (Str.ofString ",:[]").length 1).isEmpty = true) (h1 : isLetterS (Txt.item x p) = false) (h2 : isFigureS (Txt.item x p) = false) (h3 : (Txt.item x p == Str.ofString "-") = false) :
    rowTokensF x = none := by
  obtain ⟨n, hn, hw⟩ := h
  cases n with
  | zero => omega
  | succ n => rw [← hw, tokN, if_pos hl, if_pos hs, if_neg (by simp [inT, ha]), if_neg (by simp [inT, hb]), if_neg (by rw [h1, h2, h3]; decide)]
theorem rt_end1 (h : RtX x ts p) (hl : ¬ p < (x.length : Int)) : rowTokensF x = some ts := by
  obtain ⟨n, hn, hw⟩ := h
  cases n with
  | zero => exact hw.symm
  | succ n => rw [← hw, tokN, if_neg hl]
theorem rt_end2 (h : RtX x ts p) (hl : p < (x.length : Int)) (hs : (Txt.item x p != Str.ofString ";") = false) : rowTokensF x = some ts := by
  obtain ⟨n, hn, hw⟩ := h
  cases n with
  | zero => omega
  | succ n => rw [← hw, tokN, if_pos hl, if_neg (by simp [hs])]
theorem or3a {a b c : Bool} (h : a = true) : (a || (b || c)) = true := by simp [h]
theorem or3b {a b c : Bool} (h : b = true) : (a || (b || c)) = true := by simp [h]
theorem or3c {a b c : Bool} (h : c = true) : (a || (b || c)) = true := by simp [h]
end
theorem news_head {h₀ h : Heap} {L l : Addr} {o : Obj} {r : List (Addr × Obj)} (_ : News h₀ L h ((l, o) :: r)) : ∃ l', l' = l := ⟨l, rfl⟩
/-- a new list of texts on the ledger -/
def ListRet (news : List (Addr × Obj)) (ts : List Str) (r : Value) (nw : List (Addr × Obj)) : Prop :=
  ∃ l vs n, r = .ref l ∧ StrsAre vs ts ∧ nw = (l, listOf vs.toArray n) :: news ∧ ∀ p ∈ news, p.1 < l
theorem row_tokens_con (w : World) (mean : ExcName → Option Value) (mg mb : Str → Option Value) (news : List (Addr × Obj)) (x : Str) (k : Int) (t t2 : Tok) (h2 : x.length ≤ 1048576) : Con 5 w mean mg mb 144 news [.str x t, .int k t2] (fun r nw => ∃ ts, rowTokensF x = some ts ∧ ts.length ≤ x.length ∧ ListRet news ts r nw) (fun row what => rowTokensF x = none ∧ row = k ∧ what = Str.ofString "bad character") := by
  unfold Con
  w_top off
  k_fill
  intro dp un gd cn cs a ccd cl outer A₀ base h₀ L m s Q E B F X N T hk hd hu hret hexc
  refine wpAny_call ?_
  k_dflt cell_enter
  k_with_none
  k_with "exec While BoolOp cons nil" => (refine stop_in ?_)
  k_steps
  · refine stop_out ?_
    (rename Fr _ _ _ _ => F1); (rename News _ _ _ _ => N1)
    obtain ⟨l, hl⟩ := news_head N1
    subst hl
    refine ksw_while (σ := List Value × List Str × Int × Tok × Nat) (fun c => (l, listOf c.1.toArray c.2.2.2.2) :: news) (fun c => [(Str.ofString "place", .int c.2.2.1 c.2.2.2.1)]) (fun c => StrsAre c.1 c.2.1) [Str.ofString "char", Str.ofString "end"]
      (fun c => 0 ≤ c.2.2.1 ∧ c.2.2.1 ≤ x.length ∧ (c.2.1.length : Int) ≤ c.2.2.1 ∧ RtX x c.2.1 c.2.2.1) (fun c => (x.length - c.2.2.1).toNat) ([], [], 0, _, 0) F1 N1 .nil (List.forall_mem_cons.mpr ⟨rfl, List.forall_mem_nil _⟩) ⟨Int.le_refl 0, (by dsimp only; omega), Int.le_refl 0, rt_start⟩ ?_
    clear F1 N1
    rintro ⟨vs, ts, p, tk, nn⟩ u h tk' hf ⟨hp1, hp2, hp3, hp4⟩ F1 N1
    dsimp only at hf hp1 hp2 hp3 hp4 F1 N1 ⊢
    have hlen := StrsAre.length hf
    k_steps
    all_goals first
      | (refine stop_out ?_
         (rename News _ _ _ _ => nE); (try simp only [List.push_toArray] at nE)
         first
           | exact ksw_end (vs, ts, p + 1, _, nn) (by assumption) nE (fun _ h => h) hf (List.forall_mem_cons.mpr ⟨if_pos rfl, List.forall_mem_nil _⟩) (by tb_rel) ⟨by dsimp only; omega, by dsimp only; omega, by dsimp only; omega, rt_a hp4 (by assumption) (by assumption) (by assumption)⟩ (by dsimp only; omega)
           | exact ksw_end (_, _, p + 1, _, nn + 1) (by assumption) nE (fun _ h => h) (StrsAre.append' hf (.cons _ _ .nil)) (List.forall_mem_cons.mpr ⟨if_pos rfl, List.forall_mem_nil _⟩) (by tb_rel) ⟨by dsimp only; omega, by dsimp only; omega, by simp only [List.length_append, List.length_cons, List.length_nil]; omega, rt_b hp4 (by assumption) (by assumption) (by assumption) (by assumption)⟩ (by dsimp only; omega)
           | (have hr := we_range hp1 (by assumption)
              refine ksw_end (_, _, wordEndF x p, _, nn + 1) (by assumption) nE (fun _ h => h) (StrsAre.append' hf (.cons _ _ .nil)) (List.forall_mem_cons.mpr ⟨if_pos rfl, List.forall_mem_nil _⟩) (by tb_rel) ⟨by dsimp only; omega, by dsimp only; omega, by simp only [List.length_append, List.length_cons, List.length_nil]; omega, ?_⟩ (by dsimp only; omega)
              exact rt_c hp4 hp1 (by assumption) (by assumption) (by assumption) (by assumption) (by first | exact or3a (by assumption) | exact or3b (by assumption) | exact or3c (by assumption))))
      | exact hexc _ _ _ _ _ (by assumption) (exc_close (by assumption) (by assumption)).1 (exc_close (by assumption) (by assumption)).2 ⟨rt_none hp4 (by assumption) (by assumption) (by assumption) (by assumption) (by assumption) (by assumption) (by assumption), rfl, rfl⟩
      | exact hret _ _ _ _ (by assumption) (by assumption) ⟨ts, rt_end1 hp4 (by assumption), by omega, l, vs, nn, rfl, hf, rfl, by assumption⟩
      | exact hret _ _ _ _ (by assumption) (by assumption) ⟨ts, rt_end2 hp4 (by assumption) (by assumption), by omega, l, vs, nn, rfl, hf, rfl, by assumption⟩
section
variable {d : Nat} {w : World} {mean : ExcName → Option Value} {mg mb : Str → Option Value} {f : Addr} {news : List (Addr × Obj)} {vs : List Value}
  {dp un : Nat} {gd : Option (List Code)} {cn : Str} {cs : Scope} {a : Addr} {ccd : Value} {cl : List (Str × Addr)} {outer : List Env} {A₀ : Around} {base h₀ : Heap} {L : Addr} {m : Str → Option Value} {s : Shared} {Q E : Value → Shared → Prop}
  (B : Below A₀ base outer h₀) (F : Fr h₀ L s.heap m) (X : (hd.heap_39 w.params).In h₀) (N : News h₀ L s.heap news) (T : Top hd.view_39 (looseW hd.view_39 []) mean mg mb h₀) (hk : cs.kind = .function) (hd : dp + d ≤ 900) (hu : un + 10 * d ≤ 9000)
include B F X N T hk hd hu
theorem Con.useToks {x : Str} {k : Int} (C : Con d w mean mg mb f news vs (fun r nw => ∃ ts, rowTokensF x = some ts ∧ ts.length ≤ x.length ∧ ListRet news ts r nw) (fun row what => rowTokensF x = none ∧ row = k ∧ what = Str.ofString "bad character"))
    (hret : ∀ (h' : Heap) (tk' : Nat) (ts : List Str) (l : Addr) (lv : List Value) (n : Nat), rowTokensF x = some ts → ts.length ≤ x.length → StrsAre lv ts → AllLt l news → Fr h₀ L h' m → News h₀ L h' ((l, listOf lv.toArray n) :: news) → Q (.ref l) { s with heap := h', toks := tk' })
    (hexc : ∀ (e : Addr) (h' : Heap) (tk' : Nat), rowTokensF x = none → FlyD base (envX cn cs L a ccd cl :: outer) e k (Str.ofString "bad character") h' → h₀.UpToSlots h' → h'.Ns L m → E (.ref e) { s with heap := h', toks := tk' }) :
    wpAny (model PySem.Challenge.rw_nu0335_01.row.prog w) (ktrTop dp un gd cn cs L a ccd cl outer) (call (.ref f) vs) Q E s :=
  C.use B F X N T hk hd hu (fun r nw h' tk' F' N' R' => by obtain ⟨ts, x1, x2, l, lv, n, e1, x3, e2, x4⟩ := R'; subst e1 e2; exact hret h' tk' ts l lv n x1 x2 x3 (allLt_of x4) F' N') (fun e row what h' tk' D U S' R' => by obtain ⟨e1, e2, e3⟩ := R'; subst e2 e3; exact hexc e h' tk' e1 D U S')
end

local macro_rules | `(tactic| walk_at "call ref") => `(tactic| (k_here; (with_reducible show wpAny _ _ (call (Value.ref 144) [Value.str _ _, Value.int _ _]) _ _ _); k_dflt (refine' Con.useToks ?B ?F ?X ?N ?T ?k ?d ?u (row_tokens_con _ _ _ _ _ _ _ _ _ ?k1) ?_ ?_; walk_at "m8"; (case k1 => omega)); refine stop_in ?_))
local macro_rules | `(tactic| walk_at "InvEndN") => `(tactic| (k_here; k_dflt (refine stop_in ?_)))

def allFigs (f : Str) : Bool := !(f == Str.ofString "") && (KStt.codes f).all fun n => isFigureS ⟨#[n.toNat]⟩
def isNumberS (x : Str) : Bool := if (Txt.slice x none (some 1) == Str.ofString "-") = true then allFigs (Txt.slice x (some 1) none) else allFigs x
theorem allFigs_empty {f : Str} (h : (f == Str.ofString "") = true) : allFigs f = false := by simp [allFigs, h]
theorem allFigs_no {f : Str} {pre post : List Int} {n : Nat} (e : KStt.codes f = pre ++ (n : Int) :: post) (h : isFigureS ⟨#[n]⟩ = false) : allFigs f = false := by simp [allFigs, e, h]
theorem allFigs_yes {f : Str} (h : (f == Str.ofString "") = false) (h' : ∀ n ∈ KStt.codes f, isFigureS ⟨#[n.toNat]⟩ = true) : allFigs f = true := by
  simp only [allFigs, h, Bool.not_false, Bool.true_and, List.all_eq_true]
  exact h'
theorem isNumber_a {x : Str} {b : Bool} (h : (Txt.slice x none (some 1) == Str.ofString "-") = true) (h' : allFigs (Txt.slice x (some 1) none) = b) : isNumberS x = b := by rw [isNumberS, if_pos h, h']
theorem isNumber_b {x : Str} {b : Bool} (h : (Txt.slice x none (some 1) == Str.ofString "-") = false) (h' : allFigs x = b) : isNumberS x = b := by rw [isNumberS, if_neg (by simp [h]), h']
theorem isNumber_e {x : Str} {b : Bool} (h : isNumberS x = b) : ∃ _t : Tok, Value.bool b = Value.bool (isNumberS x) := ⟨0, by rw [h]⟩
theorem is_number_con (w : World) (mean : ExcName → Option Value) (mg mb : Str → Option Value) (news : List (Addr × Obj)) (x : Str) (t : Tok) (h2 : x.length ≤ 1048576) : Con 3 w mean mg mb 151 news [.str x t] (PRet news fun _ => .bool (isNumberS x)) NoExc := by
  unfold Con
  w_top off
  k_fill
  intro dp un gd cn cs a ccd cl outer A₀ base h₀ L m s Q E B F X N T hk hd hu hret hexc
  refine wpAny_call ?_
  k_dflt cell_enter
  k_with_none
  k_with "pyIter str" => (refine stop_in ?_)
  k_steps
  · exact hret _ _ _ _ (by assumption) (by assumption) ⟨isNumber_e (isNumber_a (by assumption) (allFigs_empty (by assumption))), rfl⟩
  · refine stop_out ?_
    (rename Fr _ _ _ _ => F1); (rename News _ _ _ _ => N1)
    refine KStt.kst_text (σ := Unit) (fun _ => news) (fun _ => []) (fun _ => True) [] (fun pre _ => ∀ n ∈ pre, isFigureS ⟨#[n.toNat]⟩ = true) () rfl F1 N1 trivial (List.forall_mem_nil _) (List.forall_mem_nil _) ?_ ?_
    · clear F1 N1
      rintro c pre post n t3 u h tk own hcod hoff - hP F1 N1
      dsimp only at F1 N1 ⊢
      k_steps
      · refine stop_out (kst_end () (by assumption) (by assumption) (fun p h => List.mem_append.mpr (.inl h)) (fun p h => List.mem_append.mpr (.inr h)) rfl trivial (List.forall_mem_nil _) (by intro z hz _ _; simp [kstB, hz]) ?_)
        exact List.forall_mem_append.mpr ⟨hP, List.forall_mem_cons.mpr ⟨by assumption, List.forall_mem_nil _⟩⟩
      · exact hret _ news _ _ (by assumption) (cb_drop (by assumption) (fun _ h => List.mem_append.mpr (.inl h))) ⟨isNumber_e (isNumber_a (by assumption) (allFigs_no hcod (by assumption))), rfl⟩
    · rintro c u h tk - hP F1 N1
      dsimp only at F1 N1 ⊢
      k_steps
      exact hret _ _ _ _ (by assumption) (by assumption) ⟨isNumber_e (isNumber_a (by assumption) (allFigs_yes (by assumption) hP)), rfl⟩
  · exact hret _ _ _ _ (by assumption) (by assumption) ⟨isNumber_e (isNumber_b (by assumption) (allFigs_empty (by assumption))), rfl⟩
  · refine stop_out ?_
    (rename Fr _ _ _ _ => F1); (rename News _ _ _ _ => N1)
    refine KStt.kst_text (σ := Unit) (fun _ => news) (fun _ => []) (fun _ => True) [] (fun pre _ => ∀ n ∈ pre, isFigureS ⟨#[n.toNat]⟩ = true) () rfl F1 N1 trivial (List.forall_mem_nil _) (List.forall_mem_nil _) ?_ ?_
    · clear F1 N1
      rintro c pre post n t3 u h tk own hcod hoff - hP F1 N1
      dsimp only at F1 N1 ⊢
      k_steps
      · refine stop_out (kst_end () (by assumption) (by assumption) (fun p h => List.mem_append.mpr (.inl h)) (fun p h => List.mem_append.mpr (.inr h)) rfl trivial (List.forall_mem_nil _) (by intro z hz _ _; simp [kstB, hz]) ?_)
        exact List.forall_mem_append.mpr ⟨hP, List.forall_mem_cons.mpr ⟨by assumption, List.forall_mem_nil _⟩⟩
      · exact hret _ news _ _ (by assumption) (cb_drop (by assumption) (fun _ h => List.mem_append.mpr (.inl h))) ⟨isNumber_e (isNumber_b (by assumption) (allFigs_no hcod (by assumption))), rfl⟩
    · rintro c u h tk - hP F1 N1
      dsimp only at F1 N1 ⊢
      k_steps
      exact hret _ _ _ _ (by assumption) (by assumption) ⟨isNumber_e (isNumber_b (by assumption) (allFigs_yes (by assumption) hP)), rfl⟩

local macro_rules | `(tactic| walk_at "call ref") => `(tactic| (k_here; (with_reducible show wpAny _ _ (call (Value.ref 151) _) _ _ _); k_dflt (refine' Con.pure (is_number_con _ _ _ _ _ _ _ ?k1) ?B ?F ?X ?N ?T ?k ?d ?u ?_; walk_at "m8"; (case k1 => omega); k_whole); walk_at "mp"))

def opsL : List Str := ["MOV", "LSL", "ASR", "ROR", "AND", "ANN", "IOR", "XOR", "ADD", "SUB", "MUL", "DIV"]
def memL : List Str := ["LDR", "LDB", "STR", "STB"]
def condL : List Str := ["MI", "EQ", "CS", "VS", "LS", "LT", "LE", "AL", "PL", "NE", "CC", "VC", "HI", "GE", "GT", "NV"]
theorem operations_con (w : World) (mean : ExcName → Option Value) (mg mb : Str → Option Value) (news : List (Addr × Obj)) : Con 1 w mean mg mb 41 news [] (ListRet news opsL) NoExc := by
  unfold Con
  w_top off
  k_fill
  intro dp un gd cn cs a ccd cl outer A₀ base h₀ L m s Q E B F X N T hk hd hu hret hexc
  refine wpAny_call ?_
  k_dflt cell_enter
  k_steps
  exact hret _ _ _ _ (by assumption) (by assumption) ⟨_, _, _, rfl, by repeat' constructor, rfl, by assumption⟩
theorem memory_names_con (w : World) (mean : ExcName → Option Value) (mg mb : Str → Option Value) (news : List (Addr × Obj)) : Con 1 w mean mg mb 48 news [] (ListRet news memL) NoExc := by
  unfold Con
  w_top off
  k_fill
  intro dp un gd cn cs a ccd cl outer A₀ base h₀ L m s Q E B F X N T hk hd hu hret hexc
  refine wpAny_call ?_
  k_dflt cell_enter
  k_steps
  exact hret _ _ _ _ (by assumption) (by assumption) ⟨_, _, _, rfl, by repeat' constructor, rfl, by assumption⟩
theorem conditions_con (w : World) (mean : ExcName → Option Value) (mg mb : Str → Option Value) (news : List (Addr × Obj)) : Con 1 w mean mg mb 34 news [] (ListRet news condL) NoExc := by
  unfold Con
  w_top off
  k_fill
  intro dp un gd cn cs a ccd cl outer A₀ base h₀ L m s Q E B F X N T hk hd hu hret hexc
  refine wpAny_call ?_
  k_dflt cell_enter
  k_steps
  exact hret _ _ _ _ (by assumption) (by assumption) ⟨_, _, _, rfl, by repeat' constructor, rfl, by assumption⟩
theorem is_whole_con (w : World) (mean : ExcName → Option Value) (mg mb : Str → Option Value) (news : List (Addr × Obj)) (v lo hi : Int) (t t2 t3 : Tok) : Con 1 w mean mg mb 55 news [.int v t, .int lo t2, .int hi t3] (PRet news fun _ => .bool (decide (lo ≤ v ∧ v ≤ hi))) NoExc := by
  unfold Con
  w_top off
  k_fill
  intro dp un gd cn cs a ccd cl outer A₀ base h₀ L m s Q E B F X N T hk hd hu hret hexc
  refine wpAny_call ?_
  k_dflt cell_enter
  k_steps
  all_goals (exact hret _ _ _ _ (by assumption) (by assumption) ⟨⟨0, congrArg Value.bool (by simp [*])⟩, rfl⟩)
section
variable {d : Nat} {w : World} {mean : ExcName → Option Value} {mg mb : Str → Option Value} {f : Addr} {news : List (Addr × Obj)} {vs : List Value}
  {dp un : Nat} {gd : Option (List Code)} {cn : Str} {cs : Scope} {a : Addr} {ccd : Value} {cl : List (Str × Addr)} {outer : List Env} {A₀ : Around} {base h₀ : Heap} {L : Addr} {m : Str → Option Value} {s : Shared} {Q E : Value → Shared → Prop}
  (B : Below A₀ base outer h₀) (F : Fr h₀ L s.heap m) (X : (hd.heap_39 w.params).In h₀) (N : News h₀ L s.heap news) (T : Top hd.view_39 (looseW hd.view_39 []) mean mg mb h₀) (hk : cs.kind = .function) (hd : dp + d ≤ 900) (hu : un + 10 * d ≤ 9000)
include B F X N T hk hd hu
theorem Con.useList {ts : List Str} (C : Con d w mean mg mb f news vs (ListRet news ts) NoExc)
    (hret : ∀ (l : Addr) (lv : List Value) (n : Nat) (h' : Heap) (tk' : Nat), StrsAre lv ts → AllLt l news → Fr h₀ L h' m → News h₀ L h' ((l, listOf lv.toArray n) :: news) → Q (.ref l) { s with heap := h', toks := tk' }) :
    wpAny (model PySem.Challenge.rw_nu0335_01.row.prog w) (ktrTop dp un gd cn cs L a ccd cl outer) (call (.ref f) vs) Q E s :=
  C.use B F X N T hk hd hu (fun r nw h' tk' F' N' R' => by obtain ⟨l, lv, n, e1, e2, e3, e4⟩ := R'; subst e1 e3; exact hret l lv n h' tk' e2 (allLt_of e4) F' N') (fun _ _ _ _ _ _ _ _ x => x.elim)
end

local macro_rules | `(tactic| walk_at "ml") => `(tactic| (intro l' vs' n' h' tk' hs' l1' F' N'; (try simp only [AllLt, and_true] at l1'); (try dsimp only); (try k_sweep)))
local macro_rules | `(tactic| walk_at "call ref") => `(tactic| (k_here; (with_reducible show wpAny _ _ (call (Value.ref 41) _) _ _ _); k_dflt (refine' Con.useList ?B ?F ?X ?N ?T ?k ?d ?u (operations_con _ _ _ _ _) ?_; walk_at "m8"; k_whole); walk_at "ml"))
local macro_rules | `(tactic| walk_at "call ref") => `(tactic| (k_here; (with_reducible show wpAny _ _ (call (Value.ref 48) _) _ _ _); k_dflt (refine' Con.useList ?B ?F ?X ?N ?T ?k ?d ?u (memory_names_con _ _ _ _ _) ?_; walk_at "m8"; k_whole); walk_at "ml"))
local macro_rules | `(tactic| walk_at "call ref") => `(tactic| (k_here; (with_reducible show wpAny _ _ (call (Value.ref 34) _) _ _ _); k_dflt (refine' Con.useList ?B ?F ?X ?N ?T ?k ?d ?u (conditions_con _ _ _ _ _) ?_; walk_at "m8"; k_whole); walk_at "ml"))
local macro_rules | `(tactic| walk_at "call ref") => `(tactic| (k_here; (with_reducible show wpAny _ _ (call (Value.ref 55) _) _ _ _); k_dflt (refine' Con.pure (is_whole_con _ _ _ _ _ _ _ _ _ _ _) ?B ?F ?X ?N ?T ?k ?d ?u ?_; walk_at "m8"; k_whole); walk_at "mp"))

theorem is_register_con (w : World) (mean : ExcName → Option Value) (mg mb : Str → Option Value) (news : List (Addr × Obj)) (v : Int) (t : Tok) : Con 2 w mean mg mb 62 news [.int v t] (PRet news fun _ => .bool (decide (0 ≤ v ∧ v ≤ 15))) NoExc := by
  unfold Con
  w_top off
  k_fill
  intro dp un gd cn cs a ccd cl outer A₀ base h₀ L m s Q E B F X N T hk hd hu hret hexc
  refine wpAny_call ?_
  k_dflt cell_enter
  k_steps
  all_goals (exact hret _ _ _ _ (by assumption) (by assumption) ⟨⟨0, congrArg Value.bool (by simp [*])⟩, rfl⟩)
def immOp (x : Str) : Str := if (Txt.endswith x "I" && (opsL.any (· == Txt.slice x none (some (-1))))) = true then Txt.slice x none (some (-1)) else ""
theorem immediate_operation_con (w : World) (mean : ExcName → Option Value) (mg mb : Str → Option Value) (news : List (Addr × Obj)) (x : Str) (t : Tok) (h2 : x.length ≤ 1048576) : Con 2 w mean mg mb 69 news [.str x t] (PRet news fun t => .str (immOp x) t) NoExc := by
  unfold Con
  w_top off
  k_fill
  intro dp un gd cn cs a ccd cl outer A₀ base h₀ L m s Q E B F X N T hk hd hu hret hexc
  refine wpAny_call ?_
  k_dflt cell_enter
  k_steps
  all_goals (exact hret _ news _ _ (by assumption) (cb_drop (by assumption) (by intro p hp; repeat (first | exact hp | apply List.mem_cons_of_mem))) ⟨⟨_, congrArg (Value.str · _) (by simp [immOp, *])⟩, rfl⟩)

local macro_rules | `(tactic| walk_at "call ref") => `(tactic| (k_here; (with_reducible show wpAny _ _ (call (Value.ref 62) _) _ _ _); k_dflt (refine' Con.pure (is_register_con _ _ _ _ _ _ _) ?B ?F ?X ?N ?T ?k ?d ?u ?_; walk_at "m8"; k_whole); walk_at "mp"))
local macro_rules | `(tactic| walk_at "call ref") => `(tactic| (k_here; (with_reducible show wpAny _ _ (call (Value.ref 69) _) _ _ _); k_dflt (refine' Con.pure (immediate_operation_con _ _ _ _ _ _ _ ?k1) ?B ?F ?X ?N ?T ?k ?d ?u ?_; walk_at "m8"; (case k1 => omega); k_whole); walk_at "mp"))

abbrev tupO (vs : List Value) (n : Nat) : Obj := { cls := .type "tuple", data := .seq vs.toArray n }
def inR (lo hi v : Int) : Bool := decide (lo ≤ v ∧ v ≤ hi)
def opFault (x : Str) (a b c : Int) : Str :=
  if decide (0 ≤ a ∧ a ≤ 15) = false then "bad register" else if decide (0 ≤ b ∧ b ≤ 15) = false then "bad register"
  else if (([("MOV" : Str), "MOVI", "MOVH", "GETH"].any (· == x)) && b != 0) = true then "bad register"
  else if (x == ("GETH" : Str)) = true then (if decide (0 ≤ c ∧ c ≤ 0) = true then "" else "bad operand")
  else if (x == ("MOVH" : Str)) = true then (if decide (0 ≤ c ∧ c ≤ 65535) = true then "" else "bad immediate")
  else if (opsL.any (· == x)) = true then (if decide (0 ≤ c ∧ c ≤ 15) = true then "" else "bad register")
  else if decide (-65536 ≤ c ∧ c ≤ 65535) = true then "" else "bad immediate"
def memFault (a b c : Int) : Str :=
  if decide (0 ≤ a ∧ a ≤ 15) = false then "bad register" else if decide (0 ≤ b ∧ b ≤ 15) = false then "bad register"
  else if decide (-524288 ≤ c ∧ c ≤ 524287) = true then "" else "bad offset"
def brFault (x cond : Str) (c last : Int) : Str :=
  if (condL.any (· == cond)) = false then "bad condition"
  else if (x == ("TRAP" : Str)) = true then (if decide (0 ≤ c ∧ c ≤ 15) = false then "bad trap" else if decide (0 ≤ last ∧ last ≤ 65535) = true then "" else "bad place")
  else if decide (0 ≤ last ∧ last ≤ 0) = false then "bad operand"
  else if (x == ("B" : Str) || x == ("BL" : Str)) = true then (if decide (-8388608 ≤ c ∧ c ≤ 8388607) = true then "" else "bad offset")
  else if decide (0 ≤ c ∧ c ≤ 15) = false then "bad register" else if (x == ("BLR" : Str) && c == 12) = true then "bad register" else ""
theorem operation_fault_con (w : World) (mean : ExcName → Option Value) (mg mb : Str → Option Value) (news : List (Addr × Obj)) (rp : Addr) (x : Str) (a' b' c' : Int) (n : Nat) (t t2 t3 t4 : Tok) (h2 : x.length ≤ 1048576) (hm : (rp, tupO [.str x t, .int a' t2, .int b' t3, .int c' t4] n) ∈ news) : Con 4 w mean mg mb 76 news [.ref rp] (PRet news fun t => .str (opFault x a' b' c') t) NoExc := by
  unfold Con
  w_top off
  k_fill
  intro dp un gd cn cs a ccd cl outer A₀ base h₀ L m s Q E B F X N T hk hd hu hret hexc
  refine wpAny_call ?_
  k_dflt cell_enter
  k_steps
  all_goals (exact hret _ news _ _ (by assumption) (cb_drop (by assumption) (by intro p hp; repeat (first | exact hp | apply List.mem_cons_of_mem))) ⟨⟨_, congrArg (Value.str · _) (by simp [opFault, *])⟩, rfl⟩)
theorem memory_fault_con (w : World) (mean : ExcName → Option Value) (mg mb : Str → Option Value) (news : List (Addr × Obj)) (rp : Addr) (x : Str) (a' b' c' : Int) (n : Nat) (t t2 t3 t4 : Tok) (h2 : x.length ≤ 1048576) (hm : (rp, tupO [.str x t, .int a' t2, .int b' t3, .int c' t4] n) ∈ news) : Con 4 w mean mg mb 83 news [.ref rp] (PRet news fun t => .str (memFault a' b' c') t) NoExc := by
  unfold Con
  w_top off
  k_fill
  intro dp un gd cn cs a ccd cl outer A₀ base h₀ L m s Q E B F X N T hk hd hu hret hexc
  refine wpAny_call ?_
  k_dflt cell_enter
  k_steps
  all_goals (exact hret _ news _ _ (by assumption) (cb_drop (by assumption) (by intro p hp; repeat (first | exact hp | apply List.mem_cons_of_mem))) ⟨⟨_, congrArg (Value.str · _) (by simp [memFault, *])⟩, rfl⟩)
theorem branch_fault_con (w : World) (mean : ExcName → Option Value) (mg mb : Str → Option Value) (news : List (Addr × Obj)) (rp : Addr) (x y : Str) (c' l' : Int) (n : Nat) (t t2 t3 t4 : Tok) (h2 : x.length ≤ 1048576) (hm : (rp, tupO [.str x t, .str y t2, .int c' t3, .int l' t4] n) ∈ news) : Con 4 w mean mg mb 90 news [.ref rp] (PRet news fun t => .str (brFault x y c' l') t) NoExc := by
  unfold Con
  w_top off
  k_fill
  intro dp un gd cn cs a ccd cl outer A₀ base h₀ L m s Q E B F X N T hk hd hu hret hexc
  refine wpAny_call ?_
  k_dflt cell_enter
  k_steps
  all_goals (exact hret _ news _ _ (by assumption) (cb_drop (by assumption) (by intro p hp; repeat (first | exact hp | apply List.mem_cons_of_mem))) ⟨⟨_, congrArg (Value.str · _) (by simp [brFault, *])⟩, rfl⟩)

local macro_rules | `(tactic| walk_at "call ref") => `(tactic| (k_here; (with_reducible show wpAny _ _ (call (Value.ref 76) _) _ _ _); k_dflt (refine' Con.pure (operation_fault_con _ _ _ _ _ _ _ _ _ _ _ _ _ _ _ ?h2 ?hm) ?B ?F ?X ?N ?T ?k ?d ?u ?_; walk_at "m8"; (case hm => k_mem); (case h2 => omega); k_whole); walk_at "mp"))
local macro_rules | `(tactic| walk_at "call ref") => `(tactic| (k_here; (with_reducible show wpAny _ _ (call (Value.ref 83) _) _ _ _); k_dflt (refine' Con.pure (memory_fault_con _ _ _ _ _ _ _ _ _ _ _ _ _ _ _ ?h2 ?hm) ?B ?F ?X ?N ?T ?k ?d ?u ?_; walk_at "m8"; (case hm => k_mem); (case h2 => omega); k_whole); walk_at "mp"))
local macro_rules | `(tactic| walk_at "call ref") => `(tactic| (k_here; (with_reducible show wpAny _ _ (call (Value.ref 90) _) _ _ _); k_dflt (refine' Con.pure (branch_fault_con _ _ _ _ _ _ _ _ _ _ _ _ _ _ _ ?h2 ?hm) ?B ?F ?X ?N ?T ?k ?d ?u ?_; walk_at "m8"; (case hm => k_mem); (case h2 => omega); k_whole); walk_at "mp"))
local macro_rules | `(tactic| k_mem) => `(tactic| first | assumption | exact List.mem_cons_self | (refine List.mem_cons_of_mem _ ?_; k_mem))

def brL : List Str := ["B", "BL", "BR", "BLR", "TRAP"]
def isOpName (x : Str) : Bool := [("MOVH" : Str), "GETH"].any (· == x) || (opsL.any (· == x) || immOp x != "")
def rowFaultI (x : Str) (a b c : Int) : Str := if isOpName x = true then opFault x a b c else if (memL.any (· == x)) = true then memFault a b c else "unknown name"
theorem row_faultI_con (w : World) (mean : ExcName → Option Value) (mg mb : Str → Option Value) (news : List (Addr × Obj)) (rp : Addr) (x : Str) (a' b' c' : Int) (n : Nat) (t t2 t3 t4 : Tok) (h2 : x.length ≤ 1048576) (hm : (rp, tupO [.str x t, .int a' t2, .int b' t3, .int c' t4] n) ∈ news)
    (hb : ([("B" : Str), "BL", "BR", "BLR", "TRAP"].any (· == x)) = false) : Con 6 w mean mg mb 97 news [.ref rp] (PRet news fun t => .str (rowFaultI x a' b' c') t) NoExc := by
  unfold Con
  w_top off
  k_fill
  intro dp un gd cn cs a ccd cl outer A₀ base h₀ L m s Q E B F X N T hk hd hu hret hexc
  refine wpAny_call ?_
  k_dflt cell_enter
  k_steps
  all_goals (exact hret _ news _ _ (by assumption) (cb_drop (by assumption) (by intro p hp; repeat (first | exact hp | apply List.mem_cons_of_mem))) ⟨⟨_, congrArg (Value.str · _) (by simp [rowFaultI, isOpName, *])⟩, rfl⟩)
theorem br_names {x : Str} (h : (brL.any (· == x)) = true) : ([("MOVH" : Str), "GETH"].any (· == x)) = false ∧ (opsL.any (· == x)) = false ∧ (immOp x != Str.ofString "") = false ∧ (memL.any (· == x)) = false ∧ ([("B" : Str), "BL", "BR", "BLR", "TRAP"].any (· == x)) = true := by
  obtain ⟨y, hy, e⟩ := List.any_eq_true.mp h
  obtain rfl : y = x := by simpa using e
  simp only [brL, List.mem_cons, List.not_mem_nil, or_false] at hy
  rcases hy with rfl | rfl | rfl | rfl | rfl <;> decide +kernel
theorem row_faultB_con (w : World) (mean : ExcName → Option Value) (mg mb : Str → Option Value) (news : List (Addr × Obj)) (rp : Addr) (x y : Str) (c' l' : Int) (n : Nat) (t t2 t3 t4 : Tok) (h2 : x.length ≤ 1048576) (hm : (rp, tupO [.str x t, .str y t2, .int c' t3, .int l' t4] n) ∈ news)
    (hb : (brL.any (· == x)) = true) : Con 6 w mean mg mb 97 news [.ref rp] (PRet news fun t => .str (brFault x y c' l') t) NoExc := by
  obtain ⟨q1, q2, q3, q4, q5⟩ := br_names hb
  unfold Con
  w_top off
  k_fill
  intro dp un gd cn cs a ccd cl outer A₀ base h₀ L m s Q E B F X N T hk hd hu hret hexc
  refine wpAny_call ?_
  k_dflt cell_enter
  k_steps
  all_goals (exact hret _ news _ _ (by assumption) (cb_drop (by assumption) (by intro p hp; repeat (first | exact hp | apply List.mem_cons_of_mem))) ⟨⟨_, rfl⟩, rfl⟩)

local macro_rules | `(tactic| walk_at "call ref") => `(tactic| (k_here; (with_reducible show wpAny _ _ (call (Value.ref 97) _) _ _ _); k_dflt (refine' Con.pure (row_faultI_con _ _ _ _ _ _ _ _ _ _ _ _ _ _ _ ?h2 ?hm ?hb) ?B ?F ?X ?N ?T ?k ?d ?u ?_; walk_at "m8"; (case hm => k_mem); (case h2 => first | with_reducible assumption | omega | decide); (case hb => assumption); k_whole); walk_at "mp"))
local macro_rules | `(tactic| walk_at "call ref") => `(tactic| (k_here; (with_reducible show wpAny _ _ (call (Value.ref 97) _) _ _ _); k_dflt (refine' Con.pure (row_faultB_con _ _ _ _ _ _ _ _ _ _ _ _ _ _ _ ?h2 ?hm ?hb) ?B ?F ?X ?N ?T ?k ?d ?u ?_; walk_at "m8"; (case hm => k_mem); (case h2 => first | with_reducible assumption | omega | decide); (case hb => assumption); k_whole); walk_at "mp"))
local macro_rules | `(tactic| k_all) => `(tactic| assumption)
local macro_rules | `(tactic| walk_at "call builtin:len") => `(tactic| (k_here; (with_reducible show wpAny _ _ (call (Value.builtin "len") [Value.ref _]) _ _ _); k_dflt (refine' kst_len ?k1 ?k2 ?k3 ?k4 ?_; (case k1 => k_asm); (case k2 => k_mem); (case k3 => exact StrsAre.length (by assumption)); (case k4 => omega); k_whole)))
local macro_rules | `(tactic| walk_at "subscriptTail") => `(tactic| (k_here; (with_reducible show wpAny _ _ (subscriptTail _ _ (Value.ref _) (Value.int _ _)) _ _ _); (with_unfolding_all (refine' KTb.item_list (News.isList ?k0 ?k1) ?k2 ?k3 ?k4 ?k5 ?_; (case k0 => k_asm); (case k1 => k_mem); (case k2 => assumption); (case k3 => omega); (case k4 => omega); (case k5 => omega))); intro t' hlt'))

theorem news_tail {h₀ h : Heap} {L : Addr} {q : Addr × Obj} {r : List (Addr × Obj)} (N : News h₀ L h (q :: r)) : News h₀ L h r := cb_drop N (fun _ hp => List.mem_cons_of_mem _ hp)
/-- what of a reader never turns -/
structure RdC where
  k1 : Int
  k2 : Int
  k3 : Int
  t1 : Tok
  t2 : Tok
  t3 : Tok
  t4 : Tok
  tl : Addr
  row : Int
abbrev rdD (c : RdC) (p : Int) (t5 : Tok) : Obj := dictOf [⟨c.k1, .str "tokens" c.t1, .ref c.tl⟩, ⟨c.k2, .str "row" c.t2, .int c.row c.t4⟩, ⟨c.k3, .str "place" c.t3, .int p t5⟩] 3
structure RdOk (rd dd : Addr) (c : RdC) (ts : List Str) (news : List (Addr × Obj)) : Prop where
  len : ts.length ≤ 1048576
  sz : ∀ x ∈ ts, x.length ≤ 1048576
  pos : ∀ x ∈ ts, 1 ≤ x.length
  toks : ∃ vs n, StrsAre vs ts ∧ (c.tl, listOf vs.toArray n) ∈ news
  ne : @Ne Nat rd dd
  off : ∀ q ∈ news, q.1 ≠ dd
abbrev rdL (rd dd : Addr) (c : RdC) (p : Int) (t5 : Tok) (news : List (Addr × Obj)) : List (Addr × Obj) := (rd, instObj 238 dd) :: (dd, rdD c p t5) :: news
def takeT (ts : List Str) (p : Int) : Str := if p < (ts.length : Int) then ts.getD p.toNat Str.empty else ""
def takeP (ts : List Str) (p : Int) : Int := if p < (ts.length : Int) then p + 1 else p
theorem takeT_len {ts : List Str} {p : Int} (h : ∀ x ∈ ts, x.length ≤ 1048576) (h0 : 0 ≤ p) : (takeT ts p).length ≤ 1048576 := by
  unfold takeT
  split
  · rename_i hl
    have hn : p.toNat < ts.length := by omega
    rw [List.getD_eq_getElem?_getD, List.getElem?_eq_getElem hn]
    exact h _ (List.getElem_mem hn)
  · decide
theorem takeP_le {ts : List Str} {p : Int} (h0 : 0 ≤ p) : 0 ≤ takeP ts p := by unfold takeP; split <;> omega
/-- a reader's answer: a value, the place turned, all else as it was -/
abbrev RRet (rd dd : Addr) (c : RdC) (news : List (Addr × Obj)) (R : Tok → Value) (p' : Int) (r : Value) (nw : List (Addr × Obj)) : Prop := (∃ t, r = R t) ∧ ∃ t5, nw = rdL rd dd c p' t5 news
theorem take_con (w : World) (mean : ExcName → Option Value) (mg mb : Str → Option Value) (news : List (Addr × Obj)) (rd dd : Addr) (c : RdC) (ts : List Str) (p : Int) (t5 : Tok) (R : RdOk rd dd c ts news) (hp : 0 ≤ p) :
    Con 1 w mean mg mb 179 (rdL rd dd c p t5 news) [.ref rd] (fun r nw => (0 ≤ takeP ts p ∧ (takeT ts p).length ≤ 1048576) ∧ RRet rd dd c news (fun t => .str (takeT ts p) t) (takeP ts p) r nw) NoExc := by
  have hT := takeT_len (p := p) R.sz hp
  have hP := takeP_le (ts := ts) hp
  obtain ⟨hl, hsz, hpos, ⟨vs, nn, hs, hm⟩, hne, hdd⟩ := R
  unfold Con
  w_top off
  k_fill
  intro dp un gd cn cs a ccd cl outer A₀ base h₀ L m s Q E B F X N T hk hd hu hret hexc
  refine wpAny_call ?_
  k_dflt cell_enter
  have hlen := StrsAre.length hs
  k_steps
  · exact hret _ _ _ _ (by assumption) (by assumption) ⟨⟨hP, hT⟩, ⟨_, congrArg (Value.str · _) (by rw [takeT, if_neg (by omega)])⟩, _, by rw [takeP, if_neg (by omega)]⟩
  · exact hret _ _ _ _ (by assumption) (by assumption) ⟨⟨hP, hT⟩, ⟨_, congrArg (Value.str · _) (by rw [takeT, if_pos (by omega)]; congr 2; omega)⟩, _, by rw [takeP, if_pos (by omega)]⟩
theorem fail_con (w : World) (mean : ExcName → Option Value) (mg mb : Str → Option Value) (news : List (Addr × Obj)) (rd dd : Addr) (c : RdC) (p : Int) (t5 : Tok) (what : Str) (t6 : Tok) : Con 1 w mean mg mb 172 (rdL rd dd c p t5 news) [.ref rd, .str what t6] (fun _ _ => False) (fun row x => row = c.row ∧ x = what) := by
  unfold Con
  w_top off
  k_fill
  intro dp un gd cn cs a ccd cl outer A₀ base h₀ L m s Q E B F X N T hk hd hu hret hexc
  refine wpAny_call ?_
  k_dflt cell_enter
  k_steps
  exact hexc _ _ _ _ _ (by assumption) (exc_close (by assumption) (by assumption)).1 (exc_close (by assumption) (by assumption)).2 ⟨rfl, rfl⟩
section
variable {d : Nat} {w : World} {mean : ExcName → Option Value} {mg mb : Str → Option Value} {f : Addr} {news : List (Addr × Obj)} {vs : List Value}
  {dp un : Nat} {gd : Option (List Code)} {cn : Str} {cs : Scope} {a : Addr} {ccd : Value} {cl : List (Str × Addr)} {outer : List Env} {A₀ : Around} {base h₀ : Heap} {L : Addr} {m : Str → Option Value} {s : Shared} {Q E : Value → Shared → Prop}
  (B : Below A₀ base outer h₀) (F : Fr h₀ L s.heap m) (X : (hd.heap_39 w.params).In h₀) (N : News h₀ L s.heap news) (T : Top hd.view_39 (looseW hd.view_39 []) mean mg mb h₀) (hk : cs.kind = .function) (hd : dp + d ≤ 900) (hu : un + 10 * d ≤ 9000)
include B F X N T hk hd hu
theorem Con.useTake {rd dd : Addr} {c : RdC} {nw0 : List (Addr × Obj)} {ts : List Str} {p : Int} (C : Con d w mean mg mb f news vs (fun r nw => (0 ≤ takeP ts p ∧ (takeT ts p).length ≤ 1048576) ∧ RRet rd dd c nw0 (fun t => .str (takeT ts p) t) (takeP ts p) r nw) NoExc)
    (hret : ∀ (t1 t2 : Tok) (h' : Heap) (tk' : Nat), 0 ≤ takeP ts p → (takeT ts p).length ≤ 1048576 → Fr h₀ L h' m → News h₀ L h' (rdL rd dd c (takeP ts p) t2 nw0) → Q (.str (takeT ts p) t1) { s with heap := h', toks := tk' }) :
    wpAny (model PySem.Challenge.rw_nu0335_01.row.prog w) (ktrTop dp un gd cn cs L a ccd cl outer) (call (.ref f) vs) Q E s :=
  C.use B F X N T hk hd hu (fun r nw h' tk' F' N' R' => by obtain ⟨⟨x, y⟩, ⟨t1, e1⟩, t2, e2⟩ := R'; subst e1 e2; exact hret t1 t2 h' tk' x y F' N') (fun _ _ _ _ _ _ _ _ x => x.elim)
theorem Con.useFail {k : Int} {what : Str} (C : Con d w mean mg mb f news vs (fun _ _ => False) (fun row x => row = k ∧ x = what))
    (hexc : ∀ (e : Addr) (h' : Heap) (tk' : Nat), FlyD base (envX cn cs L a ccd cl :: outer) e k what h' → h₀.UpToSlots h' → h'.Ns L m → E (.ref e) { s with heap := h', toks := tk' }) :
    wpAny (model PySem.Challenge.rw_nu0335_01.row.prog w) (ktrTop dp un gd cn cs L a ccd cl outer) (call (.ref f) vs) Q E s :=
  C.use B F X N T hk hd hu (fun _ _ _ _ _ _ x => x.elim) (fun e row wh h' tk' D U S' R' => by obtain ⟨e1, e2⟩ := R'; subst e1 e2; exact hexc e h' tk' D U S')
end

local macro_rules | `(tactic| walk_at "m8r") => `(tactic| ((case B => k_asm); (case F => k_asm); (case X => k_asm); (case N => first | k_asm | exact news_tail (by k_asm) | exact news_tail (news_tail (by k_asm)) | exact news_tail (news_tail (news_tail (by k_asm)))); (case T => k_asm); (case k => ktn_open); (case d => tb_start); (case u => tb_start); (case h1 => assumption); (case h2 => omega)))
local macro_rules | `(tactic| walk_at "mx") => `(tactic| (rotate_left; (intro what' e' h' tk' g' D' U' S'; (try dsimp only)); rotate_left))
local macro_rules | `(tactic| walk_at "mt") => `(tactic| (intro t1' t2' h' tk' hp' hl' F' N'; (try dsimp only); (try k_sweep)))
local macro_rules | `(tactic| walk_at "call ref") => `(tactic| (k_here; (with_reducible show wpAny _ _ (call (Value.ref 179) _) _ _ _); k_dflt (refine' Con.useTake ?B ?F ?X ?N ?T ?k ?d ?u (take_con _ _ _ _ _ _ _ _ _ _ _ ?h1 ?h2) ?_; walk_at "m8r"); walk_at "mt"))
local macro_rules | `(tactic| walk_at "call ref") => `(tactic| (k_here; (with_reducible show wpAny _ _ (call (Value.ref 172) _) _ _ _); k_dflt (refine' Con.useFail ?B ?F ?X ?N ?T ?k ?d ?u (fail_con _ _ _ _ _ _ _ _ _ _ _ _) ?_; (case B => k_asm); (case F => k_asm); (case X => k_asm); (case N => first | k_asm | exact news_tail (by k_asm) | exact news_tail (news_tail (by k_asm)) | exact news_tail (news_tail (news_tail (by k_asm)))); (case T => k_asm); (case k => ktn_open); (case d => tb_start); (case u => tb_start)); intro e' h' tk' D' U' S'; (try dsimp only)))
local macro_rules | `(tactic| walk_at "call ref") => `(tactic| (k_here; (with_reducible show wpAny _ _ (call (Prod.fst _) (_ ++ _)) _ _ _); dsimp only [List.cons_append, List.nil_append]))

section
open PySem.StrLaws PyProof PySem.Builtin PySem.Builtin.Str PySem.NumText
theorem sl_from (a len : Nat) : strSliceIndices (some (a : Int)) none 1 len = strSliceIndices (some ((min a len : Nat) : Int)) (some ((len : Nat) : Int)) 1 len := by
  have h1 : ¬ ((a : Int) < 0) := by omega
  have h2 : ¬ (((min a len : Nat) : Int) < 0) := by omega
  have h3 : ¬ ((len : Int) < 0) := by omega
  have e1 : max (0 : Int) (min (a : Int) (len : Int)) = ((min a len : Nat) : Int) := by omega
  have e2 : max (0 : Int) (min (((min a len : Nat) : Int)) (len : Int)) = ((min a len : Nat) : Int) := by omega
  have e3 : max (0 : Int) (min (len : Int) (len : Int)) = len := by omega
  simp only [strSliceIndices, sliceRange, h1, h2, h3, if_false, e1, e2, e3, show ((1 : Int) > 0) = True from by simp, if_true]
theorem sl_to (b len : Nat) : strSliceIndices none (some (b : Int)) 1 len = strSliceIndices (some ((0 : Nat) : Int)) (some ((min b len : Nat) : Int)) 1 len := by
  have h1 : ¬ ((b : Int) < 0) := by omega
  have h2 : ¬ (((min b len : Nat) : Int) < 0) := by omega
  have h3 : ¬ (((0 : Nat) : Int) < 0) := by omega
  have e1 : max (0 : Int) (min (b : Int) (len : Int)) = ((min b len : Nat) : Int) := by omega
  have e2 : max (0 : Int) (min (((min b len : Nat) : Int)) (len : Int)) = ((min b len : Nat) : Int) := by omega
  have e3 : max (0 : Int) (min ((0 : Nat) : Int) (len : Int)) = 0 := by omega
  simp only [strSliceIndices, sliceRange, h1, h2, h3, if_false, e1, e2, e3, show ((1 : Int) > 0) = True from by simp, if_true]
theorem slice_toList (x : Str) (l u : Option Int) {a b : Nat} (e : strSliceIndices l u 1 x.length = strSliceIndices (some (a : Int)) (some (b : Int)) 1 x.length) (hab : a ≤ b) (hb : b ≤ x.length) : (Txt.slice x l u).cps.toList = (x.cps.toList.drop a).take (b - a) := by
  have hl : x.cps.toList.length = x.length := Array.length_toList
  have hq := sliced_plain x hab hb
  unfold Txt.slice
  split
  · rename_i h
    have h' : b - a = x.length := by simpa [e, strSliceIndices_plain hab hb] using h
    have : a = 0 := by omega
    subst this
    rw [List.drop_zero, List.take_of_length_le (by omega)]
  · rw [e]; exact hq
theorem slice_from1 (x : Str) : (Txt.slice x (some 1) none).cps.toList = x.cps.toList.drop 1 := by
  have hl : x.cps.toList.length = x.length := Array.length_toList
  rw [slice_toList x (some 1) none (sl_from 1 x.length) (by omega) (by omega)]
  by_cases h : x.length = 0
  · rw [List.eq_nil_of_length_eq_zero (by omega : x.cps.toList.length = 0)]; simp
  · rw [show min 1 x.length = 1 by omega, List.take_of_length_le (by simp [hl])]
theorem slice_to1 (x : Str) : (Txt.slice x none (some 1)).cps.toList = x.cps.toList.take 1 := by
  have hl : x.cps.toList.length = x.length := Array.length_toList
  rw [slice_toList x none (some 1) (sl_to 1 x.length) (by omega) (by omega)]
  by_cases h : x.length = 0
  · rw [List.eq_nil_of_length_eq_zero (by omega : x.cps.toList.length = 0)]; simp
  · simp [show min 1 x.length = 1 by omega]
theorem fig_range {n : Nat} (h : isFigureS ⟨#[n]⟩ = true) : 48 ≤ n ∧ n ≤ 57 := by
  simp only [isFigureS, Bool.and_eq_true, Bool.not_eq_true', ltS, decide_eq_false_iff_not] at h
  obtain ⟨h1, h2⟩ := h
  have e0 : (Str.ofString "0").cps.toList = [48] := by decide
  have e9 : (Str.ofString "9").cps.toList = [57] := by decide
  have h1' : ¬ ([n] < [48]) := by have := h1; rw [show ("0" : Str).cps.toList = [48] from e0] at this; exact this
  have h2' : ¬ ([57] < [n]) := by have := h2; rw [show ("9" : Str).cps.toList = [57] from e9] at this; exact this
  simp [List.cons_lt_cons_iff] at h1' h2'
  omega
theorem figs_digits {f : Str} (h : allFigs f = true) : AllDigits f.cps.toList ∧ f.cps.toList ≠ [] := by
  simp only [allFigs, Bool.and_eq_true, Bool.not_eq_true', List.all_eq_true] at h
  refine ⟨fun c hc => fig_range (h.2 (c : Int) ?_), fun e => ?_⟩
  · exact List.mem_map.mpr ⟨c, hc, rfl⟩
  · have : f = Str.ofString "" := by
      obtain ⟨⟨l⟩⟩ := f
      simp at e; subst e; rfl
    rw [this] at h; simp at h
def numS (x : Str) : Int := (PySem.intText? x).getD 0
theorem num_some {x : Str} (h : isNumberS x = true) (hl : x.length ≤ 640) : PySem.intText? x = some (numS x) := by
  have : ∃ n, PySem.intText? x = some n := by
    unfold isNumberS at h
    split at h
    · rename_i h'
      have e : Txt.slice x none (some 1) = Str.ofString "-" := by simpa using h'
      have e1 := slice_to1 x
      rw [e] at e1
      have e2 := slice_from1 x
      obtain ⟨d, hne⟩ := figs_digits h
      rw [e2] at d hne
      cases hc : x.cps.toList with
      | nil => rw [hc] at hne; simp at hne
      | cons c cs =>
        rw [hc] at e1 d hne
        rw [show (Str.ofString "-").cps.toList = [45] by decide] at e1
        have : c = 45 := by simpa using e1.symm
        subst this
        exact ⟨_, intText_neg hc d hne (by omega)⟩
    · obtain ⟨d, hne⟩ := figs_digits h
      exact ⟨_, intText_digits d hne (by omega)⟩
  obtain ⟨n, hn⟩ := this
  simp [numS, hn]
theorem num_len {x : Str} (h : isNumberS x = true) : 1 ≤ x.length := by
  have hl : x.cps.toList.length = x.length := Array.length_toList
  unfold isNumberS at h
  split at h
  · obtain ⟨_, hne⟩ := figs_digits h
    rw [slice_from1] at hne
    have : x.cps.toList ≠ [] := by intro e; rw [e] at hne; simp at hne
    have := List.length_pos_iff.mpr this
    omega
  · obtain ⟨_, hne⟩ := figs_digits h
    have := List.length_pos_iff.mpr hne
    omega
theorem num_tail {x : Str} (h : isNumberS (Txt.slice x (some 1) none) = true) : 2 ≤ x.length := by
  have hl : x.cps.toList.length = x.length := Array.length_toList
  have h1 := num_len h
  have hl2 : (Txt.slice x (some 1) none).cps.toList.length = (Txt.slice x (some 1) none).length := Array.length_toList
  rw [slice_from1, List.length_drop] at hl2
  omega
end

local macro_rules | `(tactic| walk_at "call type:int") => `(tactic| (k_here; (with_reducible show wpAny _ _ (call (Value.type "int") [Value.str _ _]) _ _ _); k_dflt (refine' KIN.call_text (num_some ?h0 ?h1) ?h2 ?_; (case h0 => with_reducible assumption); (case h1 => omega); (case h2 => omega); k_whole)))

theorem not_and_l {a b : Prop} (h : ¬ a) : ¬ (a ∧ b) := fun x => h x.1
theorem not_and_r {a b : Prop} (h : ¬ b) : ¬ (a ∧ b) := fun x => h x.2
theorem ifp {α : Type} {c : Prop} [Decidable c] {a b x : α} (h : c) (e : a = x) : (if c then a else b) = x := by rw [if_pos h]; exact e
theorem ifn {α : Type} {c : Prop} [Decidable c] {a b x : α} (h : ¬ c) (e : b = x) : (if c then a else b) = x := by rw [if_neg h]; exact e
theorem bind_ok {α β : Type} {f : Except Str α} {g : α → Except Str β} {q : α} {x : Except Str β} (h : f = .ok q) (k : g q = x) : f.bind g = x := by subst h; exact k
theorem bind_err {α β : Type} {f : Except Str α} {g : α → Except Str β} {e : Str} (h : f = .error e) : f.bind g = .error e := by subst h; rfl
/-- a reader's step: a value and the new place, or a fault -/
abbrev RStep (rd dd : Addr) (c : RdC) (news : List (Addr × Obj)) {α : Type} (V : α → Tok → Value) (f : Except Str (α × Int)) (r : Value) (nw : List (Addr × Obj)) : Prop := ∃ v p', f = .ok (v, p') ∧ 0 ≤ p' ∧ RRet rd dd c news (V v) p' r nw
abbrev RBad {α : Type} (c : RdC) (f : Except Str (α × Int)) (row : Int) (x : Str) : Prop := row = c.row ∧ f = .error x
def expectF (ts : List Str) (sign : Str) (p : Int) : Except Str (Unit × Int) := if (takeT ts p != sign) = true then .error (Str.ofString "expected " ++ sign) else .ok ((), takeP ts p)
theorem expect_con (w : World) (mean : ExcName → Option Value) (mg mb : Str → Option Value) (news : List (Addr × Obj)) (rd dd : Addr) (c : RdC) (ts : List Str) (p : Int) (t5 : Tok) (R : RdOk rd dd c ts news) (hp : 0 ≤ p) (sign : Str) (t6 : Tok) (hs : sign.length ≤ 9) :
    Con 3 w mean mg mb 186 (rdL rd dd c p t5 news) [.ref rd, .str sign t6] (RStep rd dd c news (fun _ _ => .none) (expectF ts sign p)) (RBad c (expectF ts sign p)) := by
  unfold Con
  w_top off
  k_fill
  intro dp un gd cn cs a ccd cl outer A₀ base h₀ L m s Q E B F X N T hk hd hu hret hexc
  refine wpAny_call ?_
  k_dflt cell_enter
  k_steps
  · exact hexc _ _ _ _ _ (by assumption) (exc_close (by assumption) (by assumption)).1 (exc_close (by assumption) (by assumption)).2 ⟨rfl, if_pos (by assumption)⟩
  · exact hret _ _ _ _ (by assumption) (by assumption) ⟨_, _, if_neg (by simp [*]), by assumption, ⟨0, rfl⟩, _, rfl⟩
section
variable {d : Nat} {w : World} {mean : ExcName → Option Value} {mg mb : Str → Option Value} {f : Addr} {news : List (Addr × Obj)} {vs : List Value}
  {dp un : Nat} {gd : Option (List Code)} {cn : Str} {cs : Scope} {a : Addr} {ccd : Value} {cl : List (Str × Addr)} {outer : List Env} {A₀ : Around} {base h₀ : Heap} {L : Addr} {m : Str → Option Value} {s : Shared} {Q E : Value → Shared → Prop}
  (B : Below A₀ base outer h₀) (F : Fr h₀ L s.heap m) (X : (hd.heap_39 w.params).In h₀) (N : News h₀ L s.heap news) (T : Top hd.view_39 (looseW hd.view_39 []) mean mg mb h₀) (hk : cs.kind = .function) (hd : dp + d ≤ 900) (hu : un + 10 * d ≤ 9000)
include B F X N T hk hd hu
theorem Con.useStep {rd dd : Addr} {c : RdC} {nw0 : List (Addr × Obj)} {α : Type} {V : α → Tok → Value} {g : Except Str (α × Int)} (C : Con d w mean mg mb f news vs (RStep rd dd c nw0 V g) (RBad c g))
    (hret : ∀ (v : α) (p' : Int) (t1 t2 : Tok) (h' : Heap) (tk' : Nat), g = .ok (v, p') → 0 ≤ p' → Fr h₀ L h' m → News h₀ L h' (rdL rd dd c p' t2 nw0) → Q (V v t1) { s with heap := h', toks := tk' })
    (hexc : ∀ (what : Str) (e : Addr) (h' : Heap) (tk' : Nat), g = .error what → FlyD base (envX cn cs L a ccd cl :: outer) e c.row what h' → h₀.UpToSlots h' → h'.Ns L m → E (.ref e) { s with heap := h', toks := tk' }) :
    wpAny (model PySem.Challenge.rw_nu0335_01.row.prog w) (ktrTop dp un gd cn cs L a ccd cl outer) (call (.ref f) vs) Q E s :=
  C.use B F X N T hk hd hu (fun r nw h' tk' F' N' R' => by obtain ⟨v, p', x, y, ⟨t1, e1⟩, t2, e2⟩ := R'; subst e1 e2; exact hret v p' t1 t2 h' tk' x y F' N') (fun e row what h' tk' D U S' R' => by obtain ⟨e1, e2⟩ := R'; subst e1; exact hexc what e h' tk' e2 D U S')
end

local macro_rules | `(tactic| walk_at "ms") => `(tactic| (walk_at "mx"; (intro v' p' t1' t2' h' tk' g' hp' F' N'; (try dsimp only); (try k_sweep))))
local macro_rules | `(tactic| walk_at "call ref") => `(tactic| (k_here; (with_reducible show wpAny _ _ (call (Value.ref 186) _) _ _ _); k_dflt (refine' Con.useStep ?B ?F ?X ?N ?T ?k ?d ?u (expect_con _ _ _ _ _ _ _ _ _ _ _ ?h1 ?h2 _ _ ?h3) ?_ ?_; walk_at "m8r"; (case h3 => decide)); walk_at "ms"))

def registerF (ts : List Str) (p : Int) : Except Str (Int × Int) :=
  if (Txt.slice (takeT ts p) none (some 1) != Str.ofString "R") = true then .error "expected a register"
  else if isNumberS (Txt.slice (takeT ts p) (some 1) none) = false then .error "expected a register"
  else if 3 < (takeT ts p).length then .error "expected a register"
  else if (Txt.item (takeT ts p) 1 == Str.ofString "-") = true then .error "expected a register"
  else if 15 < numS (Txt.slice (takeT ts p) (some 1) none) then .error "expected a register"
  else if (takeT ts p).length = 3 ∧ (Txt.item (takeT ts p) 1 == Str.ofString "0") = true then .error "expected a register"
  else .ok (numS (Txt.slice (takeT ts p) (some 1) none), takeP ts p)
def wholeF (ts : List Str) (p : Int) : Except Str (Int × Int) :=
  if isNumberS (takeT ts p) = false then .error "expected a number"
  else if 13 < (takeT ts p).length then .error "number too large"
  else if (takeT ts p).length = 13 ∧ (Txt.item (takeT ts p) 0 != Str.ofString "-") = true then .error "number too large"
  else .ok (numS (takeT ts p), takeP ts p)
section
local macro_rules | `(tactic| walk_at "subscriptTail Name Constant str int") => `(tactic| (k_here; (have hq' := num_tail (by with_reducible assumption)); k_dflt (refine item_str (by decide) (by omega) (by omega) ?_); intro _))
theorem register_con (w : World) (mean : ExcName → Option Value) (mg mb : Str → Option Value) (news : List (Addr × Obj)) (rd dd : Addr) (c : RdC) (ts : List Str) (p : Int) (t5 : Tok) (R : RdOk rd dd c ts news) (hp : 0 ≤ p) :
    Con 5 w mean mg mb 193 (rdL rd dd c p t5 news) [.ref rd] (RStep rd dd c news (fun v t => .int v t) (registerF ts p)) (RBad c (registerF ts p)) := by
  unfold Con
  w_top off
  k_fill
  intro dp un gd cn cs a ccd cl outer A₀ base h₀ L m s Q E B F X N T hk hd hu hret hexc
  refine wpAny_call ?_
  k_dflt cell_enter
  k_steps
  all_goals first
    | exact hexc _ _ _ _ _ (by assumption) (exc_close (by assumption) (by assumption)).1 (exc_close (by assumption) (by assumption)).2 ⟨rfl, by unfold registerF; (((repeat (first | ((with_reducible refine ifp ?_ ?_); · with_reducible assumption) | ((with_reducible refine ifn ?_ ?_); · (first | (with_reducible refine ne_true_of_eq_false ?_; with_reducible assumption) | (with_reducible refine ne_false_of_eq_true ?_; with_reducible assumption) | (with_reducible assumption))) | ((with_reducible refine bind_ok (by with_reducible assumption) ?_); try dsimp only) | ((with_reducible refine ifp ?_ ?_); · (first | (with_reducible assumption) | omega | (with_reducible exact ⟨by omega, by with_reducible assumption⟩))) | ((with_reducible refine ifn ?_ ?_); · (first | (with_reducible refine ne_true_of_eq_false ?_; with_reducible assumption) | (with_reducible refine ne_false_of_eq_true ?_; with_reducible assumption) | omega | (with_reducible refine not_and_l ?_; omega) | (with_reducible refine not_and_r ?_; with_reducible refine ne_true_of_eq_false ?_; with_reducible assumption))))); first | done | (with_reducible exact bind_err (by with_reducible assumption)) | (with_reducible assumption) | (with_reducible exact rfl)))⟩
    | exact hret _ _ _ _ (by assumption) (by assumption) ⟨_, _, by unfold registerF; (((repeat (first | ((with_reducible refine ifp ?_ ?_); · with_reducible assumption) | ((with_reducible refine ifn ?_ ?_); · (first | (with_reducible refine ne_true_of_eq_false ?_; with_reducible assumption) | (with_reducible refine ne_false_of_eq_true ?_; with_reducible assumption) | (with_reducible assumption))) | ((with_reducible refine bind_ok (by with_reducible assumption) ?_); try dsimp only) | ((with_reducible refine ifp ?_ ?_); · (first | (with_reducible assumption) | omega | (with_reducible exact ⟨by omega, by with_reducible assumption⟩))) | ((with_reducible refine ifn ?_ ?_); · (first | (with_reducible refine ne_true_of_eq_false ?_; with_reducible assumption) | (with_reducible refine ne_false_of_eq_true ?_; with_reducible assumption) | omega | (with_reducible refine not_and_l ?_; omega) | (with_reducible refine not_and_r ?_; with_reducible refine ne_true_of_eq_false ?_; with_reducible assumption))))); first | done | (with_reducible exact bind_err (by with_reducible assumption)) | (with_reducible assumption) | (with_reducible exact rfl))), by assumption, ⟨_, rfl⟩, _, rfl⟩
end
theorem whole_con (w : World) (mean : ExcName → Option Value) (mg mb : Str → Option Value) (news : List (Addr × Obj)) (rd dd : Addr) (c : RdC) (ts : List Str) (p : Int) (t5 : Tok) (R : RdOk rd dd c ts news) (hp : 0 ≤ p) :
    Con 5 w mean mg mb 200 (rdL rd dd c p t5 news) [.ref rd] (RStep rd dd c news (fun v t => .int v t) (wholeF ts p)) (RBad c (wholeF ts p)) := by
  unfold Con
  w_top off
  k_fill
  intro dp un gd cn cs a ccd cl outer A₀ base h₀ L m s Q E B F X N T hk hd hu hret hexc
  refine wpAny_call ?_
  k_dflt cell_enter
  k_steps
  all_goals first
    | exact hexc _ _ _ _ _ (by assumption) (exc_close (by assumption) (by assumption)).1 (exc_close (by assumption) (by assumption)).2 ⟨rfl, by unfold wholeF; (((repeat (first | ((with_reducible refine ifp ?_ ?_); · with_reducible assumption) | ((with_reducible refine ifn ?_ ?_); · (first | (with_reducible refine ne_true_of_eq_false ?_; with_reducible assumption) | (with_reducible refine ne_false_of_eq_true ?_; with_reducible assumption) | (with_reducible assumption))) | ((with_reducible refine bind_ok (by with_reducible assumption) ?_); try dsimp only) | ((with_reducible refine ifp ?_ ?_); · (first | (with_reducible assumption) | omega | (with_reducible exact ⟨by omega, by with_reducible assumption⟩))) | ((with_reducible refine ifn ?_ ?_); · (first | (with_reducible refine ne_true_of_eq_false ?_; with_reducible assumption) | (with_reducible refine ne_false_of_eq_true ?_; with_reducible assumption) | omega | (with_reducible refine not_and_l ?_; omega) | (with_reducible refine not_and_r ?_; with_reducible refine ne_true_of_eq_false ?_; with_reducible assumption))))); first | done | (with_reducible exact bind_err (by with_reducible assumption)) | (with_reducible assumption) | (with_reducible exact rfl)))⟩
    | exact hret _ _ _ _ (by assumption) (by assumption) ⟨_, _, by unfold wholeF; (((repeat (first | ((with_reducible refine ifp ?_ ?_); · with_reducible assumption) | ((with_reducible refine ifn ?_ ?_); · (first | (with_reducible refine ne_true_of_eq_false ?_; with_reducible assumption) | (with_reducible refine ne_false_of_eq_true ?_; with_reducible assumption) | (with_reducible assumption))) | ((with_reducible refine bind_ok (by with_reducible assumption) ?_); try dsimp only) | ((with_reducible refine ifp ?_ ?_); · (first | (with_reducible assumption) | omega | (with_reducible exact ⟨by omega, by with_reducible assumption⟩))) | ((with_reducible refine ifn ?_ ?_); · (first | (with_reducible refine ne_true_of_eq_false ?_; with_reducible assumption) | (with_reducible refine ne_false_of_eq_true ?_; with_reducible assumption) | omega | (with_reducible refine not_and_l ?_; omega) | (with_reducible refine not_and_r ?_; with_reducible refine ne_true_of_eq_false ?_; with_reducible assumption))))); first | done | (with_reducible exact bind_err (by with_reducible assumption)) | (with_reducible assumption) | (with_reducible exact rfl))), by assumption, ⟨_, rfl⟩, _, rfl⟩

local macro_rules | `(tactic| walk_at "call ref") => `(tactic| (k_here; (with_reducible show wpAny _ _ (call (Value.ref 193) _) _ _ _); k_dflt (refine' Con.useStep ?B ?F ?X ?N ?T ?k ?d ?u (register_con _ _ _ _ _ _ _ _ _ _ _ ?h1 ?h2) ?_ ?_; walk_at "m8r"); walk_at "ms"))
local macro_rules | `(tactic| walk_at "call ref") => `(tactic| (k_here; (with_reducible show wpAny _ _ (call (Value.ref 200) _) _ _ _); k_dflt (refine' Con.useStep ?B ?F ?X ?N ?T ?k ?d ?u (whole_con _ _ _ _ _ _ _ _ _ _ _ ?h1 ?h2) ?_ ?_; walk_at "m8r"); walk_at "ms"))

def nextRegF (ts : List Str) (p : Int) : Except Str (Int × Int) := (expectF ts (Str.ofString ",") p).bind fun q => registerF ts q.2
def nextWholeF (ts : List Str) (p : Int) : Except Str (Int × Int) := (expectF ts (Str.ofString ",") p).bind fun q => wholeF ts q.2
def conditionF (ts : List Str) (p : Int) : Except Str (Str × Int) := if (condL.any (fun y => y == takeT ts p)) = true then .ok (takeT ts p, takeP ts p) else .error (Str.ofString "expected a condition")
def finishF (ts : List Str) (p : Int) : Except Str (Unit × Int) := if p < (ts.length : Int) then .error (Str.ofString "too many operands") else .ok ((), p)
abbrev RStrS (rd dd : Addr) (c : RdC) (news : List (Addr × Obj)) (f : Except Str (Str × Int)) (r : Value) (nw : List (Addr × Obj)) : Prop := ∃ v p', f = .ok (v, p') ∧ 0 ≤ p' ∧ v.length ≤ 1048576 ∧ RRet rd dd c news (fun t => .str v t) p' r nw
def tgtV (v : Sum Str Int) (t : Tok) : Value := match v with | .inl x => .str x t | .inr n => .int n t
def targetF (ts : List Str) (p : Int) : Except Str (Sum Str Int × Int) := (expectF ts (Str.ofString ",") p).bind fun q =>
  if q.2 < (ts.length : Int) then (if isLetterS (Txt.item (ts.getD q.2.toNat Str.empty) 0) = true then .ok (.inl (takeT ts q.2), takeP ts q.2) else (wholeF ts q.2).bind fun n => .ok (.inr n.1, n.2)) else (wholeF ts q.2).bind fun n => .ok (.inr n.1, n.2)
theorem next_register_con (w : World) (mean : ExcName → Option Value) (mg mb : Str → Option Value) (news : List (Addr × Obj)) (rd dd : Addr) (c : RdC) (ts : List Str) (p : Int) (t5 : Tok) (R : RdOk rd dd c ts news) (hp : 0 ≤ p) :
    Con 6 w mean mg mb 207 (rdL rd dd c p t5 news) [.ref rd] (RStep rd dd c news (fun v t => .int v t) (nextRegF ts p)) (RBad c (nextRegF ts p)) := by
  unfold Con
  w_top off
  k_fill
  intro dp un gd cn cs a ccd cl outer A₀ base h₀ L m s Q E B F X N T hk hd hu hret hexc
  refine wpAny_call ?_
  k_dflt cell_enter
  k_steps
  all_goals first
    | exact hexc _ _ _ _ _ (by assumption) (exc_close (by assumption) (by assumption)).1 (exc_close (by assumption) (by assumption)).2 ⟨rfl, by unfold nextRegF; (((repeat (first | ((with_reducible refine ifp ?_ ?_); · with_reducible assumption) | ((with_reducible refine ifn ?_ ?_); · (first | (with_reducible refine ne_true_of_eq_false ?_; with_reducible assumption) | (with_reducible refine ne_false_of_eq_true ?_; with_reducible assumption) | (with_reducible assumption))) | ((with_reducible refine bind_ok (by with_reducible assumption) ?_); try dsimp only) | ((with_reducible refine ifp ?_ ?_); · (first | (with_reducible assumption) | omega | (with_reducible exact ⟨by omega, by with_reducible assumption⟩))) | ((with_reducible refine ifn ?_ ?_); · (first | (with_reducible refine ne_true_of_eq_false ?_; with_reducible assumption) | (with_reducible refine ne_false_of_eq_true ?_; with_reducible assumption) | omega | (with_reducible refine not_and_l ?_; omega) | (with_reducible refine not_and_r ?_; with_reducible refine ne_true_of_eq_false ?_; with_reducible assumption))))); first | done | (with_reducible exact bind_err (by with_reducible assumption)) | (with_reducible assumption) | (with_reducible exact rfl)))⟩
    | exact hret _ _ _ _ (by assumption) (by assumption) ⟨_, _, by unfold nextRegF; (((repeat (first | ((with_reducible refine ifp ?_ ?_); · with_reducible assumption) | ((with_reducible refine ifn ?_ ?_); · (first | (with_reducible refine ne_true_of_eq_false ?_; with_reducible assumption) | (with_reducible refine ne_false_of_eq_true ?_; with_reducible assumption) | (with_reducible assumption))) | ((with_reducible refine bind_ok (by with_reducible assumption) ?_); try dsimp only) | ((with_reducible refine ifp ?_ ?_); · (first | (with_reducible assumption) | omega | (with_reducible exact ⟨by omega, by with_reducible assumption⟩))) | ((with_reducible refine ifn ?_ ?_); · (first | (with_reducible refine ne_true_of_eq_false ?_; with_reducible assumption) | (with_reducible refine ne_false_of_eq_true ?_; with_reducible assumption) | omega | (with_reducible refine not_and_l ?_; omega) | (with_reducible refine not_and_r ?_; with_reducible refine ne_true_of_eq_false ?_; with_reducible assumption))))); first | done | (with_reducible exact bind_err (by with_reducible assumption)) | (with_reducible assumption) | (with_reducible exact rfl))), by assumption, ⟨_, rfl⟩, _, rfl⟩
theorem next_whole_con (w : World) (mean : ExcName → Option Value) (mg mb : Str → Option Value) (news : List (Addr × Obj)) (rd dd : Addr) (c : RdC) (ts : List Str) (p : Int) (t5 : Tok) (R : RdOk rd dd c ts news) (hp : 0 ≤ p) :
    Con 6 w mean mg mb 214 (rdL rd dd c p t5 news) [.ref rd] (RStep rd dd c news (fun v t => .int v t) (nextWholeF ts p)) (RBad c (nextWholeF ts p)) := by
  unfold Con
  w_top off
  k_fill
  intro dp un gd cn cs a ccd cl outer A₀ base h₀ L m s Q E B F X N T hk hd hu hret hexc
  refine wpAny_call ?_
  k_dflt cell_enter
  k_steps
  all_goals first
    | exact hexc _ _ _ _ _ (by assumption) (exc_close (by assumption) (by assumption)).1 (exc_close (by assumption) (by assumption)).2 ⟨rfl, by unfold nextWholeF; (((repeat (first | ((with_reducible refine ifp ?_ ?_); · with_reducible assumption) | ((with_reducible refine ifn ?_ ?_); · (first | (with_reducible refine ne_true_of_eq_false ?_; with_reducible assumption) | (with_reducible refine ne_false_of_eq_true ?_; with_reducible assumption) | (with_reducible assumption))) | ((with_reducible refine bind_ok (by with_reducible assumption) ?_); try dsimp only) | ((with_reducible refine ifp ?_ ?_); · (first | (with_reducible assumption) | omega | (with_reducible exact ⟨by omega, by with_reducible assumption⟩))) | ((with_reducible refine ifn ?_ ?_); · (first | (with_reducible refine ne_true_of_eq_false ?_; with_reducible assumption) | (with_reducible refine ne_false_of_eq_true ?_; with_reducible assumption) | omega | (with_reducible refine not_and_l ?_; omega) | (with_reducible refine not_and_r ?_; with_reducible refine ne_true_of_eq_false ?_; with_reducible assumption))))); first | done | (with_reducible exact bind_err (by with_reducible assumption)) | (with_reducible assumption) | (with_reducible exact rfl)))⟩
    | exact hret _ _ _ _ (by assumption) (by assumption) ⟨_, _, by unfold nextWholeF; (((repeat (first | ((with_reducible refine ifp ?_ ?_); · with_reducible assumption) | ((with_reducible refine ifn ?_ ?_); · (first | (with_reducible refine ne_true_of_eq_false ?_; with_reducible assumption) | (with_reducible refine ne_false_of_eq_true ?_; with_reducible assumption) | (with_reducible assumption))) | ((with_reducible refine bind_ok (by with_reducible assumption) ?_); try dsimp only) | ((with_reducible refine ifp ?_ ?_); · (first | (with_reducible assumption) | omega | (with_reducible exact ⟨by omega, by with_reducible assumption⟩))) | ((with_reducible refine ifn ?_ ?_); · (first | (with_reducible refine ne_true_of_eq_false ?_; with_reducible assumption) | (with_reducible refine ne_false_of_eq_true ?_; with_reducible assumption) | omega | (with_reducible refine not_and_l ?_; omega) | (with_reducible refine not_and_r ?_; with_reducible refine ne_true_of_eq_false ?_; with_reducible assumption))))); first | done | (with_reducible exact bind_err (by with_reducible assumption)) | (with_reducible assumption) | (with_reducible exact rfl))), by assumption, ⟨_, rfl⟩, _, rfl⟩
theorem condition_con (w : World) (mean : ExcName → Option Value) (mg mb : Str → Option Value) (news : List (Addr × Obj)) (rd dd : Addr) (c : RdC) (ts : List Str) (p : Int) (t5 : Tok) (R : RdOk rd dd c ts news) (hp : 0 ≤ p) :
    Con 6 w mean mg mb 221 (rdL rd dd c p t5 news) [.ref rd] (RStrS rd dd c news (conditionF ts p)) (RBad c (conditionF ts p)) := by
  unfold Con
  w_top off
  k_fill
  intro dp un gd cn cs a ccd cl outer A₀ base h₀ L m s Q E B F X N T hk hd hu hret hexc
  refine wpAny_call ?_
  k_dflt cell_enter
  k_steps
  all_goals first
    | exact hexc _ _ _ _ _ (by assumption) (exc_close (by assumption) (by assumption)).1 (exc_close (by assumption) (by assumption)).2 ⟨rfl, by unfold conditionF; (((repeat (first | ((with_reducible refine ifp ?_ ?_); · with_reducible assumption) | ((with_reducible refine ifn ?_ ?_); · (first | (with_reducible refine ne_true_of_eq_false ?_; with_reducible assumption) | (with_reducible refine ne_false_of_eq_true ?_; with_reducible assumption) | (with_reducible assumption))) | ((with_reducible refine bind_ok (by with_reducible assumption) ?_); try dsimp only) | ((with_reducible refine ifp ?_ ?_); · (first | (with_reducible assumption) | omega | (with_reducible exact ⟨by omega, by with_reducible assumption⟩))) | ((with_reducible refine ifn ?_ ?_); · (first | (with_reducible refine ne_true_of_eq_false ?_; with_reducible assumption) | (with_reducible refine ne_false_of_eq_true ?_; with_reducible assumption) | omega | (with_reducible refine not_and_l ?_; omega) | (with_reducible refine not_and_r ?_; with_reducible refine ne_true_of_eq_false ?_; with_reducible assumption))))); first | done | (with_reducible exact bind_err (by with_reducible assumption)) | (with_reducible assumption) | (with_reducible exact rfl)))⟩
    | exact hret _ _ _ _ (by assumption) (news_tail (by assumption)) ⟨_, _, by unfold conditionF; (((repeat (first | ((with_reducible refine ifp ?_ ?_); · with_reducible assumption) | ((with_reducible refine ifn ?_ ?_); · (first | (with_reducible refine ne_true_of_eq_false ?_; with_reducible assumption) | (with_reducible refine ne_false_of_eq_true ?_; with_reducible assumption) | (with_reducible assumption))) | ((with_reducible refine bind_ok (by with_reducible assumption) ?_); try dsimp only) | ((with_reducible refine ifp ?_ ?_); · (first | (with_reducible assumption) | omega | (with_reducible exact ⟨by omega, by with_reducible assumption⟩))) | ((with_reducible refine ifn ?_ ?_); · (first | (with_reducible refine ne_true_of_eq_false ?_; with_reducible assumption) | (with_reducible refine ne_false_of_eq_true ?_; with_reducible assumption) | omega | (with_reducible refine not_and_l ?_; omega) | (with_reducible refine not_and_r ?_; with_reducible refine ne_true_of_eq_false ?_; with_reducible assumption))))); first | done | (with_reducible exact bind_err (by with_reducible assumption)) | (with_reducible assumption) | (with_reducible exact rfl))), by assumption, by assumption, ⟨_, rfl⟩, _, rfl⟩
theorem finish_con (w : World) (mean : ExcName → Option Value) (mg mb : Str → Option Value) (news : List (Addr × Obj)) (rd dd : Addr) (c : RdC) (ts : List Str) (p : Int) (t5 : Tok) (R : RdOk rd dd c ts news) (hp : 0 ≤ p) :
    Con 6 w mean mg mb 235 (rdL rd dd c p t5 news) [.ref rd] (RStep rd dd c news (fun _ _ => .none) (finishF ts p)) (RBad c (finishF ts p)) := by
  have R' := R
  obtain ⟨hl, hsz, hpos, ⟨vs, nn, hs, hm⟩, hne, hdd⟩ := R'
  unfold Con
  w_top off
  k_fill
  intro dp un gd cn cs a ccd cl outer A₀ base h₀ L m s Q E B F X N T hk hd hu hret hexc
  refine wpAny_call ?_
  k_dflt cell_enter
  have hlen := StrsAre.length hs
  k_steps
  all_goals first
    | exact hexc _ _ _ _ _ (by assumption) (exc_close (by assumption) (by assumption)).1 (exc_close (by assumption) (by assumption)).2 ⟨rfl, by unfold finishF; (((repeat (first | ((with_reducible refine ifp ?_ ?_); · with_reducible assumption) | ((with_reducible refine ifn ?_ ?_); · (first | (with_reducible refine ne_true_of_eq_false ?_; with_reducible assumption) | (with_reducible refine ne_false_of_eq_true ?_; with_reducible assumption) | (with_reducible assumption))) | ((with_reducible refine bind_ok (by with_reducible assumption) ?_); try dsimp only) | ((with_reducible refine ifp ?_ ?_); · (first | (with_reducible assumption) | omega | (with_reducible exact ⟨by omega, by with_reducible assumption⟩))) | ((with_reducible refine ifn ?_ ?_); · (first | (with_reducible refine ne_true_of_eq_false ?_; with_reducible assumption) | (with_reducible refine ne_false_of_eq_true ?_; with_reducible assumption) | omega | (with_reducible refine not_and_l ?_; omega) | (with_reducible refine not_and_r ?_; with_reducible refine ne_true_of_eq_false ?_; with_reducible assumption))))); first | done | (with_reducible exact bind_err (by with_reducible assumption)) | (with_reducible assumption) | (with_reducible exact rfl)))⟩
    | exact hret _ _ _ _ (by assumption) (by assumption) ⟨_, _, by unfold finishF; (((repeat (first | ((with_reducible refine ifp ?_ ?_); · with_reducible assumption) | ((with_reducible refine ifn ?_ ?_); · (first | (with_reducible refine ne_true_of_eq_false ?_; with_reducible assumption) | (with_reducible refine ne_false_of_eq_true ?_; with_reducible assumption) | (with_reducible assumption))) | ((with_reducible refine bind_ok (by with_reducible assumption) ?_); try dsimp only) | ((with_reducible refine ifp ?_ ?_); · (first | (with_reducible assumption) | omega | (with_reducible exact ⟨by omega, by with_reducible assumption⟩))) | ((with_reducible refine ifn ?_ ?_); · (first | (with_reducible refine ne_true_of_eq_false ?_; with_reducible assumption) | (with_reducible refine ne_false_of_eq_true ?_; with_reducible assumption) | omega | (with_reducible refine not_and_l ?_; omega) | (with_reducible refine not_and_r ?_; with_reducible refine ne_true_of_eq_false ?_; with_reducible assumption))))); first | done | (with_reducible exact bind_err (by with_reducible assumption)) | (with_reducible assumption) | (with_reducible exact rfl))), by assumption, ⟨0, rfl⟩, _, rfl⟩
section
variable {d : Nat} {w : World} {mean : ExcName → Option Value} {mg mb : Str → Option Value} {f : Addr} {news : List (Addr × Obj)} {vs : List Value}
  {dp un : Nat} {gd : Option (List Code)} {cn : Str} {cs : Scope} {a : Addr} {ccd : Value} {cl : List (Str × Addr)} {outer : List Env} {A₀ : Around} {base h₀ : Heap} {L : Addr} {m : Str → Option Value} {s : Shared} {Q E : Value → Shared → Prop}
  (B : Below A₀ base outer h₀) (F : Fr h₀ L s.heap m) (X : (hd.heap_39 w.params).In h₀) (N : News h₀ L s.heap news) (T : Top hd.view_39 (looseW hd.view_39 []) mean mg mb h₀) (hk : cs.kind = .function) (hd : dp + d ≤ 900) (hu : un + 10 * d ≤ 9000)
include B F X N T hk hd hu
theorem Con.useStrS {rd dd : Addr} {c : RdC} {nw0 : List (Addr × Obj)} {g : Except Str (Str × Int)} (C : Con d w mean mg mb f news vs (RStrS rd dd c nw0 g) (RBad c g))
    (hret : ∀ (v : Str) (p' : Int) (t1 t2 : Tok) (h' : Heap) (tk' : Nat), g = .ok (v, p') → 0 ≤ p' → v.length ≤ 1048576 → Fr h₀ L h' m → News h₀ L h' (rdL rd dd c p' t2 nw0) → Q (.str v t1) { s with heap := h', toks := tk' })
    (hexc : ∀ (what : Str) (e : Addr) (h' : Heap) (tk' : Nat), g = .error what → FlyD base (envX cn cs L a ccd cl :: outer) e c.row what h' → h₀.UpToSlots h' → h'.Ns L m → E (.ref e) { s with heap := h', toks := tk' }) :
    wpAny (model PySem.Challenge.rw_nu0335_01.row.prog w) (ktrTop dp un gd cn cs L a ccd cl outer) (call (.ref f) vs) Q E s :=
  C.use B F X N T hk hd hu (fun r nw h' tk' F' N' R' => by obtain ⟨v, p', x, y, z, ⟨t1, e1⟩, t2, e2⟩ := R'; subst e1 e2; exact hret v p' t1 t2 h' tk' x y z F' N') (fun e row what h' tk' D U S' R' => by obtain ⟨e1, e2⟩ := R'; subst e1; exact hexc what e h' tk' e2 D U S')
end

local macro_rules | `(tactic| walk_at "mc") => `(tactic| (walk_at "mx"; (intro v' p' t1' t2' h' tk' g' hp' hl' F' N'; (try dsimp only); (try k_sweep))))
local macro_rules | `(tactic| walk_at "call ref") => `(tactic| (k_here; (with_reducible show wpAny _ _ (call (Value.ref 207) _) _ _ _); k_dflt (refine' Con.useStep ?B ?F ?X ?N ?T ?k ?d ?u (next_register_con _ _ _ _ _ _ _ _ _ _ _ ?h1 ?h2) ?_ ?_; walk_at "m8r"); walk_at "ms"))
local macro_rules | `(tactic| walk_at "call ref") => `(tactic| (k_here; (with_reducible show wpAny _ _ (call (Value.ref 214) _) _ _ _); k_dflt (refine' Con.useStep ?B ?F ?X ?N ?T ?k ?d ?u (next_whole_con _ _ _ _ _ _ _ _ _ _ _ ?h1 ?h2) ?_ ?_; walk_at "m8r"); walk_at "ms"))
local macro_rules | `(tactic| walk_at "call ref") => `(tactic| (k_here; (with_reducible show wpAny _ _ (call (Value.ref 221) _) _ _ _); k_dflt (refine' Con.useStrS ?B ?F ?X ?N ?T ?k ?d ?u (condition_con _ _ _ _ _ _ _ _ _ _ _ ?h1 ?h2) ?_ ?_; walk_at "m8r"); walk_at "mc"))

theorem getD_pos {ts : List Str} {p : Int} (h : ∀ x ∈ ts, 1 ≤ x.length) (hl : p < (ts.length : Int)) (h0 : 0 ≤ p) : 1 ≤ (ts.getD p.toNat Str.empty).length := by
  have hn : p.toNat < ts.length := by omega
  rw [List.getD_eq_getElem?_getD, List.getElem?_eq_getElem hn]
  exact h _ (List.getElem_mem hn)
section
local macro_rules | `(tactic| walk_at "subscriptTail Name Constant str int") => `(tactic| (k_here; (have hq' := getD_pos (by with_reducible assumption) (by with_reducible assumption) (by with_reducible assumption)); k_dflt (refine item_str (by decide) (by omega) (by omega) ?_); intro _))
theorem target_con (w : World) (mean : ExcName → Option Value) (mg mb : Str → Option Value) (news : List (Addr × Obj)) (rd dd : Addr) (c : RdC) (ts : List Str) (p : Int) (t5 : Tok) (R : RdOk rd dd c ts news) (hp : 0 ≤ p) :
    Con 6 w mean mg mb 228 (rdL rd dd c p t5 news) [.ref rd] (RStep rd dd c news tgtV (targetF ts p)) (RBad c (targetF ts p)) := by
  have R' := R
  obtain ⟨hl, hsz, hpos, ⟨vs, nn, hs, hm⟩, hne, hdd⟩ := R'
  unfold Con
  w_top off
  k_fill
  intro dp un gd cn cs a ccd cl outer A₀ base h₀ L m s Q E B F X N T hk hd hu hret hexc
  refine wpAny_call ?_
  k_dflt cell_enter
  have hlen := StrsAre.length hs
  k_steps
  all_goals first
    | exact hexc _ _ _ _ _ (by assumption) (exc_close (by assumption) (by assumption)).1 (exc_close (by assumption) (by assumption)).2 ⟨rfl, by unfold targetF; (((repeat (first | ((with_reducible refine ifp ?_ ?_); · with_reducible assumption) | ((with_reducible refine ifn ?_ ?_); · (first | (with_reducible refine ne_true_of_eq_false ?_; with_reducible assumption) | (with_reducible refine ne_false_of_eq_true ?_; with_reducible assumption) | (with_reducible assumption))) | ((with_reducible refine bind_ok (by with_reducible assumption) ?_); try dsimp only) | ((with_reducible refine ifp ?_ ?_); · (first | (with_reducible assumption) | omega | (with_reducible exact ⟨by omega, by with_reducible assumption⟩))) | ((with_reducible refine ifn ?_ ?_); · (first | (with_reducible refine ne_true_of_eq_false ?_; with_reducible assumption) | (with_reducible refine ne_false_of_eq_true ?_; with_reducible assumption) | omega | (with_reducible refine not_and_l ?_; omega) | (with_reducible refine not_and_r ?_; with_reducible refine ne_true_of_eq_false ?_; with_reducible assumption))))); first | done | (with_reducible exact bind_err (by with_reducible assumption)) | (with_reducible assumption) | (with_reducible exact rfl)))⟩
    | exact hret _ _ _ _ (by assumption) (by assumption) ⟨.inl _, _, by unfold targetF; (((repeat (first | ((with_reducible refine ifp ?_ ?_); · with_reducible assumption) | ((with_reducible refine ifn ?_ ?_); · (first | (with_reducible refine ne_true_of_eq_false ?_; with_reducible assumption) | (with_reducible refine ne_false_of_eq_true ?_; with_reducible assumption) | (with_reducible assumption))) | ((with_reducible refine bind_ok (by with_reducible assumption) ?_); try dsimp only) | ((with_reducible refine ifp ?_ ?_); · (first | (with_reducible assumption) | omega | (with_reducible exact ⟨by omega, by with_reducible assumption⟩))) | ((with_reducible refine ifn ?_ ?_); · (first | (with_reducible refine ne_true_of_eq_false ?_; with_reducible assumption) | (with_reducible refine ne_false_of_eq_true ?_; with_reducible assumption) | omega | (with_reducible refine not_and_l ?_; omega) | (with_reducible refine not_and_r ?_; with_reducible refine ne_true_of_eq_false ?_; with_reducible assumption))))); first | done | (with_reducible exact bind_err (by with_reducible assumption)) | (with_reducible assumption) | (with_reducible exact rfl))), by assumption, ⟨_, rfl⟩, _, rfl⟩
    | exact hret _ _ _ _ (by assumption) (by assumption) ⟨.inr _, _, by unfold targetF; (((repeat (first | ((with_reducible refine ifp ?_ ?_); · with_reducible assumption) | ((with_reducible refine ifn ?_ ?_); · (first | (with_reducible refine ne_true_of_eq_false ?_; with_reducible assumption) | (with_reducible refine ne_false_of_eq_true ?_; with_reducible assumption) | (with_reducible assumption))) | ((with_reducible refine bind_ok (by with_reducible assumption) ?_); try dsimp only) | ((with_reducible refine ifp ?_ ?_); · (first | (with_reducible assumption) | omega | (with_reducible exact ⟨by omega, by with_reducible assumption⟩))) | ((with_reducible refine ifn ?_ ?_); · (first | (with_reducible refine ne_true_of_eq_false ?_; with_reducible assumption) | (with_reducible refine ne_false_of_eq_true ?_; with_reducible assumption) | omega | (with_reducible refine not_and_l ?_; omega) | (with_reducible refine not_and_r ?_; with_reducible refine ne_true_of_eq_false ?_; with_reducible assumption))))); first | done | (with_reducible exact bind_err (by with_reducible assumption)) | (with_reducible assumption) | (with_reducible exact rfl))), by assumption, ⟨_, rfl⟩, _, rfl⟩
end

local macro_rules | `(tactic| walk_at "mv") => `(tactic| (walk_at "mx"; (intro v' p' t1' t2' h' tk' g' hp' F' N'; cases v' <;> (dsimp only [tgtV]; (try k_sweep)))))
local macro_rules | `(tactic| walk_at "call ref") => `(tactic| (k_here; (with_reducible show wpAny _ _ (call (Value.ref 228) _) _ _ _); k_dflt (refine' Con.useStep ?B ?F ?X ?N ?T ?k ?d ?u (target_con _ _ _ _ _ _ _ _ _ _ _ ?h1 ?h2) ?_ ?_; walk_at "m8r"); walk_at "mv"))

/-- a row as it is read -/
inductive Row where
  | I (x : Str) (a b c : Int)
  | S (x y z : Str)
  | C (x y : Str) (c l : Int)
inductive RowV : List Value → Row → Prop where
  | I {x : Str} {a b c : Int} {t t2 t3 t4 : Tok} : RowV [.str x t, .int a t2, .int b t3, .int c t4] (.I x a b c)
  | S {x y z : Str} {t t2 t3 t4 : Tok} : RowV [.str x t, .str y t2, .str z t3, .int 0 t4] (.S x y z)
  | C {x y : Str} {c l : Int} {t t2 t3 t4 : Tok} : RowV [.str x t, .str y t2, .int c t3, .int l t4] (.C x y c l)
abbrev RRow (rd dd : Addr) (c : RdC) (news : List (Addr × Obj)) (f : Except Str (Row × Int)) (r : Value) (nw : List (Addr × Obj)) : Prop :=
  ∃ row p' rp vs n t5, f = .ok (row, p') ∧ 0 ≤ p' ∧ r = .ref rp ∧ RowV vs row ∧ (@LT.lt Nat _ rd rp ∧ @LT.lt Nat _ dd rp ∧ AllLt rp news) ∧ nw = (rp, tupO vs n) :: rdL rd dd c p' t5 news
def memRowF (x : Str) (ts : List Str) (p : Int) : Except Str (Row × Int) :=
  (registerF ts p).bind fun a => (expectF ts (Str.ofString ",") a.2).bind fun q => (expectF ts (Str.ofString "[") q.2).bind fun q => (registerF ts q.2).bind fun b =>
    if (takeT ts b.2 == Str.ofString ",") = true then (wholeF ts (takeP ts b.2)).bind fun o => if (takeT ts o.2 != Str.ofString "]") = true then .error (Str.ofString "expected ]") else .ok (.I x a.1 b.1 o.1, takeP ts o.2)
    else if (takeT ts b.2 != Str.ofString "]") = true then .error (Str.ofString "expected ]") else .ok (.I x a.1 b.1 0, takeP ts b.2)
theorem memory_row_con (w : World) (mean : ExcName → Option Value) (mg mb : Str → Option Value) (news : List (Addr × Obj)) (rd dd : Addr) (c : RdC) (ts : List Str) (p : Int) (t5 : Tok) (R : RdOk rd dd c ts news) (hp : 0 ≤ p) (x : Str) (t6 : Tok) :
    Con 7 w mean mg mb 249 (rdL rd dd c p t5 news) [.ref rd, .str x t6] (RRow rd dd c news (memRowF x ts p)) (RBad c (memRowF x ts p)) := by
  unfold Con
  w_top off
  k_fill
  intro dp un gd cn cs a ccd cl outer A₀ base h₀ L m s Q E B F X N T hk hd hu hret hexc
  refine wpAny_call ?_
  k_dflt cell_enter
  k_steps
  all_goals first
    | exact hexc _ _ _ _ _ (by assumption) (exc_close (by assumption) (by assumption)).1 (exc_close (by assumption) (by assumption)).2 ⟨rfl, by unfold memRowF; (((repeat (first | ((with_reducible refine ifp ?_ ?_); · with_reducible assumption) | ((with_reducible refine ifn ?_ ?_); · (first | (with_reducible refine ne_true_of_eq_false ?_; with_reducible assumption) | (with_reducible refine ne_false_of_eq_true ?_; with_reducible assumption) | (with_reducible assumption))) | ((with_reducible refine bind_ok (by with_reducible assumption) ?_); try dsimp only) | ((with_reducible refine ifp ?_ ?_); · (first | (with_reducible assumption) | omega | (with_reducible exact ⟨by omega, by with_reducible assumption⟩))) | ((with_reducible refine ifn ?_ ?_); · (first | (with_reducible refine ne_true_of_eq_false ?_; with_reducible assumption) | (with_reducible refine ne_false_of_eq_true ?_; with_reducible assumption) | omega | (with_reducible refine not_and_l ?_; omega) | (with_reducible refine not_and_r ?_; with_reducible refine ne_true_of_eq_false ?_; with_reducible assumption))))); first | done | (with_reducible exact bind_err (by with_reducible assumption)) | (with_reducible assumption) | (with_reducible exact rfl)))⟩
    | exact hret _ _ _ _ (by assumption) (by assumption) ⟨_, _, _, _, _, _, by unfold memRowF; (((repeat (first | ((with_reducible refine ifp ?_ ?_); · with_reducible assumption) | ((with_reducible refine ifn ?_ ?_); · (first | (with_reducible refine ne_true_of_eq_false ?_; with_reducible assumption) | (with_reducible refine ne_false_of_eq_true ?_; with_reducible assumption) | (with_reducible assumption))) | ((with_reducible refine bind_ok (by with_reducible assumption) ?_); try dsimp only) | ((with_reducible refine ifp ?_ ?_); · (first | (with_reducible assumption) | omega | (with_reducible exact ⟨by omega, by with_reducible assumption⟩))) | ((with_reducible refine ifn ?_ ?_); · (first | (with_reducible refine ne_true_of_eq_false ?_; with_reducible assumption) | (with_reducible refine ne_false_of_eq_true ?_; with_reducible assumption) | omega | (with_reducible refine not_and_l ?_; omega) | (with_reducible refine not_and_r ?_; with_reducible refine ne_true_of_eq_false ?_; with_reducible assumption))))); first | done | (with_reducible exact bind_err (by with_reducible assumption)) | (with_reducible assumption) | (with_reducible exact rfl))), by with_reducible assumption, rfl, .I, by with_reducible assumption, rfl⟩
section
variable {d : Nat} {w : World} {mean : ExcName → Option Value} {mg mb : Str → Option Value} {f : Addr} {news : List (Addr × Obj)} {vs : List Value}
  {dp un : Nat} {gd : Option (List Code)} {cn : Str} {cs : Scope} {a : Addr} {ccd : Value} {cl : List (Str × Addr)} {outer : List Env} {A₀ : Around} {base h₀ : Heap} {L : Addr} {m : Str → Option Value} {s : Shared} {Q E : Value → Shared → Prop}
  (B : Below A₀ base outer h₀) (F : Fr h₀ L s.heap m) (X : (hd.heap_39 w.params).In h₀) (N : News h₀ L s.heap news) (T : Top hd.view_39 (looseW hd.view_39 []) mean mg mb h₀) (hk : cs.kind = .function) (hd : dp + d ≤ 900) (hu : un + 10 * d ≤ 9000)
include B F X N T hk hd hu
theorem Con.useRow {rd dd : Addr} {c : RdC} {nw0 : List (Addr × Obj)} {g : Except Str (Row × Int)} (C : Con d w mean mg mb f news vs (RRow rd dd c nw0 g) (RBad c g))
    (hret : ∀ (row : Row) (p' : Int) (rp : Addr) (rv : List Value) (n : Nat) (t2 : Tok) (h' : Heap) (tk' : Nat), g = .ok (row, p') → 0 ≤ p' → RowV rv row → (@LT.lt Nat _ rd rp ∧ @LT.lt Nat _ dd rp ∧ AllLt rp nw0) → Fr h₀ L h' m → News h₀ L h' ((rp, tupO rv n) :: rdL rd dd c p' t2 nw0) → Q (.ref rp) { s with heap := h', toks := tk' })
    (hexc : ∀ (what : Str) (e : Addr) (h' : Heap) (tk' : Nat), g = .error what → FlyD base (envX cn cs L a ccd cl :: outer) e c.row what h' → h₀.UpToSlots h' → h'.Ns L m → E (.ref e) { s with heap := h', toks := tk' }) :
    wpAny (model PySem.Challenge.rw_nu0335_01.row.prog w) (ktrTop dp un gd cn cs L a ccd cl outer) (call (.ref f) vs) Q E s :=
  C.use B F X N T hk hd hu (fun r nw h' tk' F' N' R' => by obtain ⟨row, p', rp, rv, n, t2, x, y, e1, hv, hlt, e2⟩ := R'; subst e1 e2; exact hret row p' rp rv n t2 h' tk' x y hv hlt F' N') (fun e row what h' tk' D U S' R' => by obtain ⟨e1, e2⟩ := R'; subst e1; exact hexc what e h' tk' e2 D U S')
end

local macro_rules | `(tactic| walk_at "mr") => `(tactic| (walk_at "mx"; (intro row' p' rp' vs' n' t2' h' tk' g' hp' hv' hlt' F' N'; (try dsimp only); (try k_sweep))))
local macro_rules | `(tactic| walk_at "call ref") => `(tactic| (k_here; (with_reducible show wpAny _ _ (call (Value.ref 249) _) _ _ _); k_dflt (refine' Con.useRow ?B ?F ?X ?N ?T ?k ?d ?u (memory_row_con _ _ _ _ _ _ _ _ _ _ _ ?h1 ?h2 _ _) ?_ ?_; walk_at "m8r"); walk_at "mr"))

def opTailF (x : Str) (a b : Int) (ts : List Str) (p : Int) : Except Str (Row × Int) :=
  if (immOp x != Str.ofString "") = true then (nextWholeF ts p).bind fun q => .ok (.I x a b q.1, q.2) else (nextRegF ts p).bind fun q => .ok (.I x a b q.1, q.2)
def opRowF (x : Str) (ts : List Str) (p : Int) : Except Str (Row × Int) :=
  (registerF ts p).bind fun a => if ([("MOV" : Str), "MOVI"].any (fun y => y == x)) = true then opTailF x a.1 0 ts a.2 else (nextRegF ts a.2).bind fun b => opTailF x a.1 b.1 ts b.2
theorem operation_row_con (w : World) (mean : ExcName → Option Value) (mg mb : Str → Option Value) (news : List (Addr × Obj)) (rd dd : Addr) (c : RdC) (ts : List Str) (p : Int) (t5 : Tok) (R : RdOk rd dd c ts news) (hp : 0 ≤ p) (x : Str) (t6 : Tok) (hx : x.length ≤ 1048576) :
    Con 7 w mean mg mb 256 (rdL rd dd c p t5 news) [.ref rd, .str x t6] (RRow rd dd c news (opRowF x ts p)) (RBad c (opRowF x ts p)) := by
  unfold Con
  w_top off
  k_fill
  intro dp un gd cn cs a ccd cl outer A₀ base h₀ L m s Q E B F X N T hk hd hu hret hexc
  refine wpAny_call ?_
  k_dflt cell_enter
  k_steps
  all_goals first
    | exact hexc _ _ _ _ _ (by assumption) (exc_close (by assumption) (by assumption)).1 (exc_close (by assumption) (by assumption)).2 ⟨rfl, by unfold opRowF opTailF; (((repeat (first | ((with_reducible refine ifp ?_ ?_); · with_reducible assumption) | ((with_reducible refine ifn ?_ ?_); · (first | (with_reducible refine ne_true_of_eq_false ?_; with_reducible assumption) | (with_reducible refine ne_false_of_eq_true ?_; with_reducible assumption) | (with_reducible assumption))) | ((with_reducible refine bind_ok (by with_reducible assumption) ?_); try dsimp only) | ((with_reducible refine ifp ?_ ?_); · (first | (with_reducible assumption) | omega | (with_reducible exact ⟨by omega, by with_reducible assumption⟩))) | ((with_reducible refine ifn ?_ ?_); · (first | (with_reducible refine ne_true_of_eq_false ?_; with_reducible assumption) | (with_reducible refine ne_false_of_eq_true ?_; with_reducible assumption) | omega | (with_reducible refine not_and_l ?_; omega) | (with_reducible refine not_and_r ?_; with_reducible refine ne_true_of_eq_false ?_; with_reducible assumption))))); first | done | (with_reducible exact bind_err (by with_reducible assumption)) | (with_reducible assumption) | (with_reducible exact rfl)))⟩
    | exact hret _ _ _ _ (by assumption) (by assumption) ⟨_, _, _, _, _, _, by unfold opRowF opTailF; (((repeat (first | ((with_reducible refine ifp ?_ ?_); · with_reducible assumption) | ((with_reducible refine ifn ?_ ?_); · (first | (with_reducible refine ne_true_of_eq_false ?_; with_reducible assumption) | (with_reducible refine ne_false_of_eq_true ?_; with_reducible assumption) | (with_reducible assumption))) | ((with_reducible refine bind_ok (by with_reducible assumption) ?_); try dsimp only) | ((with_reducible refine ifp ?_ ?_); · (first | (with_reducible assumption) | omega | (with_reducible exact ⟨by omega, by with_reducible assumption⟩))) | ((with_reducible refine ifn ?_ ?_); · (first | (with_reducible refine ne_true_of_eq_false ?_; with_reducible assumption) | (with_reducible refine ne_false_of_eq_true ?_; with_reducible assumption) | omega | (with_reducible refine not_and_l ?_; omega) | (with_reducible refine not_and_r ?_; with_reducible refine ne_true_of_eq_false ?_; with_reducible assumption))))); first | done | (with_reducible exact bind_err (by with_reducible assumption)) | (with_reducible assumption) | (with_reducible exact rfl))), by assumption, rfl, .I, by with_reducible assumption, rfl⟩

local macro_rules | `(tactic| walk_at "call ref") => `(tactic| (k_here; (with_reducible show wpAny _ _ (call (Value.ref 256) _) _ _ _); k_dflt (refine' Con.useRow ?B ?F ?X ?N ?T ?k ?d ?u (operation_row_con _ _ _ _ _ _ _ _ _ _ _ ?h1 ?h2 _ _ ?h3) ?_ ?_; walk_at "m8r"; (case h3 => omega)); walk_at "mr"))

def brRowF (x : Str) (ts : List Str) (p : Int) : Except Str (Row × Int) := (conditionF ts p).bind fun k => (targetF ts k.2).bind fun t => match t.1 with | .inl y => .ok (.S x k.1 y, t.2) | .inr n => .ok (.C x k.1 n 0, t.2)
def regRowF (x : Str) (ts : List Str) (p : Int) : Except Str (Row × Int) := (conditionF ts p).bind fun k => (nextRegF ts k.2).bind fun r => .ok (.C x k.1 r.1 0, r.2)
def trapRowF (x : Str) (ts : List Str) (p : Int) : Except Str (Row × Int) := (conditionF ts p).bind fun k => (nextWholeF ts k.2).bind fun a => (nextWholeF ts a.2).bind fun b => .ok (.C x k.1 a.1 b.1, b.2)
def readRowF (ts : List Str) (p : Int) : Except Str (Row × Int) :=
  if (opsL.any (fun y => y == takeT ts p)) = true then opRowF (takeT ts p) ts (takeP ts p)
  else if (immOp (takeT ts p) != Str.ofString "") = true then opRowF (takeT ts p) ts (takeP ts p)
  else if (takeT ts p == Str.ofString "MOVH") = true then (registerF ts (takeP ts p)).bind fun a => (nextWholeF ts a.2).bind fun k => .ok (.I (takeT ts p) a.1 0 k.1, k.2)
  else if (takeT ts p == Str.ofString "GETH") = true then (registerF ts (takeP ts p)).bind fun a => .ok (.I (takeT ts p) a.1 0 0, a.2)
  else if (memL.any (fun y => y == takeT ts p)) = true then memRowF (takeT ts p) ts (takeP ts p)
  else if (takeT ts p == Str.ofString "B") = true then brRowF (takeT ts p) ts (takeP ts p)
  else if (takeT ts p == Str.ofString "BL") = true then brRowF (takeT ts p) ts (takeP ts p)
  else if (takeT ts p == Str.ofString "BR") = true then regRowF (takeT ts p) ts (takeP ts p)
  else if (takeT ts p == Str.ofString "BLR") = true then regRowF (takeT ts p) ts (takeP ts p)
  else if (takeT ts p == Str.ofString "TRAP") = true then trapRowF (takeT ts p) ts (takeP ts p)
  else .error (Str.ofString "unknown instruction")
theorem read_row_con (w : World) (mean : ExcName → Option Value) (mg mb : Str → Option Value) (news : List (Addr × Obj)) (rd dd : Addr) (c : RdC) (ts : List Str) (p : Int) (t5 : Tok) (R : RdOk rd dd c ts news) (hp : 0 ≤ p) :
    Con 9 w mean mg mb 263 (rdL rd dd c p t5 news) [.ref rd] (RRow rd dd c news (readRowF ts p)) (RBad c (readRowF ts p)) := by
  unfold Con
  w_top off
  k_fill
  intro dp un gd cn cs a ccd cl outer A₀ base h₀ L m s Q E B F X N T hk hd hu hret hexc
  refine wpAny_call ?_
  k_dflt cell_enter
  k_steps
  all_goals first
    | exact hexc _ _ _ _ _ (by assumption) (exc_close (by assumption) (by assumption)).1 (exc_close (by assumption) (by assumption)).2 ⟨rfl, by unfold readRowF brRowF regRowF trapRowF; (((repeat (first | ((with_reducible refine ifp ?_ ?_); · with_reducible assumption) | ((with_reducible refine ifn ?_ ?_); · (first | (with_reducible refine ne_true_of_eq_false ?_; with_reducible assumption) | (with_reducible refine ne_false_of_eq_true ?_; with_reducible assumption) | (with_reducible assumption))) | ((with_reducible refine bind_ok (by with_reducible assumption) ?_); try dsimp only) | ((with_reducible refine ifp ?_ ?_); · (first | (with_reducible assumption) | omega | (with_reducible exact ⟨by omega, by with_reducible assumption⟩))) | ((with_reducible refine ifn ?_ ?_); · (first | (with_reducible refine ne_true_of_eq_false ?_; with_reducible assumption) | (with_reducible refine ne_false_of_eq_true ?_; with_reducible assumption) | omega | (with_reducible refine not_and_l ?_; omega) | (with_reducible refine not_and_r ?_; with_reducible refine ne_true_of_eq_false ?_; with_reducible assumption))))); first | done | (with_reducible exact bind_err (by with_reducible assumption)) | (with_reducible assumption) | (with_reducible exact rfl)))⟩
    | exact hret _ _ _ _ (by assumption) (by assumption) ⟨_, _, _, _, _, _, by unfold readRowF; (((repeat (first | ((with_reducible refine ifp ?_ ?_); · with_reducible assumption) | ((with_reducible refine ifn ?_ ?_); · (first | (with_reducible refine ne_true_of_eq_false ?_; with_reducible assumption) | (with_reducible refine ne_false_of_eq_true ?_; with_reducible assumption) | (with_reducible assumption))) | ((with_reducible refine bind_ok (by with_reducible assumption) ?_); try dsimp only) | ((with_reducible refine ifp ?_ ?_); · (first | (with_reducible assumption) | omega | (with_reducible exact ⟨by omega, by with_reducible assumption⟩))) | ((with_reducible refine ifn ?_ ?_); · (first | (with_reducible refine ne_true_of_eq_false ?_; with_reducible assumption) | (with_reducible refine ne_false_of_eq_true ?_; with_reducible assumption) | omega | (with_reducible refine not_and_l ?_; omega) | (with_reducible refine not_and_r ?_; with_reducible refine ne_true_of_eq_false ?_; with_reducible assumption))))); first | done | (with_reducible exact bind_err (by with_reducible assumption)) | (with_reducible assumption) | (with_reducible exact rfl))), by with_reducible assumption, rfl, by with_reducible assumption, by with_reducible assumption, rfl⟩
    | exact hret _ _ _ _ (by assumption) (by assumption) ⟨_, _, _, _, _, _, by unfold readRowF brRowF regRowF trapRowF; (((repeat (first | ((with_reducible refine ifp ?_ ?_); · with_reducible assumption) | ((with_reducible refine ifn ?_ ?_); · (first | (with_reducible refine ne_true_of_eq_false ?_; with_reducible assumption) | (with_reducible refine ne_false_of_eq_true ?_; with_reducible assumption) | (with_reducible assumption))) | ((with_reducible refine bind_ok (by with_reducible assumption) ?_); try dsimp only) | ((with_reducible refine ifp ?_ ?_); · (first | (with_reducible assumption) | omega | (with_reducible exact ⟨by omega, by with_reducible assumption⟩))) | ((with_reducible refine ifn ?_ ?_); · (first | (with_reducible refine ne_true_of_eq_false ?_; with_reducible assumption) | (with_reducible refine ne_false_of_eq_true ?_; with_reducible assumption) | omega | (with_reducible refine not_and_l ?_; omega) | (with_reducible refine not_and_r ?_; with_reducible refine ne_true_of_eq_false ?_; with_reducible assumption))))); first | done | (with_reducible exact bind_err (by with_reducible assumption)) | (with_reducible assumption) | (with_reducible exact rfl))), by with_reducible assumption, rfl, by first | exact .I | exact .S | exact .C, by with_reducible assumption, rfl⟩

local macro_rules | `(tactic| walk_at "mq") => `(tactic| (walk_at "mx"; (intro row' p' rp' vs' n' t2' h' tk' g' hp' hv' hlt' F' N'; (try simp only [AllLt] at hlt'); (try dsimp only); (try k_sweep))))
local macro_rules | `(tactic| walk_at "call ref") => `(tactic| (k_here; (with_reducible show wpAny _ _ (call (Value.ref 263) _) _ _ _); k_dflt (refine' Con.useRow ?B ?F ?X ?N ?T ?k ?d ?u (read_row_con _ _ _ _ _ _ _ _ _ _ _ ?h1 ?h2) ?_ ?_; walk_at "m8r"); walk_at "mq"))

theorem getD_le {ts : List Str} (h : ∀ x ∈ ts, x.length ≤ 1048576) (n : Nat) : (ts.getD n Str.empty).length ≤ 1048576 := by
  rw [List.getD_eq_getElem?_getD]
  cases e : ts[n]? with
  | none => decide
  | some x => exact h _ (List.mem_of_getElem? e)
def labelF (ts : List Str) : Except Str Str :=
  if 1 < (ts.length : Int) then if (ts.getD (Int.toNat 1) Str.empty == Str.ofString ":") = true then if isLetterS (Txt.item (ts.getD (Int.toNat 0) Str.empty) 0) = true then .ok (ts.getD (Int.toNat 0) Str.empty) else .error (Str.ofString "bad label") else .ok (Str.ofString "") else .ok (Str.ofString "")
section
local macro_rules | `(tactic| walk_at "subscriptTail Name Constant str int") => `(tactic| (k_here; (have hq' := getD_pos (p := 0) (by with_reducible assumption) (by omega) (Int.le_refl 0)); k_dflt (refine item_str (by decide) (by omega) (by omega) ?_); intro _))
theorem label_of_con (w : World) (mean : ExcName → Option Value) (mg mb : Str → Option Value) (news : List (Addr × Obj)) (l : Addr) (vs : List Value) (n : Nat) (ts : List Str) (k : Int) (t : Tok) (hs : StrsAre vs ts) (hm : (l, listOf vs.toArray n) ∈ news) (hl : ts.length ≤ 1048576) (hsz : ∀ x ∈ ts, x.length ≤ 1048576) (hpos : ∀ x ∈ ts, 1 ≤ x.length) :
    Con 3 w mean mg mb 270 news [.ref l, .int k t] (fun r nw => ∃ x, labelF ts = .ok x ∧ x.length ≤ 1048576 ∧ PRet news (fun t => .str x t) r nw) (fun row what => labelF ts = .error what ∧ row = k) := by
  unfold Con
  w_top off
  k_fill
  intro dp un gd cn cs a ccd cl outer A₀ base h₀ L m s Q E B F X N T hk hd hu hret hexc
  refine wpAny_call ?_
  k_dflt cell_enter
  have hlen := StrsAre.length hs
  k_steps
  all_goals first
    | exact hexc _ _ _ _ _ (by assumption) (exc_close (by assumption) (by assumption)).1 (exc_close (by assumption) (by assumption)).2 ⟨by unfold labelF; (((repeat (first | ((with_reducible refine ifp ?_ ?_); · with_reducible assumption) | ((with_reducible refine ifn ?_ ?_); · (first | (with_reducible refine ne_true_of_eq_false ?_; with_reducible assumption) | (with_reducible refine ne_false_of_eq_true ?_; with_reducible assumption) | (with_reducible assumption))) | ((with_reducible refine bind_ok (by with_reducible assumption) ?_); try dsimp only) | ((with_reducible refine ifp ?_ ?_); · (first | (with_reducible assumption) | omega | (with_reducible exact ⟨by omega, by with_reducible assumption⟩))) | ((with_reducible refine ifn ?_ ?_); · (first | (with_reducible refine ne_true_of_eq_false ?_; with_reducible assumption) | (with_reducible refine ne_false_of_eq_true ?_; with_reducible assumption) | omega | (with_reducible refine not_and_l ?_; omega) | (with_reducible refine not_and_r ?_; with_reducible refine ne_true_of_eq_false ?_; with_reducible assumption))))); first | done | (with_reducible exact bind_err (by with_reducible assumption)) | (with_reducible assumption) | (with_reducible exact rfl))), rfl⟩
    | exact hret _ _ _ _ (by assumption) (by assumption) ⟨_, by unfold labelF; (((repeat (first | ((with_reducible refine ifp ?_ ?_); · with_reducible assumption) | ((with_reducible refine ifn ?_ ?_); · (first | (with_reducible refine ne_true_of_eq_false ?_; with_reducible assumption) | (with_reducible refine ne_false_of_eq_true ?_; with_reducible assumption) | (with_reducible assumption))) | ((with_reducible refine bind_ok (by with_reducible assumption) ?_); try dsimp only) | ((with_reducible refine ifp ?_ ?_); · (first | (with_reducible assumption) | omega | (with_reducible exact ⟨by omega, by with_reducible assumption⟩))) | ((with_reducible refine ifn ?_ ?_); · (first | (with_reducible refine ne_true_of_eq_false ?_; with_reducible assumption) | (with_reducible refine ne_false_of_eq_true ?_; with_reducible assumption) | omega | (with_reducible refine not_and_l ?_; omega) | (with_reducible refine not_and_r ?_; with_reducible refine ne_true_of_eq_false ?_; with_reducible assumption))))); first | done | (with_reducible exact bind_err (by with_reducible assumption)) | (with_reducible assumption) | (with_reducible exact rfl))), getD_le hsz _, ⟨_, rfl⟩, rfl⟩
    | exact hret _ _ _ _ (by assumption) (by assumption) ⟨_, by unfold labelF; (((repeat (first | ((with_reducible refine ifp ?_ ?_); · with_reducible assumption) | ((with_reducible refine ifn ?_ ?_); · (first | (with_reducible refine ne_true_of_eq_false ?_; with_reducible assumption) | (with_reducible refine ne_false_of_eq_true ?_; with_reducible assumption) | (with_reducible assumption))) | ((with_reducible refine bind_ok (by with_reducible assumption) ?_); try dsimp only) | ((with_reducible refine ifp ?_ ?_); · (first | (with_reducible assumption) | omega | (with_reducible exact ⟨by omega, by with_reducible assumption⟩))) | ((with_reducible refine ifn ?_ ?_); · (first | (with_reducible refine ne_true_of_eq_false ?_; with_reducible assumption) | (with_reducible refine ne_false_of_eq_true ?_; with_reducible assumption) | omega | (with_reducible refine not_and_l ?_; omega) | (with_reducible refine not_and_r ?_; with_reducible refine ne_true_of_eq_false ?_; with_reducible assumption))))); first | done | (with_reducible exact bind_err (by with_reducible assumption)) | (with_reducible assumption) | (with_reducible exact rfl))), by decide, ⟨_, rfl⟩, rfl⟩
end
theorem reader_con (w : World) (mean : ExcName → Option Value) (mg mb : Str → Option Value) (news : List (Addr × Obj)) (l : Addr) (k : Int) (t : Tok) (ts : List Str) (vs : List Value) (n : Nat) (hm : (l, listOf vs.toArray n) ∈ news) (hs : StrsAre vs ts) (hl : ts.length ≤ 1048576) (hsz : ∀ x ∈ ts, x.length ≤ 1048576) (hpos : ∀ x ∈ ts, 1 ≤ x.length) :
    Con 4 w mean mg mb 238 news [.ref l, .int k t] (fun r nw => ∃ rd dd k1 k2 k3 t1 t2 t3 t4 t5, r = .ref rd ∧ RdOk rd dd ⟨k1, k2, k3, t1, t2, t3, t4, l, k⟩ ts news ∧ (∀ q ∈ news, q.1 < dd) ∧ @LT.lt Nat _ dd rd ∧ nw = rdL rd dd ⟨k1, k2, k3, t1, t2, t3, t4, l, k⟩ 0 t5 news) NoExc := by
  unfold Con
  w_top off
  k_fill
  intro dp un gd cn cs a ccd cl outer A₀ base h₀ L m s Q E B F X N T hk hd hu hret hexc
  k_dflt (refine' call_cls ?k1 ?k2 ?k3 ?k4 ?k5 ?k6 ?_; (case k1 => k_asm); (case k2 => k_asm); (case k3 => k_asm); (case k4 => k_is); (case k5 => k_is); (case k6 => k_is); k_whole; intro x' d' h' F' N' l1 l2; (try k_lt l1); (k_lt2 l2); (try k_sweep))
  k_dflt cell_enter
  k_steps
  exact hret _ _ _ _ (by assumption) (by assumption) ⟨x', d', _, _, _, _, _, _, _, _, rfl, ⟨hl, hsz, hpos, ⟨vs, n, hs, hm⟩, Nat.ne_of_gt l2, fun q hq => Nat.ne_of_lt (l1 q hq)⟩, l1, l2, rfl⟩
section
variable {d : Nat} {w : World} {mean : ExcName → Option Value} {mg mb : Str → Option Value} {f : Addr} {news : List (Addr × Obj)} {vs : List Value}
  {dp un : Nat} {gd : Option (List Code)} {cn : Str} {cs : Scope} {a : Addr} {ccd : Value} {cl : List (Str × Addr)} {outer : List Env} {A₀ : Around} {base h₀ : Heap} {L : Addr} {m : Str → Option Value} {s : Shared} {Q E : Value → Shared → Prop}
  (B : Below A₀ base outer h₀) (F : Fr h₀ L s.heap m) (X : (hd.heap_39 w.params).In h₀) (N : News h₀ L s.heap news) (T : Top hd.view_39 (looseW hd.view_39 []) mean mg mb h₀) (hk : cs.kind = .function) (hd : dp + d ≤ 900) (hu : un + 10 * d ≤ 9000)
include B F X N T hk hd hu
theorem Con.useLabel {g : Except Str Str} {k : Int} (C : Con d w mean mg mb f news vs (fun r nw => ∃ x, g = .ok x ∧ x.length ≤ 1048576 ∧ PRet news (fun t => .str x t) r nw) (fun row what => g = .error what ∧ row = k))
    (hret : ∀ (x : Str) (t1 : Tok) (h' : Heap) (tk' : Nat), g = .ok x → x.length ≤ 1048576 → Fr h₀ L h' m → News h₀ L h' news → Q (.str x t1) { s with heap := h', toks := tk' })
    (hexc : ∀ (what : Str) (e : Addr) (h' : Heap) (tk' : Nat), g = .error what → FlyD base (envX cn cs L a ccd cl :: outer) e k what h' → h₀.UpToSlots h' → h'.Ns L m → E (.ref e) { s with heap := h', toks := tk' }) :
    wpAny (model PySem.Challenge.rw_nu0335_01.row.prog w) (ktrTop dp un gd cn cs L a ccd cl outer) (call (.ref f) vs) Q E s :=
  C.use B F X N T hk hd hu (fun r nw h' tk' F' N' R' => by obtain ⟨x, x1, x2, ⟨t1, e1⟩, e2⟩ := R'; subst e1 e2; exact hret x t1 h' tk' x1 x2 F' N') (fun e row what h' tk' D U S' R' => by obtain ⟨e2, e1⟩ := R'; subst e1; exact hexc what e h' tk' e2 D U S')
theorem Con.useReader {l : Addr} {k : Int} {ts : List Str} (C : Con d w mean mg mb f news vs (fun r nw => ∃ rd dd k1 k2 k3 t1 t2 t3 t4 t5, r = .ref rd ∧ RdOk rd dd ⟨k1, k2, k3, t1, t2, t3, t4, l, k⟩ ts news ∧ (∀ q ∈ news, q.1 < dd) ∧ @LT.lt Nat _ dd rd ∧ nw = rdL rd dd ⟨k1, k2, k3, t1, t2, t3, t4, l, k⟩ 0 t5 news) NoExc)
    (hret : ∀ (rd dd : Addr) (k1 k2 k3 : Int) (t1 t2 t3 t4 t5 : Tok) (h' : Heap) (tk' : Nat), RdOk rd dd ⟨k1, k2, k3, t1, t2, t3, t4, l, k⟩ ts news → (∀ q ∈ news, q.1 < dd) → @LT.lt Nat _ dd rd → Fr h₀ L h' m → News h₀ L h' (rdL rd dd ⟨k1, k2, k3, t1, t2, t3, t4, l, k⟩ 0 t5 news) → Q (.ref rd) { s with heap := h', toks := tk' }) :
    wpAny (model PySem.Challenge.rw_nu0335_01.row.prog w) (ktrTop dp un gd cn cs L a ccd cl outer) (call (.ref f) vs) Q E s :=
  C.use B F X N T hk hd hu (fun r nw h' tk' F' N' R' => by obtain ⟨rd, dd, k1, k2, k3, t1, t2, t3, t4, t5, e1, x, y, z, e2⟩ := R'; subst e1 e2; exact hret rd dd k1 k2 k3 t1 t2 t3 t4 t5 h' tk' x y z F' N') (fun _ _ _ _ _ _ _ _ x => x.elim)
end

local macro_rules | `(tactic| walk_at "mb") => `(tactic| (walk_at "mx"; (intro x' t1' h' tk' g' hl' F' N'; (try dsimp only); (try k_sweep))))
local macro_rules | `(tactic| walk_at "call ref") => `(tactic| (k_here; (with_reducible show wpAny _ _ (call (Value.ref 270) _) _ _ _); k_dflt (refine' Con.useLabel ?B ?F ?X ?N ?T ?k ?d ?u (label_of_con _ _ _ _ _ _ _ _ _ _ _ ?h1 ?h2 ?h3 ?h4 ?h5) ?_ ?_; walk_at "m8"; (case h1 => with_reducible assumption); (case h2 => k_mem); (case h3 => omega); (case h4 => assumption); (case h5 => assumption)); walk_at "mb"))
local macro_rules | `(tactic| walk_at "mo") => `(tactic| (intro rd' dd' k1' k2' k3' a1' a2' a3' a4' t5' h' tk' hO' l1' l2' F' N'; (try k_lt l1'); (try k_lt2 l2'); (try dsimp only); (try k_sweep)))
local macro_rules | `(tactic| walk_at "call ref") => `(tactic| (k_here; (with_reducible show wpAny _ _ (call (Value.ref 238) _) _ _ _); k_dflt (refine' Con.useReader ?B ?F ?X ?N ?T ?k ?d ?u (reader_con _ _ _ _ _ _ _ _ _ _ _ ?h1 ?h2 ?h3 ?h4 ?h5) ?_; walk_at "m8"; (case h1 => k_mem); (case h2 => with_reducible assumption); (case h3 => omega); (case h4 => assumption); (case h5 => assumption)); walk_at "mo"))

def aimedF (c : List (Str × Int)) (i : Int) (z : Str) : Except Str Int := if kdpHas c z = true then .ok (kdpLook c z 0 - i - 1) else .error (Str.ofString "unknown label")
theorem aimed_conS (w : World) (mean : ExcName → Option Value) (mg mb : Str → Option Value) (news : List (Addr × Obj)) (la : Addr) (o : Obj) (kvs : List (Str × Value)) (c : List (Str × Int)) (hd' : o.IsDictOf (PySem.strKind PySem.Challenge.rw_nu0335_01.row.prog w) kvs) (hf : PyProof.V.FlatPairs PySem.PyData.str kvs (kdpD c)) (x y z : Str) (i k : Int) (t t2 t3 t4 t5 : Tok) (hz : z.length ≤ 1048576) (lo : (la == sysModules) = false) :
    Con 3 w mean mg mb 277 ((la, o) :: news) [.str x t, .str y t2, .str z t3, .int i t4, .ref la, .int k t5] (fun r nw => ∃ rp vs n v, aimedF c i z = .ok v ∧ r = .ref rp ∧ RowV vs (.C x y v 0) ∧ (@LT.lt Nat _ la rp ∧ AllLt rp news) ∧ nw = (rp, tupO vs n) :: (la, o) :: news) (fun row what => aimedF c i z = .error what ∧ row = k) := by
  unfold Con
  w_top off
  k_fill
  intro dp un gd cn cs a ccd cl outer A₀ base h₀ L m s Q E B F X N T hk hd hu hret hexc
  refine wpAny_call ?_
  k_dflt cell_enter
  k_steps
  all_goals first
    | exact hexc _ _ _ _ _ (by assumption) (exc_close (by assumption) (by assumption)).1 (exc_close (by assumption) (by assumption)).2 ⟨by unfold aimedF; (((repeat (first | ((with_reducible refine ifp ?_ ?_); · with_reducible assumption) | ((with_reducible refine ifn ?_ ?_); · (first | (with_reducible refine ne_true_of_eq_false ?_; with_reducible assumption) | (with_reducible refine ne_false_of_eq_true ?_; with_reducible assumption) | (with_reducible assumption))) | ((with_reducible refine bind_ok (by with_reducible assumption) ?_); try dsimp only) | ((with_reducible refine ifp ?_ ?_); · (first | (with_reducible assumption) | omega | (with_reducible exact ⟨by omega, by with_reducible assumption⟩))) | ((with_reducible refine ifn ?_ ?_); · (first | (with_reducible refine ne_true_of_eq_false ?_; with_reducible assumption) | (with_reducible refine ne_false_of_eq_true ?_; with_reducible assumption) | omega | (with_reducible refine not_and_l ?_; omega) | (with_reducible refine not_and_r ?_; with_reducible refine ne_true_of_eq_false ?_; with_reducible assumption))))); first | done | (with_reducible exact bind_err (by with_reducible assumption)) | (with_reducible assumption) | (with_reducible exact rfl))), rfl⟩
    | exact hret _ _ _ _ (by assumption) (by assumption) ⟨_, _, _, _, by unfold aimedF; (((repeat (first | ((with_reducible refine ifp ?_ ?_); · with_reducible assumption) | ((with_reducible refine ifn ?_ ?_); · (first | (with_reducible refine ne_true_of_eq_false ?_; with_reducible assumption) | (with_reducible refine ne_false_of_eq_true ?_; with_reducible assumption) | (with_reducible assumption))) | ((with_reducible refine bind_ok (by with_reducible assumption) ?_); try dsimp only) | ((with_reducible refine ifp ?_ ?_); · (first | (with_reducible assumption) | omega | (with_reducible exact ⟨by omega, by with_reducible assumption⟩))) | ((with_reducible refine ifn ?_ ?_); · (first | (with_reducible refine ne_true_of_eq_false ?_; with_reducible assumption) | (with_reducible refine ne_false_of_eq_true ?_; with_reducible assumption) | omega | (with_reducible refine not_and_l ?_; omega) | (with_reducible refine not_and_r ?_; with_reducible refine ne_true_of_eq_false ?_; with_reducible assumption))))); first | done | (with_reducible exact bind_err (by with_reducible assumption)) | (with_reducible assumption) | (with_reducible exact rfl))), rfl, .C, by with_reducible assumption, rfl⟩
theorem aimed_conC (w : World) (mean : ExcName → Option Value) (mg mb : Str → Option Value) (news : List (Addr × Obj)) (la : Addr) (x y : Str) (z i k : Int) (t t2 t3 t4 t5 : Tok) :
    Con 3 w mean mg mb 277 news [.str x t, .str y t2, .int z t3, .int i t4, .ref la, .int k t5] (fun r nw => ∃ rp vs n, r = .ref rp ∧ RowV vs (.C x y z 0) ∧ AllLt rp news ∧ nw = (rp, tupO vs n) :: news) NoExc := by
  unfold Con
  w_top off
  k_fill
  intro dp un gd cn cs a ccd cl outer A₀ base h₀ L m s Q E B F X N T hk hd hu hret hexc
  refine wpAny_call ?_
  k_dflt cell_enter
  k_steps
  exact hret _ _ _ _ (by assumption) (by assumption) ⟨_, _, _, rfl, .C, by first | with_reducible assumption | exact allLt_of (by with_reducible assumption), rfl⟩
section
variable {d : Nat} {w : World} {mean : ExcName → Option Value} {mg mb : Str → Option Value} {f : Addr} {news : List (Addr × Obj)} {vs : List Value}
  {dp un : Nat} {gd : Option (List Code)} {cn : Str} {cs : Scope} {a : Addr} {ccd : Value} {cl : List (Str × Addr)} {outer : List Env} {A₀ : Around} {base h₀ : Heap} {L : Addr} {m : Str → Option Value} {s : Shared} {Q E : Value → Shared → Prop}
  (B : Below A₀ base outer h₀) (F : Fr h₀ L s.heap m) (X : (hd.heap_39 w.params).In h₀) (N : News h₀ L s.heap news) (T : Top hd.view_39 (looseW hd.view_39 []) mean mg mb h₀) (hk : cs.kind = .function) (hd : dp + d ≤ 900) (hu : un + 10 * d ≤ 9000)
include B F X N T hk hd hu
theorem Con.useAimS {g : Except Str Int} {x y : Str} {la : Addr} {o : Obj} {nw0 : List (Addr × Obj)} {k : Int} (C : Con d w mean mg mb f news vs (fun r nw => ∃ rp rv n v, g = .ok v ∧ r = .ref rp ∧ RowV rv (.C x y v 0) ∧ (@LT.lt Nat _ la rp ∧ AllLt rp nw0) ∧ nw = (rp, tupO rv n) :: (la, o) :: nw0) (fun row what => g = .error what ∧ row = k))
    (hret : ∀ (rp : Addr) (n : Nat) (v : Int) (t1 t2 t3 t4 : Tok) (h' : Heap) (tk' : Nat), g = .ok v → (@LT.lt Nat _ la rp ∧ AllLt rp nw0) → Fr h₀ L h' m → News h₀ L h' ((rp, tupO [.str x t1, .str y t2, .int v t3, .int 0 t4] n) :: (la, o) :: nw0) → Q (.ref rp) { s with heap := h', toks := tk' })
    (hexc : ∀ (what : Str) (e : Addr) (h' : Heap) (tk' : Nat), g = .error what → FlyD base (envX cn cs L a ccd cl :: outer) e k what h' → h₀.UpToSlots h' → h'.Ns L m → E (.ref e) { s with heap := h', toks := tk' }) :
    wpAny (model PySem.Challenge.rw_nu0335_01.row.prog w) (ktrTop dp un gd cn cs L a ccd cl outer) (call (.ref f) vs) Q E s :=
  C.use B F X N T hk hd hu (fun r nw h' tk' F' N' R' => by obtain ⟨rp, rv, n, v, x1, e1, hv, hlt, e2⟩ := R'; cases hv; subst e1 e2; exact hret rp n v _ _ _ _ h' tk' x1 hlt F' N') (fun e row what h' tk' D U S' R' => by obtain ⟨e2, e1⟩ := R'; subst e1; exact hexc what e h' tk' e2 D U S')
theorem Con.useAimC {x y : Str} {z : Int} (C : Con d w mean mg mb f news vs (fun r nw => ∃ rp rv n, r = .ref rp ∧ RowV rv (.C x y z 0) ∧ AllLt rp news ∧ nw = (rp, tupO rv n) :: news) NoExc)
    (hret : ∀ (rp : Addr) (n : Nat) (t1 t2 t3 t4 : Tok) (h' : Heap) (tk' : Nat), AllLt rp news → Fr h₀ L h' m → News h₀ L h' ((rp, tupO [.str x t1, .str y t2, .int z t3, .int 0 t4] n) :: news) → Q (.ref rp) { s with heap := h', toks := tk' }) :
    wpAny (model PySem.Challenge.rw_nu0335_01.row.prog w) (ktrTop dp un gd cn cs L a ccd cl outer) (call (.ref f) vs) Q E s :=
  C.use B F X N T hk hd hu (fun r nw h' tk' F' N' R' => by obtain ⟨rp, rv, n, e1, hv, hlt, e2⟩ := R'; cases hv; subst e1 e2; exact hret rp n _ _ _ _ h' tk' hlt F' N') (fun _ _ _ _ _ _ _ _ x => x.elim)
end


def Row.dats : Row → List Dat
  | .I x a b c => [.str x, .int a, .int b, .int c]
  | .S x y z => [.str x, .str y, .str z, .int 0]
  | .C x y c l => [.str x, .str y, .int c, .int l]
def rowD (r : Row) : Dat := .tuple r.dats
def dDat (p : Int × Row) : Dat := .tuple [.int p.1, rowD p.2]
def RowOk : Row → Prop
  | .I x _ _ _ => (brL.any (· == x)) = false ∧ x.length ≤ 1048576
  | .S x _ z => (x = Str.ofString "B" ∨ x = Str.ofString "BL") ∧ z.length ≤ 1048576
  | .C x _ _ _ => (brL.any (· == x)) = true
def restF (n : Int) (ts : List Str) (st : List (Int × Row) × List (Str × Int)) : Except Str (List (Int × Row) × List (Str × Int)) :=
  if 0 < (ts.length : Int) then (readRowF ts 0).bind fun r => (finishF ts r.2).bind fun _ => .ok (st.1 ++ [(n, r.1)], st.2) else .ok st
def stepF (n : Int) (x : Str) (st : List (Int × Row) × List (Str × Int)) : Except Str (List (Int × Row) × List (Str × Int)) :=
  match rowTokensF x with
  | none => .error (Str.ofString "bad character")
  | some ts => (labelF ts).bind fun lab => if (lab != Str.ofString "") = true then (if kdpHas st.2 lab = true then .error (Str.ofString "label twice") else restF n (ts.drop 2) (st.1, kdpPut st.2 lab st.1.length)) else restF n ts st
def linesF : List Str → Int → List (Int × Row) × List (Str × Int) → Except (Int × Str) (List (Int × Row) × List (Str × Int))
  | [], _, st => .ok st
  | x :: xs, n, st => match stepF (n + 1) x st with | .error e => .error (n + 1, e) | .ok st' => linesF xs (n + 1) st'
def aimF (c : List (Str × Int)) (i : Int) : Row → Except Str Row
  | .I x a b k => .ok (.I x a b k)
  | .S x y z => (aimedF c i z).bind fun v => .ok (.C x y v 0)
  | .C x y v l => if (x == Str.ofString "B") = true then .ok (.C x y v 0) else if (x == Str.ofString "BL") = true then .ok (.C x y v 0) else .ok (.C x y v l)
def faultF : Row → Str
  | .I x a b c => rowFaultI x a b c
  | .S _ _ _ => ""
  | .C x y c l => brFault x y c l
def rowsF (c : List (Str × Int)) : List (Int × Row) → List Row → Except (Int × Str) (List Row)
  | [], acc => .ok acc
  | (n, r) :: ds, acc => match aimF c acc.length r with | .error e => .error (n, e) | .ok r' => if (faultF r' != Str.ofString "") = true then .error (n, faultF r') else rowsF c ds (acc ++ [r'])
def asmF (ls : List Str) : Except (Int × Str) (List Row) := match linesF ls 0 ([], []) with | .error e => .error e | .ok st => rowsF st.2 st.1 []
theorem linesF_app (a b : List Str) : ∀ (n : Int) st, linesF (a ++ b) n st = match linesF a n st with | .error e => .error e | .ok st' => linesF b (n + a.length) st' := by
  induction a with
  | nil => intro n st; simp [linesF]
  | cons x a ih =>
    intro n st
    simp only [List.cons_append, linesF]
    cases stepF (n + 1) x st with
    | error e => rfl
    | ok st' => simp only [ih]; rw [show n + ((x :: a).length : Int) = n + 1 + (a.length : Int) by rw [List.length_cons]; omega]
/-- the first loop's state -/
structure A1 where
  dvs : List Value
  dn : Nat
  ds : List (Int × Row)
  o : Obj
  kvs : List (Str × Value)
  c : List (Str × Int)
  num : Int
  tn : Tok
def A1F (w : World) (nx : List (Addr × Obj)) (c : A1) : Prop := c.o.IsDictOf (PySem.strKind PySem.Challenge.rw_nu0335_01.row.prog w) c.kvs ∧ PyProof.V.FlatPairs PySem.PyData.str c.kvs (kdpD c.c) ∧ DatAll nx c.dvs (c.ds.map dDat)
def A1P (all : List Str) (pre : List Dat) (c : A1) : Prop := c.num = pre.length ∧ linesF (all.take pre.length) 0 ([], []) = .ok (c.ds, c.c) ∧ c.ds.length ≤ pre.length ∧ c.c.length ≤ pre.length ∧ ∀ p ∈ c.ds, RowOk p.2
theorem cut_at {all : List Str} {pre post : List Dat} {x : Str} (e : all.map Dat.str = pre ++ Dat.str x :: post) : all[pre.length]? = some x ∧ pre.length < all.length ∧ all = all.take pre.length ++ x :: all.drop (pre.length + 1) := by
  have h1 : (all.map Dat.str)[pre.length]? = some (Dat.str x) := by rw [e]; simp
  rw [List.getElem?_map] at h1
  cases h : all[pre.length]? with
  | none => rw [h] at h1; simp at h1
  | some y =>
    rw [h] at h1
    have : y = x := by simpa using h1
    subst this
    obtain ⟨hl, he⟩ := List.getElem?_eq_some_iff.mp h
    refine ⟨rfl, hl, ?_⟩
    rw [← he, ← List.drop_eq_getElem_cons hl, List.take_append_drop]
theorem lines_ok {all : List Str} {pre post : List Dat} {x : Str} {st st' : List (Int × Row) × List (Str × Int)} (e : all.map Dat.str = pre ++ Dat.str x :: post) (h : linesF (all.take pre.length) 0 ([], []) = .ok st) (h' : stepF (pre.length + 1) x st = .ok st') :
    linesF (all.take (pre ++ [Dat.str x]).length) 0 ([], []) = .ok st' := by
  obtain ⟨hx, hl, hc⟩ := cut_at e
  have h2 : all.take (pre ++ [Dat.str x]).length = all.take pre.length ++ [x] := by
    rw [List.length_append, List.length_cons, List.length_nil, Nat.zero_add, List.take_add_one, hx]; rfl
  have h3 : ((all.take pre.length).length : Int) = pre.length := by rw [List.length_take]; omega
  rw [h2, linesF_app, h]
  simp only [linesF, h3, Int.zero_add, h']
theorem lines_err {all : List Str} {pre post : List Dat} {x what : Str} {st : List (Int × Row) × List (Str × Int)} (e : all.map Dat.str = pre ++ Dat.str x :: post) (h : linesF (all.take pre.length) 0 ([], []) = .ok st) (h' : stepF (pre.length + 1) x st = .error what) :
    asmF all = .error ((pre.length : Int) + 1, what) := by
  obtain ⟨hx, hl, hc⟩ := cut_at e
  have h3 : ((all.take pre.length).length : Int) = pre.length := by rw [List.length_take]; omega
  have h4 : linesF all 0 ([], []) = .error ((pre.length : Int) + 1, what) := by
    rw [hc, linesF_app, h]
    simp only [linesF, h3, Int.zero_add, h']
  rw [asmF, h4]
theorem strs_dat {vs : List Value} {xs : List Str} (h : StrsAre vs xs) (news : List (Addr × Obj)) : DatAll news vs (xs.map Dat.str) := by
  induction h with
  | nil => exact .nil
  | cons x t _ ih => exact .cons (.str x t) ih
theorem allLt_mem {d : Nat} {l : List (Addr × Obj)} (h : AllLt d l) : ∀ p ∈ l, @LT.lt Nat _ p.1 d := by
  induction l with
  | nil => intro p hp; exact absurd hp List.not_mem_nil
  | cons q l ih =>
    intro p hp
    rcases List.mem_cons.mp hp with e | hp
    · rw [e]; exact h.1
    · exact ih h.2 p hp
theorem slice_len (x : Str) {p e : Int} (h0 : 0 ≤ p) (h1 : p ≤ e) (h2 : e ≤ x.length) : (Txt.slice x (some p) (some e)).length = (e - p).toNat := by
  have hl : (Txt.slice x (some p) (some e)).cps.toList.length = (Txt.slice x (some p) (some e)).length := Array.length_toList
  have hx : x.cps.toList.length = x.length := Array.length_toList
  rw [← hl, slice_toList x (some p) (some e) (a := p.toNat) (b := e.toNat) (by rw [Int.toNat_of_nonneg h0, Int.toNat_of_nonneg (by omega)]) (by omega) (by omega), List.length_take, List.length_drop]
  clear hl
  rw [hx, Nat.min_eq_left (Nat.sub_le_sub_right (by omega) _)]
  omega
theorem tok_ok {x : Str} {ts : List Str} (h : rowTokensF x = some ts) : ∀ t ∈ ts, 1 ≤ t.length ∧ t.length ≤ 1 + x.length := by
  have key : ∀ n p acc, 0 ≤ p → (∀ t ∈ acc, 1 ≤ t.length ∧ t.length ≤ 1 + x.length) → tokN x n p acc = some ts → ∀ t ∈ ts, 1 ≤ t.length ∧ t.length ≤ 1 + x.length := by
    intro n
    induction n with
    | zero => intro p acc _ ha e; cases e; exact ha
    | succ n ih =>
      intro p acc h0 ha e
      rw [tokN] at e
      split at e
      · split at e
        · split at e
          · exact ih _ _ (by omega) ha e
          · split at e
            · refine ih _ _ (by omega) (List.forall_mem_append.mpr ⟨ha, List.forall_mem_cons.mpr ⟨⟨?_, ?_⟩, List.forall_mem_nil _⟩⟩) e
              · exact Nat.le_refl 1
              · exact Nat.le_add_right 1 _
            · split at e
              · have hr := we_range (x := x) (i := p) h0 (by assumption)
                refine ih _ _ (by omega) (List.forall_mem_append.mpr ⟨ha, List.forall_mem_cons.mpr ⟨?_, List.forall_mem_nil _⟩⟩) e
                rw [slice_len x h0 (by omega) hr.2]; omega
              · cases e
        · cases e; exact ha
      · cases e; exact ha
  exact key _ _ _ (Int.le_refl 0) (List.forall_mem_nil _) h
theorem news_rot {h₀ h : Heap} {L : Addr} {a b c : Addr × Obj} {r : List (Addr × Obj)} (N : News h₀ L h (a :: b :: c :: r)) : News h₀ L h (b :: c :: a :: r) := cb_drop N (by
  intro p hp
  simp only [List.mem_cons] at hp ⊢
  rcases hp with hp | hp | hp | hp
  · exact .inr (.inl hp)
  · exact .inr (.inr (.inl hp))
  · exact .inl hp
  · exact .inr (.inr (.inr hp)))
theorem RdOk.ext {rd dd rp : Addr} {o : Obj} {c : RdC} {ts : List Str} {news : List (Addr × Obj)} (R : RdOk rd dd c ts news) (h : @LT.lt Nat _ dd rp) : RdOk rd dd c ts ((rp, o) :: news) := by
  obtain ⟨h1, h2, h3, ⟨vs, n, h4, h5⟩, h6, h7⟩ := R
  exact ⟨h1, h2, h3, ⟨vs, n, h4, List.mem_cons_of_mem _ h5⟩, h6, List.forall_mem_cons.mpr ⟨Nat.ne_of_gt h, h7⟩⟩
theorem err_at {ls : List Str} {n k : Int} {what : Str} (hk : k = n) (h : asmF ls = .error (n + 1, what)) : asmF ls = .error (k + 1, what) := by rw [hk]; exact h
theorem strs_drop {vs : List Value} {ts : List Str} (h : StrsAre vs ts) : ∀ n, StrsAre (vs.drop n) (ts.drop n) := by
  induction h with
  | nil => intro n; simp; exact .nil
  | cons x t h ih =>
    intro n
    cases n with
    | zero => exact .cons x t h
    | succ n => exact ih n
theorem slice_strs {vs : List Value} {ts : List Str} (h : StrsAre vs ts) : StrsAre (slicePick vs.toArray (some 2) none none).toList (ts.drop 2) := by
  have e : sliceBounds (some 2) none none vs.toArray.size = (((min 2 vs.toArray.size : Nat) : Int), ((vs.toArray.size : Nat) : Int), 1) := by
    simp only [sliceBounds, Option.getD_none, show (1 : Int) > 0 by decide, if_true, if_neg (show ¬ ((2 : Int) < 0) by omega)]
    congr 1
    omega
  rw [kmk_pick_nat _ e]
  show StrsAre ((vs.drop (min 2 vs.toArray.size)).take (vs.toArray.size - min 2 vs.toArray.size)) _
  rw [List.size_toArray, kmk_drop_min, List.take_of_length_le (by rw [List.length_drop]; omega)]
  exact strs_drop h _
theorem slice_two {prog : Program} {w : World} {A : Around} {E : Value → Shared → Prop} {s : Shared} {h₀ : Heap} {L l : Addr} {m : Str → Option Value} {news : List (Addr × Obj)} {value slice : PySem.Expr} {vs : List Value} {ts : List Str} {n : Nat} {vl vu : Value} {Q : Value → Shared → Prop}
    (F : Fr h₀ L s.heap m) (N : News h₀ L s.heap news) (hl : (l, listOf vs.toArray n) ∈ news) (hs' : StrsAre vs ts) (hz : ts.length ≤ 1048576) (hy1 : ∀ x ∈ ts, x.length ≤ 1048576) (hy2 : ∀ x ∈ ts, 1 ≤ x.length) (pl : IsPart vl (some 2)) (pu : IsPart vu none)
    (h : ∀ D ws h', Fr h₀ L h' m → News h₀ L h' ((D, listOf (List.toArray ws) 0) :: news) → (∀ p ∈ news, p.1 < D) → StrsAre ws (ts.drop 2) → (ts.drop 2).length ≤ 1048576 → (∀ x ∈ ts.drop 2, x.length ≤ 1048576) → (∀ x ∈ ts.drop 2, 1 ≤ x.length) → Q (.ref D) { s with heap := h' })
    (hs : subscripted slice false (.ref l) (.ref s.heap.objs.size) = operate [.ref s.heap.objs.size, .ref l] (getItem (.ref l) (.ref s.heap.objs.size))) (ht : ∀ r, letTemporaryGo value (.ref l) r = pure ()) :
    wpAny (model prog w) A (subscriptTail value slice (.ref l) (.ref s.heap.objs.size)) Q E { s with heap := s.heap.push { cls := .type "slice", data := .fields #[vl, vu, .none] } } :=
  kmk_slice F N (News.isList N hl) pl pu (fun D h' F' N' l1 => h D (slicePick vs.toArray (some 2) none none).toList h' F' (by simpa using N') l1 (slice_strs hs') (by rw [List.length_drop]; omega) (fun x hx => hy1 x (List.mem_of_mem_drop hx)) (fun x hx => hy2 x (List.mem_of_mem_drop hx))) hs ht (by rw [List.size_toArray, StrsAre.length hs', sizeLine_eq]; omega)
theorem kd_lenM {prog : Program} {w : World} {A : Around} {E : Value → Shared → Prop} {s : Shared} {h₀ : Heap} {L l : Addr} {news L9 : List (Addr × Obj)} {us : List Value} {α : Type} {xs : List α} {f : α → Dat} {n : Nat} {Q : Value → Shared → Prop} (N : News h₀ L s.heap news) (hm : (l, listOf us.toArray n) ∈ news) (hd : DatAll L9 us (xs.map f)) (hfit : xs.length ≤ 1048576)
    (h : Q (.int (xs.length : Int) (s.toks + 1)) { s with toks := s.toks + 1 + 1 }) : wpAny (model prog w) A (call (.builtin "len") [.ref l]) Q E s :=
  kd_len N hm hd (by rw [List.length_map]; omega) (by rw [List.length_map]; exact h)
theorem rowV_dat {vs : List Value} {r : Row} (h : RowV vs r) (news : List (Addr × Obj)) : DatAll news vs r.dats := by
  cases h
  · exact .cons (.str _ _) (.cons (.int _ _) (.cons (.int _ _) (.cons (.int _ _) .nil)))
  · exact .cons (.str _ _) (.cons (.str _ _) (.cons (.str _ _) (.cons (.int _ _) .nil)))
  · exact .cons (.str _ _) (.cons (.str _ _) (.cons (.int _ _) (.cons (.int _ _) .nil)))
theorem led_in {a b : Addr × Obj} {cst add tl own X : List (Addr × Obj)} (ha : a ∈ X) (hb : b ∈ X) (hadd : ∀ p ∈ add, p ∈ X) (hR : ∀ p ∈ cst ++ (tl ++ own), p ∈ X) : ∀ p ∈ [a, b] ++ (cst ++ (add ++ tl)), p ∈ X := by
  intro p hp
  simp only [List.mem_append, List.mem_cons, List.not_mem_nil, or_false] at hp hR
  rcases hp with (hp | hp) | (hp | (hp | hp))
  · rw [hp]; exact ha
  · rw [hp]; exact hb
  · exact hR p (.inl hp)
  · exact hadd p hp
  · exact hR p (.inr (.inl hp))
theorem own_in {cst tl own X : List (Addr × Obj)} (hR : ∀ p ∈ cst ++ (tl ++ own), p ∈ X) : ∀ p ∈ own, p ∈ X := fun p hp => hR p (List.mem_append.mpr (.inr (List.mem_append.mpr (.inr hp))))
theorem adr_off {D dl la : Nat} {R cst tl own : List (Addr × Obj)} (h1 : dl < D) (h2 : la < D) (h3 : AllLt D R) (hR : R = cst ++ (tl ++ own)) : ∀ b ∈ dl :: la :: cst.map (·.1), b ≠ D := by
  intro b hb
  rcases List.mem_cons.mp hb with hb | hb
  · rw [hb]; exact Nat.ne_of_lt h1
  · rcases List.mem_cons.mp hb with hb | hb
    · rw [hb]; exact Nat.ne_of_lt h2
    · obtain ⟨p, hp, e⟩ := List.mem_map.mp hb
      rw [← e]
      exact Nat.ne_of_lt (allLt_mem h3 p (by rw [hR]; exact List.mem_append.mpr (.inl hp)))
theorem own_off {D : Nat} {R cst tl own : List (Addr × Obj)} (h3 : AllLt D R) (hR : R = cst ++ (tl ++ own)) : ∀ p ∈ own, p.1 ≠ D := fun p hp => Nat.ne_of_lt (allLt_mem h3 p (by rw [hR]; exact List.mem_append.mpr (.inr (List.mem_append.mpr (.inr hp)))))
theorem takeT_le {ts : List Str} (h : ∀ x ∈ ts, x.length ≤ 1048576) (p : Int) : (takeT ts p).length ≤ 1048576 := by
  unfold takeT
  split
  · exact getD_le h _
  · decide
theorem bind_inv {α β : Type} {f : Except Str α} {g : α → Except Str β} {x : β} (h : f.bind g = .ok x) : ∃ q, f = .ok q ∧ g q = .ok x := by
  cases f with
  | error e => cases h
  | ok q => exact ⟨q, rfl, h⟩
theorem opTail_I {x : Str} {a b : Int} {ts : List Str} {p p' : Int} {r : Row} (h : opTailF x a b ts p = .ok (r, p')) : ∃ a b c, r = .I x a b c := by
  unfold opTailF at h
  split at h <;> (obtain ⟨q, _, h2⟩ := bind_inv h; cases h2; exact ⟨_, _, _, rfl⟩)
theorem opRow_I {x : Str} {ts : List Str} {p p' : Int} {r : Row} (h : opRowF x ts p = .ok (r, p')) : ∃ a b c, r = .I x a b c := by
  unfold opRowF at h
  obtain ⟨q, _, h2⟩ := bind_inv h
  split at h2
  · exact opTail_I h2
  · obtain ⟨q, _, h3⟩ := bind_inv h2
    exact opTail_I h3
theorem memRow_I {x : Str} {ts : List Str} {p p' : Int} {r : Row} (h : memRowF x ts p = .ok (r, p')) : ∃ a b c, r = .I x a b c := by
  unfold memRowF at h
  obtain ⟨q, _, h⟩ := bind_inv h
  obtain ⟨q, _, h⟩ := bind_inv h
  obtain ⟨q, _, h⟩ := bind_inv h
  obtain ⟨q, _, h⟩ := bind_inv h
  split at h
  · obtain ⟨q, _, h⟩ := bind_inv h
    split at h
    · cases h
    · cases h; exact ⟨_, _, _, rfl⟩
  · split at h
    · cases h
    · cases h; exact ⟨_, _, _, rfl⟩
theorem not_br {x : Str} (h : (brL.any (· == x)) = true → False) : (brL.any (· == x)) = false := Bool.eq_false_iff.mpr h
theorem target_le {ts : List Str} (hs : ∀ x ∈ ts, x.length ≤ 1048576) {p p' : Int} {z : Str} (h : targetF ts p = .ok (.inl z, p')) : z.length ≤ 1048576 := by
  unfold targetF at h
  obtain ⟨q, _, h⟩ := bind_inv h
  split at h
  · split at h
    · cases h; exact takeT_le hs _
    · obtain ⟨q, _, h⟩ := bind_inv h; cases h
  · obtain ⟨q, _, h⟩ := bind_inv h; cases h
theorem brRow_ok {x : Str} {ts : List Str} (hs : ∀ x ∈ ts, x.length ≤ 1048576) (hx : x = Str.ofString "B" ∨ x = Str.ofString "BL") {p p' : Int} {r : Row} (h : brRowF x ts p = .ok (r, p')) : RowOk r := by
  unfold brRowF at h
  obtain ⟨q, _, h⟩ := bind_inv h
  obtain ⟨⟨t, p2⟩, ht, h⟩ := bind_inv h
  cases t with
  | inl z => cases h; exact ⟨hx, target_le hs ht⟩
  | inr n =>
    cases h
    show (brL.any _) = true
    rcases hx with rfl | rfl <;> decide +kernel
theorem regRow_ok {x : Str} {ts : List Str} (hx : (brL.any (· == x)) = true) {p p' : Int} {r : Row} (h : regRowF x ts p = .ok (r, p')) : RowOk r := by
  unfold regRowF at h
  obtain ⟨q, _, h⟩ := bind_inv h
  obtain ⟨q, _, h⟩ := bind_inv h
  cases h; exact hx
theorem trapRow_ok {x : Str} {ts : List Str} (hx : (brL.any (· == x)) = true) {p p' : Int} {r : Row} (h : trapRowF x ts p = .ok (r, p')) : RowOk r := by
  unfold trapRowF at h
  obtain ⟨q, _, h⟩ := bind_inv h
  obtain ⟨q, _, h⟩ := bind_inv h
  obtain ⟨q, _, h⟩ := bind_inv h
  cases h; exact hx
theorem str_eq {x y : Str} (h : (x == y) = true) : x = y := by simpa using h
theorem readRow_ok {ts : List Str} (hs : ∀ x ∈ ts, x.length ≤ 1048576) {p p' : Int} {r : Row} (h : readRowF ts p = .ok (r, p')) : RowOk r := by
  have hl := takeT_le hs p
  unfold readRowF at h
  generalize takeT ts p = x at h hl
  split at h
  · rename_i hc
    obtain ⟨a, b, c, rfl⟩ := opRow_I h
    exact ⟨not_br fun hb => (by rw [(br_names hb).2.1] at hc; exact absurd hc (by decide)), hl⟩
  split at h
  · rename_i hc
    obtain ⟨a, b, c, rfl⟩ := opRow_I h
    exact ⟨not_br fun hb => (by rw [(br_names hb).2.2.1] at hc; exact absurd hc (by decide)), hl⟩
  split at h
  · rename_i hc
    obtain ⟨q, _, h⟩ := bind_inv h
    obtain ⟨q, _, h⟩ := bind_inv h
    cases h
    rw [str_eq hc]
    exact ⟨by decide +kernel, by decide⟩
  split at h
  · rename_i hc
    obtain ⟨q, _, h⟩ := bind_inv h
    cases h
    rw [str_eq hc]
    exact ⟨by decide +kernel, by decide⟩
  split at h
  · rename_i hc
    obtain ⟨a, b, c, rfl⟩ := memRow_I h
    exact ⟨not_br fun hb => (by rw [(br_names hb).2.2.2.1] at hc; exact absurd hc (by decide)), hl⟩
  split at h
  · rename_i hc; exact brRow_ok hs (.inl (str_eq hc)) h
  split at h
  · rename_i hc; exact brRow_ok hs (.inr (str_eq hc)) h
  split at h
  · rename_i hc; rw [str_eq hc] at h; exact regRow_ok (by decide +kernel) h
  split at h
  · rename_i hc; rw [str_eq hc] at h; exact regRow_ok (by decide +kernel) h
  split at h
  · rename_i hc; rw [str_eq hc] at h; exact trapRow_ok (by decide +kernel) h
  cases h
theorem lines_okk {all : List Str} {pre post : List Dat} {x : Str} {k : Int} {st st' : List (Int × Row) × List (Str × Int)} (e : all.map Dat.str = pre ++ Dat.str x :: post) (hk : k = pre.length) (h : linesF (all.take pre.length) 0 ([], []) = .ok st) (h' : stepF (k + 1) x st = .ok st') :
    linesF (all.take (pre ++ [Dat.str x]).length) 0 ([], []) = .ok st' := by subst hk; exact lines_ok e h h'

local macro_rules | `(tactic| walk_at "call builtin:len") => `(tactic| (k_here; (with_reducible show wpAny _ _ (call (Value.builtin "len") [Value.ref _]) _ _ _); k_dflt (refine' kd_lenM ?k1 ?k2 ?k3 ?k4 ?_; (case k1 => k_asm); (case k2 => k_mem); (case k3 => with_reducible assumption); (case k4 => omega); k_whole)))
local macro_rules | `(tactic| walk_at "call ref") => `(tactic| (k_here; (with_reducible show wpAny _ _ (call (Value.ref 235) _) _ _ _); k_dflt (refine' Con.useStep ?B ?F ?X ?N ?T ?k ?d ?u (finish_con _ _ _ _ _ _ _ _ _ _ _ ?h1 ?h2) ?_ ?_; (case B => k_asm); (case F => k_asm); (case X => k_asm); (case N => exact news_rot (by k_asm)); (case T => k_asm); (case k => ktn_open); (case d => tb_start); (case u => tb_start); (case h1 => exact RdOk.ext (by assumption) (by omega)); (case h2 => omega)); walk_at "ms"))
local macro_rules | `(tactic| walk_at "subscriptTail Name Slice ref ref") => `(tactic| (k_here; (with_reducible show wpAny _ _ (subscriptTail _ (PySem.Expr.Slice _ _ none _) (Value.ref _) (Value.ref _)) _ _ _); k_dflt (refine' slice_two ?F ?N ?l ?i ?z ?y1 ?y2 ?p ?q ?_ ?s ?t; (case F => k_asm); (case N => k_asm); (case l => k_mem); (case i => with_reducible assumption); (case z => omega); (case y1 => assumption); (case y2 => assumption); (case p => kmk_part); (case q => kmk_part); (case s => with_unfolding_all rfl); (case t => kmk_pure)); intro D' ws' h' F' N' l1 hI' hL' hM' hO'; (try k_lt l1); (try k_sweep)))
local macro_rules | `(tactic| walk_at "newTuple") => `(tactic| (k_here; k_dflt (refine' kup_newTuple ?F ?N ?_ ?z; (case F => k_asm); (case N => k_asm); (case z => kmk_size)); intro D' h' F' N' l1; (try k_lt l1); (try k_sweep)))

section
variable {prog : Program} {w : World} {A : Around} {E : Value → Shared → Prop} {s : Shared} {env : Env} {h₀ : Heap} {target : Expr} {body : List Stmt} {Q : Flow → Shared → Prop}
theorem list_for {ax : Addr} {dvs : List Value} {n : Nat} {m₀ : Str → Option Value} {news : List (Addr × Obj)} (Inv : List Value → (Str → Option Value) → List (Addr × Obj) → Prop)
    (hh : A.handled = none) (F : Fr h₀ env.locals s.heap m₀) (N : News h₀ env.locals s.heap news) (hm : (ax, listOf dvs.toArray n) ∈ news) (h0 : Inv dvs m₀ news)
    (turn : ∀ v r m₁ nx h tk I o, Inv (v :: r) m₁ nx → (∀ p ∈ nx, p.1 ≠ I) → Fr h₀ env.locals h m₁ → News h₀ env.locals h ((I, o) :: nx) →
      wpAny (model prog w) A (assign target env v) (fun _ s₂ => wpAny (model prog w) A (execs body env) (UnrPostW h₀ env.locals { s with heap := h, toks := tk } [(I, o)] (fun m' n' => (ax, listOf dvs.toArray n) ∈ n' ∧ Inv r m' n') Q) E s₂) E { s with heap := h, toks := tk })
    (done : ∀ m₁ nx h tk, Inv [] m₁ nx → Fr h₀ env.locals h m₁ → News h₀ env.locals h nx → Q .next { s with heap := h, toks := tk }) :
    wpAny (model prog w) A (pyIter (.ref ax)) (fun it s₂ => TurnsAt prog w A h₀ env target body Q E it s₂) E s := by
  refine iter_listTurns hh F N hm rfl rfl (fun I hI => ?_)
  have key : ∀ (r : List Value) m nx, (∀ p ∈ nx, p.1 ≠ I) → Inv r m nx → ItemsRest prog w A E h₀ env target body Q s [(I, "list_iterator")] [(ax, listOf dvs.toArray n)] (r.map .val) m nx := by
    intro r
    induction r with
    | nil => exact fun m nx _ hi => ItemsRest.zero fun h tk F N => done m nx h tk hi F N
    | cons v r ih =>
      intro m nx ho hi
      refine ItemsRest.val fun h tk F' => ?_
      refine AllObj.cons (fun o hc => AllObj.nil (fun N' => ?_))
      refine wpAny_mono (turn v r m nx h tk I o hi ho F' N') (fun _ s₂ h₂ => wpAny_mono h₂ (fun f s₃ p => ?_) fun _ _ e => e) fun _ _ e => e
      have fin : UnrEndW h₀ env.locals { s with heap := h, toks := tk } [(I, o)] (fun m' n' => (ax, listOf dvs.toArray n) ∈ n' ∧ Inv r m' n') s₃ → UnrEndW h₀ env.locals { s with heap := h, toks := tk } [(I, o)] (fun m' n' => SubL [(ax, listOf dvs.toArray n)] n' ∧ ItemsRest prog w A E h₀ env target body Q s [(I, "list_iterator")] [(ax, listOf dvs.toArray n)] (r.map .val) m' n') s₃ := by
        rintro ⟨h', tk', m', n', e, F', N', ho', hm', hi'⟩
        exact ⟨h', tk', m', n', e, F', N', ho', ⟨hm', trivial⟩, ih m' n' (fun p hp => ho' p hp _ List.mem_cons_self) hi'⟩
      cases f with
      | ret v => exact p
      | brk => exact p
      | next => exact fin p
      | cont => exact fin p
  exact key dvs m₀ news (fun p hp => Nat.ne_of_lt (hI p hp)) h0
end
theorem dat_cons {R : List (Addr × Obj)} {vs : List Value} {d : Dat} {ds : List Dat} (h : DatAll R vs (d :: ds)) : ∃ v vs', vs = v :: vs' ∧ DatIn R v d ∧ DatAll R vs' ds := by
  cases h; exact ⟨_, _, rfl, by assumption, by assumption⟩
theorem dat_nil {R : List (Addr × Obj)} {vs : List Value} (h : DatAll R vs []) : vs = [] := by cases h; rfl
theorem dat_str {R : List (Addr × Obj)} {v : Value} {x : Str} (h : DatIn R v (.str x)) : ∃ t, v = .str x t := by cases h; exact ⟨_, rfl⟩
theorem dat_int {R : List (Addr × Obj)} {v : Value} {x : Int} (h : DatIn R v (.int x)) : ∃ t, v = .int x t := by cases h; exact ⟨_, rfl⟩
theorem dat_tup {R : List (Addr × Obj)} {v : Value} {ds : List Dat} (h : DatIn R v (.tuple ds)) : ∃ a vs n, v = .ref a ∧ (a, tupO vs n) ∈ R ∧ DatAll R vs ds := by cases h; exact ⟨_, _, _, rfl, by assumption, by assumption⟩
theorem dat_4 {R : List (Addr × Obj)} {vs : List Value} {a b c d : Dat} (h : DatAll R vs [a, b, c, d]) : ∃ v1 v2 v3 v4, vs = [v1, v2, v3, v4] ∧ DatIn R v1 a ∧ DatIn R v2 b ∧ DatIn R v3 c ∧ DatIn R v4 d := by
  obtain ⟨v1, w1, rfl, h1, h⟩ := dat_cons h
  obtain ⟨v2, w2, rfl, h2, h⟩ := dat_cons h
  obtain ⟨v3, w3, rfl, h3, h⟩ := dat_cons h
  obtain ⟨v4, w4, rfl, h4, h⟩ := dat_cons h
  obtain rfl := dat_nil h
  exact ⟨v1, v2, v3, v4, rfl, h1, h2, h3, h4⟩
theorem rowV_of {R : List (Addr × Obj)} {vs : List Value} {r : Row} (h : DatAll R vs r.dats) : RowV vs r := by
  cases r with
  | I x a b c =>
    obtain ⟨_, _, _, _, rfl, h1, h2, h3, h4⟩ := dat_4 h
    obtain ⟨_, rfl⟩ := dat_str h1; obtain ⟨_, rfl⟩ := dat_int h2; obtain ⟨_, rfl⟩ := dat_int h3; obtain ⟨_, rfl⟩ := dat_int h4
    exact .I
  | S x y z =>
    obtain ⟨_, _, _, _, rfl, h1, h2, h3, h4⟩ := dat_4 h
    obtain ⟨_, rfl⟩ := dat_str h1; obtain ⟨_, rfl⟩ := dat_str h2; obtain ⟨_, rfl⟩ := dat_str h3; obtain ⟨_, rfl⟩ := dat_int h4
    exact .S
  | C x y c l =>
    obtain ⟨_, _, _, _, rfl, h1, h2, h3, h4⟩ := dat_4 h
    obtain ⟨_, rfl⟩ := dat_str h1; obtain ⟨_, rfl⟩ := dat_str h2; obtain ⟨_, rfl⟩ := dat_int h3; obtain ⟨_, rfl⟩ := dat_int h4
    exact .C
theorem draft_inv {R : List (Addr × Obj)} {v : Value} {k : Int} {r : Row} (h : DatIn R v (dDat (k, r))) : ∃ a n t rp vs n2, v = .ref a ∧ (a, tupO [.int k t, .ref rp] n) ∈ R ∧ (rp, tupO vs n2) ∈ R ∧ RowV vs r := by
  obtain ⟨a, us, n, rfl, hm, h⟩ := dat_tup h
  obtain ⟨v1, w1, rfl, h1, h⟩ := dat_cons h
  obtain ⟨v2, w2, rfl, h2, h⟩ := dat_cons h
  obtain rfl := dat_nil h
  obtain ⟨t, rfl⟩ := dat_int h1
  obtain ⟨rp, vs, n2, rfl, hm2, h2⟩ := dat_tup h2
  exact ⟨_, _, _, _, _, _, rfl, hm, hm2, rowV_of h2⟩
/-- the second loop's state -/
def Inv2 (m₀ : Str → Option Value) (c : A1) (rl dl la : Addr) (R : List (Addr × Obj)) (r : List Value) (m : Str → Option Value) (nx : List (Addr × Obj)) : Prop :=
  ∃ (u : Str → Option Value) (ds : List (Int × Row)) (rs : List Row) (rvs : List Value) (rn : Nat) (tl : List (Addr × Obj)),
    m = (fun z => if [Str.ofString "number", Str.ofString "row", Str.ofString "fault"].contains z then u z else m₀ z) ∧
    nx = (rl, listOf rvs.toArray rn) :: (dl, listOf c.dvs.toArray c.dn) :: (la, c.o) :: tl ∧ (∀ p ∈ R, p ∈ tl) ∧ (∀ p ∈ tl, p.1 ≠ rl) ∧ DatAll R r (ds.map dDat) ∧ DatAll tl rvs (rs.map rowD) ∧
    rowsF c.c c.ds [] = rowsF c.c ds rs ∧ (∀ p ∈ ds, RowOk p.2) ∧ rs.length + ds.length ≤ 1000
theorem Inv2.start {m₀ : Str → Option Value} {c : A1} {rl dl la : Addr} {R : List (Addr × Obj)} {rn : Nat} (h1 : ∀ p ∈ R, p.1 ≠ rl) (h2 : DatAll R c.dvs (c.ds.map dDat)) (h3 : ∀ p ∈ c.ds, RowOk p.2) (h4 : c.ds.length ≤ 1000) :
    Inv2 m₀ c rl dl la R c.dvs m₀ ((rl, listOf (List.toArray []) rn) :: (dl, listOf c.dvs.toArray c.dn) :: (la, c.o) :: R) :=
  ⟨m₀, c.ds, [], [], rn, R, by funext z; split <;> rfl, rfl, fun _ h => h, h1, h2, .nil, rfl, h3, by simp; omega⟩
theorem asm_ok {ls : List Str} {n : Nat} {st : List (Int × Row) × List (Str × Int)} (hn : n = ls.length) (h : linesF (ls.take n) 0 ([], []) = .ok st) : asmF ls = rowsF st.2 st.1 [] := by
  subst hn
  rw [List.take_length] at h
  rw [asmF, h]
section
variable {c : List (Str × Int)} {acc : List Row} {k : Int} {r r' : Row} {ds : List (Int × Row)} {e f : Str}
theorem rows_err1 (h : aimF c acc.length r = .error e) : rowsF c ((k, r) :: ds) acc = .error (k, e) := by simp only [rowsF, h]
theorem rows_err2 (h : aimF c acc.length r = .ok r') (h2 : faultF r' = f) (hf : (f != Str.ofString "") = true) : rowsF c ((k, r) :: ds) acc = .error (k, f) := by subst h2; simp only [rowsF, h]; rw [if_pos hf]
theorem rows_ok (h : aimF c acc.length r = .ok r') (h2 : faultF r' = f) (hf : (f != Str.ofString "") = false) : rowsF c ((k, r) :: ds) acc = rowsF c ds (acc ++ [r']) := by subst h2; simp only [rowsF, h]; rw [if_neg (by rw [hf]; decide)]
end
theorem br_no {x : Str} (h : (brL.any (· == x)) = false) (h2 : (x == Str.ofString "B") = true ∨ (x == Str.ofString "BL") = true) : False := by
  rcases h2 with h2 | h2 <;> (rw [str_eq h2] at h; exact absurd h (by decide +kernel))
theorem news_laF {h₀ h : Heap} {L : Addr} {a b c d : Addr × Obj} {r : List (Addr × Obj)} (N : News h₀ L h (a :: b :: c :: d :: r)) : News h₀ L h (d :: a :: b :: c :: r) := cb_drop N (by
  intro p hp
  simp only [List.mem_cons] at hp ⊢
  rcases hp with hp | hp | hp | hp | hp
  · exact .inr (.inr (.inr (.inl hp)))
  · exact .inl hp
  · exact .inr (.inl hp)
  · exact .inr (.inr (.inl hp))
  · exact .inr (.inr (.inr (.inr hp))))
theorem news_back {h₀ h : Heap} {L : Addr} {q a b c d : Addr × Obj} {r : List (Addr × Obj)} (N : News h₀ L h (q :: d :: a :: b :: c :: r)) : News h₀ L h (a :: b :: c :: d :: q :: r) := cb_drop N (by
  intro p hp
  simp only [List.mem_cons] at hp ⊢
  rcases hp with hp | hp | hp | hp | hp | hp
  · exact .inr (.inr (.inl hp))
  · exact .inr (.inr (.inr (.inl hp)))
  · exact .inr (.inr (.inr (.inr (.inl hp))))
  · exact .inr (.inl hp)
  · exact .inl hp
  · exact .inr (.inr (.inr (.inr (.inr hp)))))
theorem news_back2 {h₀ h : Heap} {L : Addr} {q a b c d : Addr × Obj} {r : List (Addr × Obj)} (N : News h₀ L h (q :: a :: b :: c :: d :: r)) : News h₀ L h (a :: b :: c :: d :: q :: r) := cb_drop N (by
  intro p hp
  simp only [List.mem_cons] at hp ⊢
  rcases hp with hp | hp | hp | hp | hp | hp
  · exact .inr (.inl hp)
  · exact .inr (.inr (.inl hp))
  · exact .inr (.inr (.inr (.inl hp)))
  · exact .inr (.inr (.inr (.inr (.inl hp))))
  · exact .inl hp
  · exact .inr (.inr (.inr (.inr (.inr hp)))))
theorem rows_dat {tl tl' : List (Addr × Obj)} {rvs : List Value} {rs : List Row} {rp : Addr} {vs : List Value} {n : Nat} {r : Row} (h : DatAll tl rvs (rs.map rowD)) (hs : ∀ p ∈ tl, p ∈ tl') (hm : (rp, tupO vs n) ∈ tl') (hv : RowV vs r) : DatAll tl' (rvs ++ [.ref rp]) ((rs ++ [r]).map rowD) := by
  rw [List.map_append]
  exact DatAll.append (h.mono hs) (DatAll.one (.tuple hm (rowV_dat hv _)))
theorem inv2_m {m₀ m' : Str → Option Value} (h : ∀ z, z ≠ Str.ofString "number" → z ≠ Str.ofString "row" → z ≠ Str.ofString "fault" → m' z = m₀ z) : m' = (fun z => if [Str.ofString "number", Str.ofString "row", Str.ofString "fault"].contains z then m' z else m₀ z) := by
  funext z
  split
  · rfl
  · rename_i hz
    simp only [List.contains_cons, List.contains_nil, Bool.or_false, Bool.or_eq_true, beq_iff_eq, not_or] at hz
    exact h z hz.1 hz.2.1 hz.2.2
theorem off_I {rl dl la I : Addr} {o o1 o2 o3 : Obj} {tl : List (Addr × Obj)} (h1 : @Ne Nat rl I) (h2 : @Ne Nat dl I) (h3 : @Ne Nat la I) (h4 : ∀ p ∈ tl, p.1 ≠ I) : ∀ p ∈ (rl, o1) :: (dl, o2) :: (la, o3) :: tl, ∀ q ∈ [(I, o)], p.1 ≠ q.1 := by
  intro p hp q hq
  rw [List.mem_singleton.mp hq]
  simp only [List.mem_cons] at hp
  rcases hp with hp | hp | hp | hp
  · rw [hp]; exact h1
  · rw [hp]; exact h2
  · rw [hp]; exact h3
  · exact h4 p hp
theorem br_len {x : Str} (h : (brL.any (· == x)) = true) : x.length ≤ 1048576 := by
  obtain ⟨y, hy, e⟩ := List.any_eq_true.mp h
  obtain rfl : y = x := by simpa using e
  simp only [brL, List.mem_cons, List.not_mem_nil, or_false] at hy
  rcases hy with rfl | rfl | rfl | rfl | rfl <;> decide

local macro_rules | `(tactic| walk_at "ma") => `(tactic| (walk_at "mx"; (intro rp' n' v' t1' t2' t3' t4' h' tk' g' hlt' F' N'; (try simp only [AllLt] at hlt'); (try dsimp only); (try k_sweep))))
local macro_rules | `(tactic| walk_at "call ref") => `(tactic| (k_here; (with_reducible show wpAny _ _ (call (Value.ref 277) [_, _, Value.str _ _, _, _, _]) _ _ _); k_dflt (refine' Con.useAimS ?B ?F ?X ?N ?T ?k ?d ?u (aimed_conS _ _ _ _ _ _ _ _ _ ?h1 ?h2 _ _ _ _ _ _ _ _ _ _ ?h3 ?h4) ?_ ?_; (case B => k_asm); (case F => k_asm); (case X => k_asm); (case N => exact news_laF (by k_asm)); (case T => k_asm); (case k => ktn_open); (case d => tb_start); (case u => tb_start); (case h1 => assumption); (case h2 => assumption); (case h3 => omega); (case h4 => assumption)); walk_at "ma"))
local macro_rules | `(tactic| walk_at "mA") => `(tactic| (intro rp' n' t1' t2' t3' t4' h' tk' hlt' F' N'; (try simp only [AllLt] at hlt'); (try dsimp only); (try k_sweep)))
local macro_rules | `(tactic| walk_at "call ref") => `(tactic| (k_here; (with_reducible show wpAny _ _ (call (Value.ref 277) [_, _, Value.int _ _, _, _, _]) _ _ _); k_dflt (refine' Con.useAimC ?B ?F ?X ?N ?T ?k ?d ?u (aimed_conC _ _ _ _ _ _ _ _ _ _ _ _ _ _ _ _) ?_; walk_at "m8"); walk_at "mA"))

theorem assemble_con (w : World) (mean : ExcName → Option Value) (mg mb : Str → Option Value) (news : List (Addr × Obj)) (text : Str) (t : Tok) (ht : text.length ≤ 1000000) (hls : (Txt.split text (Str.ofString "\n")).length ≤ 1000) :
    Con 14 w mean mg mb 284 news [.str text t] (fun r nw => ∃ l vs n rs tl, asmF (Txt.split text (Str.ofString "\n")) = .ok rs ∧ r = .ref l ∧ nw = (l, listOf vs.toArray n) :: tl ∧ DatAll tl vs (rs.map rowD) ∧ ∀ p ∈ news, p ∈ tl) (fun row what => asmF (Txt.split text (Str.ofString "\n")) = .error (row, what)) := by
  unfold Con
  w_top off
  k_fill
  intro dp un gd cn cs a ccd cl outer A₀ base h₀ L m s Q E B F X N T hk hd hu hret hexc
  refine wpAny_call ?_
  k_dflt cell_enter
  k_with_none
  k_with "pyIter ref" => (refine stop_in ?_)
  k_steps
  refine stop_out ?_
  (rename Fr _ _ _ _ => F1); (rename News _ _ _ _ => N1)
  refine absG fun G hG => ?_
  revert N1
  (rename News _ _ _ _ => N0)
  intro N1
  (rename List.map _ _ = Txt.split _ _ => hsp); (rename StrsAre _ _ => hS)
  (rename (_ == sysModules) = false => lo)
  have hdat := strs_dat hS []
  rw [hsp] at hdat
  (rename ∀ (a : Str), a ∈ List.map _ _ → a.length ≤ text.length => hsz)
  rw [hsp] at hsz
  (rename Obj => o0)
  obtain ⟨la, hla⟩ := news_head (news_tail N1)
  obtain ⟨dl, hdl⟩ := news_head (news_tail (news_tail N1))
  subst hla hdl
  have hlt := fun p hp => Heap.lt_size (N0 p hp).1
  have hll := hlt _ List.mem_cons_self
  have hld := hlt _ (List.mem_cons_of_mem _ List.mem_cons_self)
  (rename @LT.lt Nat _ dl la ∧ AllLt la news => l2); (first | (rename ∀ (p : Addr × Obj), p ∈ news → p.1 < dl => l1) | ((rename AllLt dl news => l0); have l1 := allLt_mem l0))
  refine hG ?_; clear hG
  refine kd_listL (σ := A1) (fun c => [(dl, listOf c.dvs.toArray c.dn), (la, c.o)]) ((_, listOf _ 0) :: news) (fun c => [(Str.ofString "number", .int c.num c.tn)]) (A1F w) [Str.ofString "tokens", Str.ofString "label", Str.ofString "reader", Str.ofString "row"] (A1P (Txt.split text (Str.ofString "\n")))
    (dl :: la :: _ :: news.map (·.1)) ⟨[], 0, [], o0, [], [], 0, _⟩ (by rfl) List.mem_cons_self (DatAll.mono (List.forall_mem_nil _) hdat) F1 N1 ?hn (fun _ => rfl) ?hf (List.forall_mem_cons.mpr ⟨rfl, List.forall_mem_nil _⟩) ?hp ?turn ?done
  case hn =>
    intro p hp
    simp only [List.append_nil, List.cons_append, List.nil_append, List.mem_cons] at hp ⊢
    rcases hp with hp | hp | hp | hp
    · exact .inr (.inr (.inl hp))
    · exact .inr (.inl hp)
    · exact .inl hp
    · exact .inr (.inr (.inr hp))
  case hf => exact ⟨by assumption, by assumption, .nil⟩
  case hp => exact ⟨rfl, rfl, Nat.le_refl _, Nat.le_refl _, List.forall_mem_nil _⟩
  case turn =>
    clear F1 N1
    intro c tl pre d post v u h tk own e hmem hD hsep hoff hF hP F1 N1
    obtain ⟨x, hx, rfl⟩ := List.mem_map.mp hmem
    cases hD
    refine absG fun G hG => ?_
    obtain ⟨hp1, hp2, hp3, hp4, hp5⟩ := hP
    obtain ⟨hx1, hx2, hx3⟩ := cut_at e
    obtain ⟨hf1, hf2, hf3⟩ := hF
    have hds := DatAll.length hf3
    have hxl := hsz x hx
    rw [List.length_map] at hds
    obtain ⟨R, hR, N2⟩ : ∃ R, R = ((_, listOf (strValues _).toArray 0) :: news) ++ (tl ++ own) ∧ News _ _ _ ((dl, listOf c.dvs.toArray c.dn) :: (la, c.o) :: R) := ⟨_, rfl, N1⟩
    have hR1 : ∀ p ∈ R, p.1 ≠ dl := by
      rw [hR]
      intro p hp
      simp only [List.mem_append, List.mem_cons] at hp
      rcases hp with (hp | hp) | hp
      · rw [hp]; exact Nat.ne_of_gt hld
      · exact Nat.ne_of_lt (l1 p hp)
      · exact hoff p (List.mem_append.mpr hp) dl List.mem_cons_self
    have hR2 : ∀ p ∈ R, p.1 ≠ la := by
      rw [hR]
      intro p hp
      simp only [List.mem_append, List.mem_cons] at hp
      rcases hp with (hp | hp) | hp
      · rw [hp]; exact Nat.ne_of_gt hll
      · exact Nat.ne_of_lt (allLt_mem l2.2 p hp)
      · exact hoff p (List.mem_append.mpr hp) la (List.mem_cons_of_mem _ List.mem_cons_self)
    clear N1 N0 hlt
    refine hG ?_; clear hG
    k_with "InvEndG" => (refine stop_in ?_)
    k_steps
    · refine stop_out ?_
      intro h' tk' ts l vs n ets hlen hs hlt F' N'
      have htk := tok_ok ets
      have htk1 : ∀ t ∈ ts, t.length ≤ 1048576 := fun t ht => by have := (htk t ht).2; omega
      have htk2 : ∀ t ∈ ts, 1 ≤ t.length := fun t ht => (htk t ht).1
      dsimp only
      simp only [AllLt, and_true] at hlt
      k_steps
      all_goals first
        | exact hexc _ _ _ _ _ (by assumption) (exc_close (by assumption) (by assumption)).1 (exc_close (by assumption) (by assumption)).2 (err_at hp1 (lines_err e hp2 (by unfold stepF restF; rw [ets]; dsimp only; (((repeat (first | ((with_reducible refine ifp ?_ ?_); · with_reducible assumption) | ((with_reducible refine ifn ?_ ?_); · (first | (with_reducible refine ne_true_of_eq_false ?_; with_reducible assumption) | (with_reducible refine ne_false_of_eq_true ?_; with_reducible assumption) | (with_reducible assumption))) | ((with_reducible refine bind_ok (by with_reducible assumption) ?_); try dsimp only) | ((with_reducible refine ifp ?_ ?_); · (first | (with_reducible assumption) | omega | (with_reducible exact ⟨by omega, by with_reducible assumption⟩))) | ((with_reducible refine ifn ?_ ?_); · (first | (with_reducible refine ne_true_of_eq_false ?_; with_reducible assumption) | (with_reducible refine ne_false_of_eq_true ?_; with_reducible assumption) | omega | (with_reducible refine not_and_l ?_; omega) | (with_reducible refine not_and_r ?_; with_reducible refine ne_true_of_eq_false ?_; with_reducible assumption))))); first | done | (with_reducible exact bind_err (by with_reducible assumption)) | (with_reducible assumption) | (with_reducible exact rfl))))))
        | skip
      all_goals (refine stop_out ?_; (rename News _ _ _ _ => nE); (try simp only [List.push_toArray] at nE))
      · (rename _ ∧ _ ∧ _ ∧ _ ∧ _ ∧ _ ∧ _ ∧ AllLt _ R => hD); (rename _ ∧ _ ∧ _ ∧ _ ∧ _ ∧ _ ∧ AllLt _ R => hQ); (rename RowV _ _ => hv); (rename RdOk _ _ _ _ _ => hO); (rename readRowF _ _ = Except.ok _ => hrr); (rename Obj.IsDictOf _ _ _ => hI); (rename PyProof.V.FlatPairs _ _ _ => hFl)
        obtain ⟨D, hDe⟩ := news_head nE
        obtain ⟨rp, hrp⟩ := news_head (news_tail (news_tail (news_tail nE)))
        subst hDe hrp
        refine kd_end (tl := tl) (⟨c.dvs ++ [.ref D], c.dn + 1, c.ds ++ [(c.num + 1, _)], _, _, kdpPut c.c _ c.ds.length, c.num + 1, _⟩ : A1) [(D, _), (rp, _)] hsep (by assumption) nE (led_in (by k_mem) (by k_mem) (List.forall_mem_cons.mpr ⟨List.mem_cons_self, List.forall_mem_cons.mpr ⟨(List.mem_cons_of_mem _ (List.mem_cons_of_mem _ (List.mem_cons_of_mem _ List.mem_cons_self))), List.forall_mem_nil _⟩⟩) (by rw [← hR]; intro p hp; repeat (first | exact hp | apply List.mem_cons_of_mem))) (own_in (by rw [← hR]; intro p hp; repeat (first | exact hp | apply List.mem_cons_of_mem))) rfl
          (List.forall_mem_cons.mpr ⟨adr_off (by omega) (by omega) hD.2.2.2.2.2.2.2 hR, List.forall_mem_cons.mpr ⟨adr_off (by omega) (by omega) hQ.2.2.2.2.2.2 hR, List.forall_mem_nil _⟩⟩) (List.forall_mem_cons.mpr ⟨own_off hD.2.2.2.2.2.2.2 hR, List.forall_mem_cons.mpr ⟨own_off hQ.2.2.2.2.2.2 hR, List.forall_mem_nil _⟩⟩)
          (List.forall_mem_cons.mpr ⟨rfl, List.forall_mem_nil _⟩) ?hr ⟨hI, hFl, ?hdd⟩ ⟨?hn1, lines_okk e hp1 hp2 (by unfold stepF restF; rw [ets]; dsimp only; (((repeat (first | ((with_reducible refine ifp ?_ ?_); · with_reducible assumption) | ((with_reducible refine ifn ?_ ?_); · (first | (with_reducible refine ne_true_of_eq_false ?_; with_reducible assumption) | (with_reducible refine ne_false_of_eq_true ?_; with_reducible assumption) | (with_reducible assumption))) | ((with_reducible refine bind_ok (by with_reducible assumption) ?_); try dsimp only) | ((with_reducible refine ifp ?_ ?_); · (first | (with_reducible assumption) | omega | (with_reducible exact ⟨by omega, by with_reducible assumption⟩))) | ((with_reducible refine ifn ?_ ?_); · (first | (with_reducible refine ne_true_of_eq_false ?_; with_reducible assumption) | (with_reducible refine ne_false_of_eq_true ?_; with_reducible assumption) | omega | (with_reducible refine not_and_l ?_; omega) | (with_reducible refine not_and_r ?_; with_reducible refine ne_true_of_eq_false ?_; with_reducible assumption))))); first | done | (with_reducible exact bind_err (by with_reducible assumption)) | (with_reducible assumption) | (with_reducible exact rfl)))), ?hn2, ?hn3, List.forall_mem_append.mpr ⟨hp5, List.forall_mem_cons.mpr ⟨readRow_ok hO.sz hrr, List.forall_mem_nil _⟩⟩⟩
        case hdd =>
          rw [List.map_append]
          exact DatAll.append (hf3.mono kd_sub) (DatAll.one (.tuple (kd_new List.mem_cons_self) (.cons (.int _ _) (.cons (.tuple (kd_new (List.mem_cons_of_mem _ List.mem_cons_self)) (rowV_dat hv _)) .nil))))
        case hr =>
          intro z h1 h2 h3
          (simp only [List.forall_mem_cons, List.not_mem_nil, false_implies, implies_true, and_true, ne_eq] at h2); (simp only [List.contains_cons, List.contains_nil, Bool.or_false, Bool.or_eq_false_iff, beq_eq_false_iff_ne, ne_eq] at h3)
          simp [kstB, h1, h2, h3]
        case hn1 => simp only [List.length_append, List.length_cons, List.length_nil]; omega
        case hn2 => simp only [List.length_append, List.length_cons, List.length_nil]; omega
        case hn3 => simp only [List.length_append, List.length_cons, List.length_nil]; exact Nat.le_trans (kdpPut_len _ _ _) (by omega)
      · (rename Obj.IsDictOf _ _ _ => hI); (rename PyProof.V.FlatPairs _ _ _ => hFl)
        refine kd_end (tl := tl) (⟨c.dvs, c.dn, c.ds, _, _, kdpPut c.c _ c.ds.length, c.num + 1, _⟩ : A1) [] hsep (by assumption) nE (led_in (by k_mem) (by k_mem) (List.forall_mem_nil _) (by rw [← hR]; intro p hp; repeat (first | exact hp | apply List.mem_cons_of_mem))) (own_in (by rw [← hR]; intro p hp; repeat (first | exact hp | apply List.mem_cons_of_mem))) rfl
          (List.forall_mem_nil _) (List.forall_mem_nil _)
          (List.forall_mem_cons.mpr ⟨rfl, List.forall_mem_nil _⟩) ?hr ⟨hI, hFl, hf3.mono kd_sub⟩ ⟨?hn1, lines_okk e hp1 hp2 (by unfold stepF restF; rw [ets]; dsimp only; (((repeat (first | ((with_reducible refine ifp ?_ ?_); · with_reducible assumption) | ((with_reducible refine ifn ?_ ?_); · (first | (with_reducible refine ne_true_of_eq_false ?_; with_reducible assumption) | (with_reducible refine ne_false_of_eq_true ?_; with_reducible assumption) | (with_reducible assumption))) | ((with_reducible refine bind_ok (by with_reducible assumption) ?_); try dsimp only) | ((with_reducible refine ifp ?_ ?_); · (first | (with_reducible assumption) | omega | (with_reducible exact ⟨by omega, by with_reducible assumption⟩))) | ((with_reducible refine ifn ?_ ?_); · (first | (with_reducible refine ne_true_of_eq_false ?_; with_reducible assumption) | (with_reducible refine ne_false_of_eq_true ?_; with_reducible assumption) | omega | (with_reducible refine not_and_l ?_; omega) | (with_reducible refine not_and_r ?_; with_reducible refine ne_true_of_eq_false ?_; with_reducible assumption))))); first | done | (with_reducible exact bind_err (by with_reducible assumption)) | (with_reducible assumption) | (with_reducible exact rfl)))), ?hn2, ?hn3, hp5⟩
        case hr =>
          intro z h1 h2 h3
          (simp only [List.forall_mem_cons, List.not_mem_nil, false_implies, implies_true, and_true, ne_eq] at h2); (simp only [List.contains_cons, List.contains_nil, Bool.or_false, Bool.or_eq_false_iff, beq_eq_false_iff_ne, ne_eq] at h3)
          simp [kstB, h1, h2, h3]
        case hn1 => simp only [List.length_append, List.length_cons, List.length_nil]; omega
        case hn2 => simp only [List.length_append, List.length_cons, List.length_nil]; omega
        case hn3 => simp only [List.length_append, List.length_cons, List.length_nil]; exact Nat.le_trans (kdpPut_len _ _ _) (by omega)
      · (rename _ ∧ _ ∧ _ ∧ _ ∧ _ ∧ _ ∧ AllLt _ R => hD); (rename _ ∧ _ ∧ _ ∧ _ ∧ _ ∧ AllLt _ R => hQ); (rename RowV _ _ => hv); (rename RdOk _ _ _ _ _ => hO); (rename readRowF _ _ = Except.ok _ => hrr); (rename Obj.IsDictOf _ _ _ => hI); (rename PyProof.V.FlatPairs _ _ _ => hFl)
        obtain ⟨D, hDe⟩ := news_head nE
        obtain ⟨rp, hrp⟩ := news_head (news_tail (news_tail (news_tail nE)))
        subst hDe hrp
        refine kd_end (tl := tl) (⟨c.dvs ++ [.ref D], c.dn + 1, c.ds ++ [(c.num + 1, _)], _, _, c.c, c.num + 1, _⟩ : A1) [(D, _), (rp, _)] hsep (by assumption) nE (led_in (by k_mem) (by k_mem) (List.forall_mem_cons.mpr ⟨List.mem_cons_self, List.forall_mem_cons.mpr ⟨(List.mem_cons_of_mem _ (List.mem_cons_of_mem _ (List.mem_cons_of_mem _ List.mem_cons_self))), List.forall_mem_nil _⟩⟩) (by rw [← hR]; intro p hp; repeat (first | exact hp | apply List.mem_cons_of_mem))) (own_in (by rw [← hR]; intro p hp; repeat (first | exact hp | apply List.mem_cons_of_mem))) rfl
          (List.forall_mem_cons.mpr ⟨adr_off (by omega) (by omega) hD.2.2.2.2.2.2 hR, List.forall_mem_cons.mpr ⟨adr_off (by omega) (by omega) hQ.2.2.2.2.2 hR, List.forall_mem_nil _⟩⟩) (List.forall_mem_cons.mpr ⟨own_off hD.2.2.2.2.2.2 hR, List.forall_mem_cons.mpr ⟨own_off hQ.2.2.2.2.2 hR, List.forall_mem_nil _⟩⟩)
          (List.forall_mem_cons.mpr ⟨rfl, List.forall_mem_nil _⟩) ?hr ⟨hI, hFl, ?hdd⟩ ⟨?hn1, lines_okk e hp1 hp2 (by unfold stepF restF; rw [ets]; dsimp only; (((repeat (first | ((with_reducible refine ifp ?_ ?_); · with_reducible assumption) | ((with_reducible refine ifn ?_ ?_); · (first | (with_reducible refine ne_true_of_eq_false ?_; with_reducible assumption) | (with_reducible refine ne_false_of_eq_true ?_; with_reducible assumption) | (with_reducible assumption))) | ((with_reducible refine bind_ok (by with_reducible assumption) ?_); try dsimp only) | ((with_reducible refine ifp ?_ ?_); · (first | (with_reducible assumption) | omega | (with_reducible exact ⟨by omega, by with_reducible assumption⟩))) | ((with_reducible refine ifn ?_ ?_); · (first | (with_reducible refine ne_true_of_eq_false ?_; with_reducible assumption) | (with_reducible refine ne_false_of_eq_true ?_; with_reducible assumption) | omega | (with_reducible refine not_and_l ?_; omega) | (with_reducible refine not_and_r ?_; with_reducible refine ne_true_of_eq_false ?_; with_reducible assumption))))); first | done | (with_reducible exact bind_err (by with_reducible assumption)) | (with_reducible assumption) | (with_reducible exact rfl)))), ?hn2, ?hn3, List.forall_mem_append.mpr ⟨hp5, List.forall_mem_cons.mpr ⟨readRow_ok hO.sz hrr, List.forall_mem_nil _⟩⟩⟩
        case hdd =>
          rw [List.map_append]
          exact DatAll.append (hf3.mono kd_sub) (DatAll.one (.tuple (kd_new List.mem_cons_self) (.cons (.int _ _) (.cons (.tuple (kd_new (List.mem_cons_of_mem _ List.mem_cons_self)) (rowV_dat hv _)) .nil))))
        case hr =>
          intro z h1 h2 h3
          (simp only [List.forall_mem_cons, List.not_mem_nil, false_implies, implies_true, and_true, ne_eq] at h2); (simp only [List.contains_cons, List.contains_nil, Bool.or_false, Bool.or_eq_false_iff, beq_eq_false_iff_ne, ne_eq] at h3)
          simp [kstB, h1, h2, h3]
        case hn1 => simp only [List.length_append, List.length_cons, List.length_nil]; omega
        case hn2 => simp only [List.length_append, List.length_cons, List.length_nil]; omega
        case hn3 => simp only [List.length_append, List.length_cons, List.length_nil]; omega
      · (rename Obj.IsDictOf _ _ _ => hI); (rename PyProof.V.FlatPairs _ _ _ => hFl)
        refine kd_end (tl := tl) (⟨c.dvs, c.dn, c.ds, _, _, c.c, c.num + 1, _⟩ : A1) [] hsep (by assumption) nE (led_in (by k_mem) (by k_mem) (List.forall_mem_nil _) (by rw [← hR]; intro p hp; repeat (first | exact hp | apply List.mem_cons_of_mem))) (own_in (by rw [← hR]; intro p hp; repeat (first | exact hp | apply List.mem_cons_of_mem))) rfl
          (List.forall_mem_nil _) (List.forall_mem_nil _)
          (List.forall_mem_cons.mpr ⟨rfl, List.forall_mem_nil _⟩) ?hr ⟨hI, hFl, hf3.mono kd_sub⟩ ⟨?hn1, lines_okk e hp1 hp2 (by unfold stepF restF; rw [ets]; dsimp only; (((repeat (first | ((with_reducible refine ifp ?_ ?_); · with_reducible assumption) | ((with_reducible refine ifn ?_ ?_); · (first | (with_reducible refine ne_true_of_eq_false ?_; with_reducible assumption) | (with_reducible refine ne_false_of_eq_true ?_; with_reducible assumption) | (with_reducible assumption))) | ((with_reducible refine bind_ok (by with_reducible assumption) ?_); try dsimp only) | ((with_reducible refine ifp ?_ ?_); · (first | (with_reducible assumption) | omega | (with_reducible exact ⟨by omega, by with_reducible assumption⟩))) | ((with_reducible refine ifn ?_ ?_); · (first | (with_reducible refine ne_true_of_eq_false ?_; with_reducible assumption) | (with_reducible refine ne_false_of_eq_true ?_; with_reducible assumption) | omega | (with_reducible refine not_and_l ?_; omega) | (with_reducible refine not_and_r ?_; with_reducible refine ne_true_of_eq_false ?_; with_reducible assumption))))); first | done | (with_reducible exact bind_err (by with_reducible assumption)) | (with_reducible assumption) | (with_reducible exact rfl)))), ?hn2, ?hn3, hp5⟩
        case hr =>
          intro z h1 h2 h3
          (simp only [List.forall_mem_cons, List.not_mem_nil, false_implies, implies_true, and_true, ne_eq] at h2); (simp only [List.contains_cons, List.contains_nil, Bool.or_false, Bool.or_eq_false_iff, beq_eq_false_iff_ne, ne_eq] at h3)
          simp [kstB, h1, h2, h3]
        case hn1 => simp only [List.length_append, List.length_cons, List.length_nil]; omega
        case hn2 => simp only [List.length_append, List.length_cons, List.length_nil]; omega
        case hn3 => simp only [List.length_append, List.length_cons, List.length_nil]; omega
    · (rename rowTokensF _ = none => h1)
      exact hexc _ _ _ _ _ (by assumption) (exc_close (by assumption) (by assumption)).1 (exc_close (by assumption) (by assumption)).2 (err_at hp1 (lines_err e hp2 (by unfold stepF; rw [h1])))
  case done =>
    clear F1 N1
    intro c tl u h tk htl hF hP F1 N1
    refine absG fun G hG => ?_
    obtain ⟨hf1, hf2, hf3⟩ := hF
    obtain ⟨hp1, hp2, hp3, hp4, hp5⟩ := hP
    rw [List.length_map] at hp1 hp2 hp3 hp4
    have hds := DatAll.length hf3
    rw [List.length_map] at hds
    obtain ⟨R, hR, N2⟩ : ∃ R, R = ((_, listOf (strValues _).toArray 0) :: news) ++ tl ∧ News _ _ _ ((dl, listOf c.dvs.toArray c.dn) :: (la, c.o) :: R) := ⟨_, rfl, N1⟩
    rw [← hR] at hf3
    have hnR : ∀ p ∈ news, p ∈ R := fun p hp => by rw [hR]; exact List.mem_append.mpr (.inl (List.mem_cons_of_mem _ hp))
    have hasm := asm_ok rfl hp2
    clear N1 N0 hlt
    refine hG ?_; clear hG
    k_with_none
    k_with "exec For Tuple Name cons nil" => (refine stop_in ?_)
    k_with "pyIter ref" => (refine stop_in ?_)
    k_steps
    refine stop_out ?_
    (rename Fr _ _ _ _ => F3); (rename News _ _ _ _ => N3)
    with_unfolding_all refine' For_turns F3 ?_
    k_steps
    refine stop_out ?_
    (rename Fr _ _ _ _ => F4); (rename News _ _ _ _ => N4)
    obtain ⟨rl, hrl⟩ := news_head N4
    subst hrl
    (rename _ ∧ _ ∧ AllLt rl R => hrl)
    refine list_for (Inv2 _ c rl dl la R) (by rfl) F4 N4 (List.mem_cons_of_mem _ List.mem_cons_self) (Inv2.start (fun p hp => Nat.ne_of_lt (allLt_mem hrl.2.2 p hp)) hf3 hp5 (by omega)) ?turn2 ?done2
    case turn2 =>
      clear F4 N4
      intro v r m₁ nx h tk I o hI0 hoff F4 N4
      refine absG fun G hG => ?_
      obtain ⟨u2, ds, rs, rvs, rn, tl2, rfl, rfl, hi1, hi2, hi3, hi4, hi5, hi6, hi7⟩ := hI0
      cases ds with
      | nil => cases hi3
      | cons d ds =>
        obtain ⟨k, row⟩ := d
        obtain _ | ⟨hv, hi3⟩ := hi3
        obtain ⟨a', n', t', rp, vs, n2, rfl, hm1, hm2, hrv⟩ := draft_inv hv
        have hm1' := hi1 _ hm1
        have hm2' := hi1 _ hm2
        have hok := hi6 _ List.mem_cons_self
        have hrvs := DatAll.length hi4
        rw [List.length_map] at hrvs
        have hI1 : @Ne Nat rl I := hoff _ List.mem_cons_self
        have hI2 : @Ne Nat dl I := hoff _ (List.mem_cons_of_mem _ List.mem_cons_self)
        have hI3 : @Ne Nat la I := hoff _ (List.mem_cons_of_mem _ (List.mem_cons_of_mem _ List.mem_cons_self))
        k_with "UnrEndW" => (refine stop_in ?_)
        cases hrv
        · obtain ⟨hb, hxl⟩ := hok
          refine hG ?_; clear hG
          k_steps
          · exact (br_no hb (.inl (by with_reducible assumption))).elim
          · exact (br_no hb (.inr (by with_reducible assumption))).elim
          · exact hexc _ _ _ _ _ (by assumption) (exc_close (by assumption) (by assumption)).1 (exc_close (by assumption) (by assumption)).2 (hasm.trans (hi5.trans (rows_err2 (by unfold aimF; (((repeat (first | ((with_reducible refine ifp ?_ ?_); · with_reducible assumption) | ((with_reducible refine ifn ?_ ?_); · (first | (with_reducible refine ne_true_of_eq_false ?_; with_reducible assumption) | (with_reducible refine ne_false_of_eq_true ?_; with_reducible assumption) | (with_reducible assumption))) | ((with_reducible refine bind_ok (by with_reducible assumption) ?_); try dsimp only) | ((with_reducible refine ifp ?_ ?_); · (first | (with_reducible assumption) | omega | (with_reducible exact ⟨by omega, by with_reducible assumption⟩))) | ((with_reducible refine ifn ?_ ?_); · (first | (with_reducible refine ne_true_of_eq_false ?_; with_reducible assumption) | (with_reducible refine ne_false_of_eq_true ?_; with_reducible assumption) | omega | (with_reducible refine not_and_l ?_; omega) | (with_reducible refine not_and_r ?_; with_reducible refine ne_true_of_eq_false ?_; with_reducible assumption))))); first | done | (with_reducible exact bind_err (by with_reducible assumption)) | (with_reducible assumption) | (with_reducible exact rfl)))) (by rfl) (by with_reducible assumption))))
          · (refine stop_out ?_; (rename News _ _ _ _ => nE); (try simp only [List.push_toArray] at nE); refine ⟨_, _, _, (rl, listOf (rvs ++ ([Value.ref rp] : List Value)).toArray (rn + 1)) :: (dl, listOf c.dvs.toArray c.dn) :: (la, c.o) :: tl2, rfl, by assumption, nE, off_I hI1 hI2 hI3 (fun p hp => hoff p (List.mem_cons_of_mem _ (List.mem_cons_of_mem _ (List.mem_cons_of_mem _ hp)))), List.mem_cons_of_mem _ List.mem_cons_self, _, ds, rs ++ [.I _ _ _ _], rvs ++ ([Value.ref rp] : List Value), rn + 1, tl2, inv2_m (by intro z h1 h2 h3; simp [h1, h2, h3]), rfl, hi1, hi2, hi3, rows_dat hi4 (fun _ h => h) hm2' .I, hi5.trans (rows_ok (by unfold aimF; (((repeat (first | ((with_reducible refine ifp ?_ ?_); · with_reducible assumption) | ((with_reducible refine ifn ?_ ?_); · (first | (with_reducible refine ne_true_of_eq_false ?_; with_reducible assumption) | (with_reducible refine ne_false_of_eq_true ?_; with_reducible assumption) | (with_reducible assumption))) | ((with_reducible refine bind_ok (by with_reducible assumption) ?_); try dsimp only) | ((with_reducible refine ifp ?_ ?_); · (first | (with_reducible assumption) | omega | (with_reducible exact ⟨by omega, by with_reducible assumption⟩))) | ((with_reducible refine ifn ?_ ?_); · (first | (with_reducible refine ne_true_of_eq_false ?_; with_reducible assumption) | (with_reducible refine ne_false_of_eq_true ?_; with_reducible assumption) | omega | (with_reducible refine not_and_l ?_; omega) | (with_reducible refine not_and_r ?_; with_reducible refine ne_true_of_eq_false ?_; with_reducible assumption))))); first | done | (with_reducible exact bind_err (by with_reducible assumption)) | (with_reducible assumption) | (with_reducible exact rfl)))) (by rfl) (by show (rowFaultI _ _ _ _ != Str.ofString "") = false; with_reducible assumption)), fun p hp => hi6 p (List.mem_cons_of_mem _ hp), (by rw [List.length_append, List.length_cons, List.length_nil]; rw [List.length_cons] at hi7; omega)⟩)
        · obtain ⟨hx | hx, hzl⟩ := hok
          all_goals subst hx
          · have hb : (brL.any (· == Str.ofString "B")) = true := by decide +kernel
            refine hG ?_; clear hG
            k_steps
            all_goals first
              | exact hexc _ _ _ _ _ (by assumption) (exc_close (by assumption) (by assumption)).1 (exc_close (by assumption) (by assumption)).2 (hasm.trans (hi5.trans (rows_err1 (by unfold aimF; (((repeat (first | ((with_reducible refine ifp ?_ ?_); · with_reducible assumption) | ((with_reducible refine ifn ?_ ?_); · (first | (with_reducible refine ne_true_of_eq_false ?_; with_reducible assumption) | (with_reducible refine ne_false_of_eq_true ?_; with_reducible assumption) | (with_reducible assumption))) | ((with_reducible refine bind_ok (by with_reducible assumption) ?_); try dsimp only) | ((with_reducible refine ifp ?_ ?_); · (first | (with_reducible assumption) | omega | (with_reducible exact ⟨by omega, by with_reducible assumption⟩))) | ((with_reducible refine ifn ?_ ?_); · (first | (with_reducible refine ne_true_of_eq_false ?_; with_reducible assumption) | (with_reducible refine ne_false_of_eq_true ?_; with_reducible assumption) | omega | (with_reducible refine not_and_l ?_; omega) | (with_reducible refine not_and_r ?_; with_reducible refine ne_true_of_eq_false ?_; with_reducible assumption))))); first | done | (with_reducible exact bind_err (by with_reducible assumption)) | (with_reducible assumption) | (with_reducible exact rfl)))))))
              | exact hexc _ _ _ _ _ (by assumption) (exc_close (by assumption) (by assumption)).1 (exc_close (by assumption) (by assumption)).2 (hasm.trans (hi5.trans (rows_err2 (by unfold aimF; (((repeat (first | ((with_reducible refine ifp ?_ ?_); · with_reducible assumption) | ((with_reducible refine ifn ?_ ?_); · (first | (with_reducible refine ne_true_of_eq_false ?_; with_reducible assumption) | (with_reducible refine ne_false_of_eq_true ?_; with_reducible assumption) | (with_reducible assumption))) | ((with_reducible refine bind_ok (by with_reducible assumption) ?_); try dsimp only) | ((with_reducible refine ifp ?_ ?_); · (first | (with_reducible assumption) | omega | (with_reducible exact ⟨by omega, by with_reducible assumption⟩))) | ((with_reducible refine ifn ?_ ?_); · (first | (with_reducible refine ne_true_of_eq_false ?_; with_reducible assumption) | (with_reducible refine ne_false_of_eq_true ?_; with_reducible assumption) | omega | (with_reducible refine not_and_l ?_; omega) | (with_reducible refine not_and_r ?_; with_reducible refine ne_true_of_eq_false ?_; with_reducible assumption))))); first | done | (with_reducible exact bind_err (by with_reducible assumption)) | (with_reducible assumption) | (with_reducible exact rfl)))) (by rfl) (by with_reducible assumption))))
              | (refine stop_out ?_; (rename News _ _ _ _ => nE); (try simp only [List.push_toArray] at nE); (obtain ⟨rq, hrq⟩ := news_head nE); subst hrq; refine ⟨_, _, _, (rl, listOf (rvs ++ ([Value.ref rq] : List Value)).toArray (rn + 1)) :: (dl, listOf c.dvs.toArray c.dn) :: (la, c.o) :: ((rq, _) :: tl2), rfl, by assumption, (news_back nE), off_I hI1 hI2 hI3 (List.forall_mem_cons.mpr ⟨(by show @Ne Nat rq I; omega), (fun p hp => hoff p (List.mem_cons_of_mem _ (List.mem_cons_of_mem _ (List.mem_cons_of_mem _ hp))))⟩), List.mem_cons_of_mem _ List.mem_cons_self, _, ds, rs ++ [.C _ _ _ _], rvs ++ ([Value.ref rq] : List Value), rn + 1, ((rq, _) :: tl2), inv2_m (by intro z h1 h2 h3; simp [h1, h2, h3]), rfl, (fun p hp => List.mem_cons_of_mem _ (hi1 p hp)), (List.forall_mem_cons.mpr ⟨(by show @Ne Nat rq rl; omega), hi2⟩), hi3, rows_dat hi4 (fun _ h => List.mem_cons_of_mem _ h) List.mem_cons_self .C, hi5.trans (rows_ok (by unfold aimF; (((repeat (first | ((with_reducible refine ifp ?_ ?_); · with_reducible assumption) | ((with_reducible refine ifn ?_ ?_); · (first | (with_reducible refine ne_true_of_eq_false ?_; with_reducible assumption) | (with_reducible refine ne_false_of_eq_true ?_; with_reducible assumption) | (with_reducible assumption))) | ((with_reducible refine bind_ok (by with_reducible assumption) ?_); try dsimp only) | ((with_reducible refine ifp ?_ ?_); · (first | (with_reducible assumption) | omega | (with_reducible exact ⟨by omega, by with_reducible assumption⟩))) | ((with_reducible refine ifn ?_ ?_); · (first | (with_reducible refine ne_true_of_eq_false ?_; with_reducible assumption) | (with_reducible refine ne_false_of_eq_true ?_; with_reducible assumption) | omega | (with_reducible refine not_and_l ?_; omega) | (with_reducible refine not_and_r ?_; with_reducible refine ne_true_of_eq_false ?_; with_reducible assumption))))); first | done | (with_reducible exact bind_err (by with_reducible assumption)) | (with_reducible assumption) | (with_reducible exact rfl)))) (by rfl) (by show (brFault _ _ _ _ != Str.ofString "") = false; with_reducible assumption)), fun p hp => hi6 p (List.mem_cons_of_mem _ hp), (by rw [List.length_append, List.length_cons, List.length_nil]; rw [List.length_cons] at hi7; omega)⟩)
          · have hb : (brL.any (· == Str.ofString "BL")) = true := by decide +kernel
            refine hG ?_; clear hG
            k_steps
            all_goals first
              | exact hexc _ _ _ _ _ (by assumption) (exc_close (by assumption) (by assumption)).1 (exc_close (by assumption) (by assumption)).2 (hasm.trans (hi5.trans (rows_err1 (by unfold aimF; (((repeat (first | ((with_reducible refine ifp ?_ ?_); · with_reducible assumption) | ((with_reducible refine ifn ?_ ?_); · (first | (with_reducible refine ne_true_of_eq_false ?_; with_reducible assumption) | (with_reducible refine ne_false_of_eq_true ?_; with_reducible assumption) | (with_reducible assumption))) | ((with_reducible refine bind_ok (by with_reducible assumption) ?_); try dsimp only) | ((with_reducible refine ifp ?_ ?_); · (first | (with_reducible assumption) | omega | (with_reducible exact ⟨by omega, by with_reducible assumption⟩))) | ((with_reducible refine ifn ?_ ?_); · (first | (with_reducible refine ne_true_of_eq_false ?_; with_reducible assumption) | (with_reducible refine ne_false_of_eq_true ?_; with_reducible assumption) | omega | (with_reducible refine not_and_l ?_; omega) | (with_reducible refine not_and_r ?_; with_reducible refine ne_true_of_eq_false ?_; with_reducible assumption))))); first | done | (with_reducible exact bind_err (by with_reducible assumption)) | (with_reducible assumption) | (with_reducible exact rfl)))))))
              | exact hexc _ _ _ _ _ (by assumption) (exc_close (by assumption) (by assumption)).1 (exc_close (by assumption) (by assumption)).2 (hasm.trans (hi5.trans (rows_err2 (by unfold aimF; (((repeat (first | ((with_reducible refine ifp ?_ ?_); · with_reducible assumption) | ((with_reducible refine ifn ?_ ?_); · (first | (with_reducible refine ne_true_of_eq_false ?_; with_reducible assumption) | (with_reducible refine ne_false_of_eq_true ?_; with_reducible assumption) | (with_reducible assumption))) | ((with_reducible refine bind_ok (by with_reducible assumption) ?_); try dsimp only) | ((with_reducible refine ifp ?_ ?_); · (first | (with_reducible assumption) | omega | (with_reducible exact ⟨by omega, by with_reducible assumption⟩))) | ((with_reducible refine ifn ?_ ?_); · (first | (with_reducible refine ne_true_of_eq_false ?_; with_reducible assumption) | (with_reducible refine ne_false_of_eq_true ?_; with_reducible assumption) | omega | (with_reducible refine not_and_l ?_; omega) | (with_reducible refine not_and_r ?_; with_reducible refine ne_true_of_eq_false ?_; with_reducible assumption))))); first | done | (with_reducible exact bind_err (by with_reducible assumption)) | (with_reducible assumption) | (with_reducible exact rfl)))) (by rfl) (by with_reducible assumption))))
              | (refine stop_out ?_; (rename News _ _ _ _ => nE); (try simp only [List.push_toArray] at nE); (obtain ⟨rq, hrq⟩ := news_head nE); subst hrq; refine ⟨_, _, _, (rl, listOf (rvs ++ ([Value.ref rq] : List Value)).toArray (rn + 1)) :: (dl, listOf c.dvs.toArray c.dn) :: (la, c.o) :: ((rq, _) :: tl2), rfl, by assumption, (news_back nE), off_I hI1 hI2 hI3 (List.forall_mem_cons.mpr ⟨(by show @Ne Nat rq I; omega), (fun p hp => hoff p (List.mem_cons_of_mem _ (List.mem_cons_of_mem _ (List.mem_cons_of_mem _ hp))))⟩), List.mem_cons_of_mem _ List.mem_cons_self, _, ds, rs ++ [.C _ _ _ _], rvs ++ ([Value.ref rq] : List Value), rn + 1, ((rq, _) :: tl2), inv2_m (by intro z h1 h2 h3; simp [h1, h2, h3]), rfl, (fun p hp => List.mem_cons_of_mem _ (hi1 p hp)), (List.forall_mem_cons.mpr ⟨(by show @Ne Nat rq rl; omega), hi2⟩), hi3, rows_dat hi4 (fun _ h => List.mem_cons_of_mem _ h) List.mem_cons_self .C, hi5.trans (rows_ok (by unfold aimF; (((repeat (first | ((with_reducible refine ifp ?_ ?_); · with_reducible assumption) | ((with_reducible refine ifn ?_ ?_); · (first | (with_reducible refine ne_true_of_eq_false ?_; with_reducible assumption) | (with_reducible refine ne_false_of_eq_true ?_; with_reducible assumption) | (with_reducible assumption))) | ((with_reducible refine bind_ok (by with_reducible assumption) ?_); try dsimp only) | ((with_reducible refine ifp ?_ ?_); · (first | (with_reducible assumption) | omega | (with_reducible exact ⟨by omega, by with_reducible assumption⟩))) | ((with_reducible refine ifn ?_ ?_); · (first | (with_reducible refine ne_true_of_eq_false ?_; with_reducible assumption) | (with_reducible refine ne_false_of_eq_true ?_; with_reducible assumption) | omega | (with_reducible refine not_and_l ?_; omega) | (with_reducible refine not_and_r ?_; with_reducible refine ne_true_of_eq_false ?_; with_reducible assumption))))); first | done | (with_reducible exact bind_err (by with_reducible assumption)) | (with_reducible assumption) | (with_reducible exact rfl)))) (by rfl) (by show (brFault _ _ _ _ != Str.ofString "") = false; with_reducible assumption)), fun p hp => hi6 p (List.mem_cons_of_mem _ hp), (by rw [List.length_append, List.length_cons, List.length_nil]; rw [List.length_cons] at hi7; omega)⟩)
        · have hb := hok
          unfold RowOk at hb
          have hxl := br_len hb
          refine hG ?_; clear hG
          k_steps
          all_goals first
            | exact hexc _ _ _ _ _ (by assumption) (exc_close (by assumption) (by assumption)).1 (exc_close (by assumption) (by assumption)).2 (hasm.trans (hi5.trans (rows_err2 (by unfold aimF; (((repeat (first | ((with_reducible refine ifp ?_ ?_); · with_reducible assumption) | ((with_reducible refine ifn ?_ ?_); · (first | (with_reducible refine ne_true_of_eq_false ?_; with_reducible assumption) | (with_reducible refine ne_false_of_eq_true ?_; with_reducible assumption) | (with_reducible assumption))) | ((with_reducible refine bind_ok (by with_reducible assumption) ?_); try dsimp only) | ((with_reducible refine ifp ?_ ?_); · (first | (with_reducible assumption) | omega | (with_reducible exact ⟨by omega, by with_reducible assumption⟩))) | ((with_reducible refine ifn ?_ ?_); · (first | (with_reducible refine ne_true_of_eq_false ?_; with_reducible assumption) | (with_reducible refine ne_false_of_eq_true ?_; with_reducible assumption) | omega | (with_reducible refine not_and_l ?_; omega) | (with_reducible refine not_and_r ?_; with_reducible refine ne_true_of_eq_false ?_; with_reducible assumption))))); first | done | (with_reducible exact bind_err (by with_reducible assumption)) | (with_reducible assumption) | (with_reducible exact rfl)))) (by rfl) (by with_reducible assumption))))
            | (refine stop_out ?_; (rename News _ _ _ _ => nE); (try simp only [List.push_toArray] at nE); refine ⟨_, _, _, (rl, listOf (rvs ++ ([Value.ref rp] : List Value)).toArray (rn + 1)) :: (dl, listOf c.dvs.toArray c.dn) :: (la, c.o) :: tl2, rfl, by assumption, nE, off_I hI1 hI2 hI3 (fun p hp => hoff p (List.mem_cons_of_mem _ (List.mem_cons_of_mem _ (List.mem_cons_of_mem _ hp)))), List.mem_cons_of_mem _ List.mem_cons_self, _, ds, rs ++ [.C _ _ _ _], rvs ++ ([Value.ref rp] : List Value), rn + 1, tl2, inv2_m (by intro z h1 h2 h3; simp [h1, h2, h3]), rfl, hi1, hi2, hi3, rows_dat hi4 (fun _ h => h) hm2' .C, hi5.trans (rows_ok (by unfold aimF; (((repeat (first | ((with_reducible refine ifp ?_ ?_); · with_reducible assumption) | ((with_reducible refine ifn ?_ ?_); · (first | (with_reducible refine ne_true_of_eq_false ?_; with_reducible assumption) | (with_reducible refine ne_false_of_eq_true ?_; with_reducible assumption) | (with_reducible assumption))) | ((with_reducible refine bind_ok (by with_reducible assumption) ?_); try dsimp only) | ((with_reducible refine ifp ?_ ?_); · (first | (with_reducible assumption) | omega | (with_reducible exact ⟨by omega, by with_reducible assumption⟩))) | ((with_reducible refine ifn ?_ ?_); · (first | (with_reducible refine ne_true_of_eq_false ?_; with_reducible assumption) | (with_reducible refine ne_false_of_eq_true ?_; with_reducible assumption) | omega | (with_reducible refine not_and_l ?_; omega) | (with_reducible refine not_and_r ?_; with_reducible refine ne_true_of_eq_false ?_; with_reducible assumption))))); first | done | (with_reducible exact bind_err (by with_reducible assumption)) | (with_reducible assumption) | (with_reducible exact rfl)))) (by rfl) (by show (brFault _ _ _ _ != Str.ofString "") = false; with_reducible assumption)), fun p hp => hi6 p (List.mem_cons_of_mem _ hp), (by rw [List.length_append, List.length_cons, List.length_nil]; rw [List.length_cons] at hi7; omega)⟩)
            | (refine stop_out ?_; (rename News _ _ _ _ => nE); (try simp only [List.push_toArray] at nE); (obtain ⟨rq, hrq⟩ := news_head nE); subst hrq; refine ⟨_, _, _, (rl, listOf (rvs ++ ([Value.ref rq] : List Value)).toArray (rn + 1)) :: (dl, listOf c.dvs.toArray c.dn) :: (la, c.o) :: ((rq, _) :: tl2), rfl, by assumption, (news_back2 nE), off_I hI1 hI2 hI3 (List.forall_mem_cons.mpr ⟨(by show @Ne Nat rq I; omega), (fun p hp => hoff p (List.mem_cons_of_mem _ (List.mem_cons_of_mem _ (List.mem_cons_of_mem _ hp))))⟩), List.mem_cons_of_mem _ List.mem_cons_self, _, ds, rs ++ [.C _ _ _ _], rvs ++ ([Value.ref rq] : List Value), rn + 1, ((rq, _) :: tl2), inv2_m (by intro z h1 h2 h3; simp [h1, h2, h3]), rfl, (fun p hp => List.mem_cons_of_mem _ (hi1 p hp)), (List.forall_mem_cons.mpr ⟨(by show @Ne Nat rq rl; omega), hi2⟩), hi3, rows_dat hi4 (fun _ h => List.mem_cons_of_mem _ h) List.mem_cons_self .C, hi5.trans (rows_ok (by unfold aimF; (((repeat (first | ((with_reducible refine ifp ?_ ?_); · with_reducible assumption) | ((with_reducible refine ifn ?_ ?_); · (first | (with_reducible refine ne_true_of_eq_false ?_; with_reducible assumption) | (with_reducible refine ne_false_of_eq_true ?_; with_reducible assumption) | (with_reducible assumption))) | ((with_reducible refine bind_ok (by with_reducible assumption) ?_); try dsimp only) | ((with_reducible refine ifp ?_ ?_); · (first | (with_reducible assumption) | omega | (with_reducible exact ⟨by omega, by with_reducible assumption⟩))) | ((with_reducible refine ifn ?_ ?_); · (first | (with_reducible refine ne_true_of_eq_false ?_; with_reducible assumption) | (with_reducible refine ne_false_of_eq_true ?_; with_reducible assumption) | omega | (with_reducible refine not_and_l ?_; omega) | (with_reducible refine not_and_r ?_; with_reducible refine ne_true_of_eq_false ?_; with_reducible assumption))))); first | done | (with_reducible exact bind_err (by with_reducible assumption)) | (with_reducible assumption) | (with_reducible exact rfl)))) (by rfl) (by show (brFault _ _ _ _ != Str.ofString "") = false; with_reducible assumption)), fun p hp => hi6 p (List.mem_cons_of_mem _ hp), (by rw [List.length_append, List.length_cons, List.length_nil]; rw [List.length_cons] at hi7; omega)⟩)
    case done2 =>
      clear F4 N4
      intro m₁ nx h tk hI0 F4 N4
      refine absG fun G hG => ?_
      obtain ⟨u2, ds, rs, rvs, rn, tl2, rfl, rfl, hi1, hi2, hi3, hi4, hi5, hi6, hi7⟩ := hI0
      cases ds with
      | cons d ds => cases hi3
      | nil =>
        refine hG ?_; clear hG
        k_steps
        all_goals first
          | exact hret _ _ _ _ (by assumption) (by assumption) ⟨rl, rvs, rn, rs, _, hasm.trans hi5, rfl, rfl, hi4.mono (fun p hp => List.mem_cons_of_mem _ (List.mem_cons_of_mem _ hp)), fun p hp => List.mem_cons_of_mem _ (List.mem_cons_of_mem _ (hi1 _ (hnR p hp)))⟩

local macro_rules | `(tactic| walk_at "call ref") => `(tactic| (k_here; (with_reducible show wpAny _ _ (call (Value.ref 284) [Value.str _ _]) _ _ _); refine stop_in ?_))

section
open PySem.Builtin
variable {prog : Program} {w : World} {A₀ A : Around} {E : Value → Shared → Prop} {s s' : Shared} {base base₂ g h₀ h₅ B : Heap} {outer : List Env} {L a e C : Addr} {m : Str → Option Value} {name : Str} {scope : Scope} {cd : Value}
  {n : Str} {b₀ : Stmt} {suite : List Stmt} {pos np : Pos} {rest : List ExceptHandler} {Q : Flow → Shared → Prop} {news : List (Addr × Obj)} {KF : Frag}
  {p : Program} {loose : List Str} {mean : ExcName → Option Value} {mg mb : Str → Option Value} {x : Str} {row : Int} {what : Str}
theorem ground_told (K : Below A₀ base outer g) (hgB : ∀ b o, g.get? b = some o → b ∉ outer.filterMap (·.frame) → B.get? b = some o) (hBh : B.StaysIn h₅) (hsm : g.UpToSlots h₅) (hns : h₅.Ns L m) (hab : g.objs.size ≤ L) :
    ∃ g', KtsTurn (outer.filterMap (·.frame)) g g' ∧ Fr g' L h₅ m ∧ Below A₀ base outer g' := by
  obtain ⟨T, S⟩ := kts_turn_at (h := h₅) (fs := outer.filterMap (·.frame)) (g := g)
    (fun b hb => by
      obtain ⟨_, o, ho, _⟩ := K.frames.mem hb
      exact ⟨o, ho⟩)
    (fun b o e nm => hBh b o (hgB b o e nm))
    (fun b o e hm => by
      obtain ⟨_, o', ho', hd⟩ := K.frames.mem hm
      rw [e] at ho'
      cases ho'
      exact hsm b o e hd)
  refine ⟨_, T, ⟨hns, S, by rw [T.size]; exact hab⟩, ⟨K.stack, fun b o e => T.other b o (K.stays b o e) (fun hm => by
    rw [(K.frames.mem hm).1] at e
    cases e), K.frames.of_keeps fun b o e _ => ?_⟩⟩
  obtain ⟨sl, hs⟩ := T.up e
  exact ⟨_, hs, rfl⟩
theorem caught_told (K : Below A₀ base outer g) (hbig : ∀ b o, g.get? b = some o → b ∉ outer.filterMap (·.frame) → base₂.get? b = some o) (R : FlyD base₂ (envOf name scope L a cd :: outer) e row what s'.heap) (hsm : g.UpToSlots s'.heap) (hns : s'.heap.Ns L m) (hab : g.objs.size ≤ L) (XB : KF.In base) (TB : Top p loose mean mg mb base)
    (ex : nsIn KF mainGlobals x = some (some (.ref 114))) (q : ktsIn KF 114 "BaseException" = true)
    (k : ∀ h' g' oe od dx tk, KtsTurn (outer.filterMap (·.frame)) g g' → Fr g' L h' (fun y => if y = n then some (.ref e) else m y) → News g' L h' [(e, oe), (dx, od)] → oe.cls = .ref 114 → oe.dict = some dx → notCls oe = true → AsmDict od row what → Below A₀ base outer g' → KF.In g' → Top p loose mean mg mb g' →
      wpAny (model prog w) ((A₀.deeper (envOf name scope L a cd)).mark (some (.ref e))) (execs (b₀ :: suite) (envOf name scope L a cd))
        (fun f s₄ => wpAny (model prog w) (A₀.deeper (envOf name scope L a cd)) (do bindName (envOf name scope L a cd) n .none; unbindBehindTheSuite (envOf name scope L a cd) n pos) (fun _ s₅ => Q f s₅) E s₄)
        (AsSuiteRaised (model prog w) ((A₀.deeper (envOf name scope L a cd)).mark (some (.ref e))) (envOf name scope L a cd) n pos (notedBy (model prog w) ((A₀.deeper (envOf name scope L a cd)).mark (some (.ref e))) (envOf name scope L a cd) (cameBackBy (model prog w) (A₀.deeper (envOf name scope L a cd)) (envOf name scope L a cd) E)))
        { s' with heap := h', toks := tk })
    (hk : scope.kind = .function := by rfl) (hlo : (envOf name scope L a cd).kindOf n = some .local := by rfl) (hx : (envOf name scope L a cd).kindOf x = some .globalImplicit := by rfl) (hd : (x == ("__debug__" : Str)) = false := by decide) :
    wpAny (model prog w) (A₀.deeper (envOf name scope L a cd)) (noteFrame (.ref e) (envOf name scope L a cd))
      (fun _ s₂ => wpAny (model prog w) (A₀.deeper (envOf name scope L a cd)) (setFlight (.ref e) none) (fun _ s₃ =>
        wpAny (model prog w) (A₀.deeper (envOf name scope L a cd)) (handleBy (.ref e) (envOf name scope L a cd) (.ExceptHandler (some (.Name x np)) (some n) (b₀ :: suite) pos :: rest)) Q E s₃) E s₂) E s' := by
  refine absG fun G hG => ?_
  obtain ⟨B, dx, od, a0, oe₀, hB, hdx, had, hfl, he, hed, hbn⟩ := R
  refine hG ?_; clear hG
  have hgB : ∀ b o, g.get? b = some o → b ∉ outer.filterMap (·.frame) → B.get? b = some o := fun b o e' nm => hB b o (hbig b o e' nm)
  have w1 := wpAny_looks_onW (M := model prog w) (A := A₀.deeper (envOf name scope L a cd)) (E := E) (s := s') (Q := fun _ s₂ => ∃ h', s₂ = { s' with heap := h' } ∧ Heap.HeldW B (envOf name scope L a cd :: outer) e (.ref 114) a0 L h' ∧ s'.heap.UpToSlots h') (Around.frames_deeper K.stack) rfl hfl fun h' x1 x2 => ⟨h', rfl, x1, x2⟩
  refine wpAny_mono ((kd_noteFrame _ _).any w1) (fun u s₂ p => ?_) fun _ _ x => x.1
  obtain ⟨⟨h₄, rfl, hheld₄, hsm₄⟩, dk⟩ := p
  obtain ⟨oe₄, he₄, hd₄⟩ := dk _ _ he
  have w2 := wpAny_landsW (M := model prog w) (A := A₀.deeper (envOf name scope L a cd)) (E := E) (s := { s' with heap := h₄ }) (Q := fun _ s₂ => ∃ h', s₂ = { s' with heap := h' } ∧ Heap.FlyingW B (envOf name scope L a cd :: outer) e (.ref 114) a0 h' ∧ h₄.UpToSlots h') hheld₄ fun h' x1 x2 => ⟨h', rfl, x1, x2⟩
  refine wpAny_mono ((kd_setFlight _ _).any w2) (fun u s₂ p => ?_) fun _ _ x => x.1
  obtain ⟨⟨h₅, rfl, hheld, hsm₅'⟩, dk⟩ := p
  obtain ⟨oe₅, he₅, hd₅⟩ := dk _ _ he₄
  have hsm₅ := hsm₄.trans hsm₅'
  refine absG fun G hG => ?_
  obtain ⟨g₅, T₅, F₅, K₅⟩ := ground_told K hgB hheld.1 (hsm.trans hsm₅) (hsm₅.ns hns) hab
  have X₅ : KF.In g₅ := XB.keeps K₅.stays
  have P₅ : TopRead p loose mg mb g₅ := topRead_of (TB.keeps K₅.stays)
  obtain ⟨ob, hob, hobc⟩ := hheld.there
  obtain ⟨nm, q', N, bs, bm, hdct, sn, sub, ab, col, dd, k0, k1, k2, k3, k5, newId, hC, hbase, hbT⟩ := kts_cls X₅ q
  have hC₅ := F₅.keep _ _ hC
  refine hG ?_; clear hG
  refine wpAny_handleBy_cons (codeAny_handlers_test (name_K F₅ X₅ P₅ ex ?_ hk hx hd)) (by intro q; cases q)
  refine wpAny_excMatches_sub_self hC₅ hob hobc hbase (codeAny_handlers_suite_as ?_)
  refine wpAny_mono ((kd_setFlight _ _).any (lands_againW (s := { s' with heap := h₅ }) (Q := fun _ s₂ => ∃ h', s₂ = { s' with heap := h' } ∧ Heap.FlyingW B (envOf name scope L a cd :: outer) e (.ref 114) a0 h' ∧ h₅.UpToSlots h') hheld fun h' x1 x2 => ⟨h', rfl, x1, x2⟩)) (fun u s₂ p => ?_) fun _ _ x => x.1
  obtain ⟨⟨h₆, rfl, hfl₆, hsm₆⟩, dk⟩ := p
  obtain ⟨oe₆, he₆, hd₆⟩ := dk _ _ he₅
  have hsmT := (hsm.trans hsm₅).trans hsm₆
  obtain ⟨g₆, T₆, F₆, K₆⟩ := ground_told K hgB hfl₆.1 hsmT ((hsm₅.trans hsm₆).ns hns) hab
  obtain ⟨oe, ws, hoe, hoec, hoed, hoe0⟩ := hfl₆.first
  have hdx₆ : h₆.get? dx = some od := hfl₆.1 _ _ hdx
  have hoo : oe = oe₆ := by
    have h2 : h₆.get? e = some oe₆ := he₆
    rw [hoe] at h2
    exact Option.some.inj h2
  have hdict : oe.dict = some dx := by rw [hoo]; exact hd₆.trans (hd₅.trans (hd₄.trans hed))
  have nf : ∀ b ∈ (envOf name scope L a cd :: outer).filterMap (·.frame), B.get? b = none := fun b hb => (hfl₆.2.2.1.mem hb).1
  have hLB : B.get? L = none := nf L (.head _)
  have neL : e ≠ L := fun z => by
    obtain ⟨_, o, ho, hdd⟩ := hfl₆.2.2.1.mem (b := L) (.head _)
    rw [← z, hoe] at ho
    cases ho
    exact hdd _ hoed
  have ndL : dx ≠ L := fun z => by rw [z, hLB] at hdx; cases hdx
  have ne₆ : g₆.get? e = none := T₆.none_ _ (by
    cases z : g.get? e with
    | none => rfl
    | some o =>
      by_cases hm : e ∈ outer.filterMap (·.frame)
      · obtain ⟨_, o', ho', hdd⟩ := K.frames.mem hm
        obtain ⟨sl, hs⟩ := hsmT _ _ ho' hdd
        rw [hoe] at hs
        cases hs
        exact (hdd _ hoed).elim
      · have := hgB _ _ z hm
        rw [hfl₆.2.1] at this
        cases this)
  have nd₆ : g₆.get? dx = none := T₆.none_ _ (by
    cases z : g.get? dx with
    | none => rfl
    | some o =>
      by_cases hm : dx ∈ outer.filterMap (·.frame)
      · have := nf dx (List.mem_cons_of_mem _ hm)
        rw [hdx] at this
        cases this
      · have := hbig _ _ z hm
        rw [hbn] at this
        cases this)
  have N₆ : News g₆ L h₆ [(e, oe), (dx, od)] := by
    intro p hp
    simp only [List.mem_cons, List.not_mem_nil, or_false] at hp
    rcases hp with rfl | rfl
    · exact ⟨hoe, neL, ne₆⟩
    · exact ⟨hdx₆, ndL, nd₆⟩
  refine stN F₆ N₆ (fun h₇ F₇ N₇ => ?_) hk hlo
  exact k h₇ g₆ oe od dx _ T₆ F₇ N₇ hoec hdict (by simp [notCls, hoed]) had K₆ (XB.keeps K₆.stays) (TB.keeps K₆.stays)
end
section
variable {prog : Program} {w : World} {A₀ A : Around} {s : Shared} {base h₀ : Heap} {L a : Addr} {m : Str → Option Value} {cn : Str} {cs : Scope} {ccd : Value} {news : List (Addr × Obj)} {K : Frag} {p : Program} {loose : List Str} {mean : ExcName → Option Value} {mg mb : Str → Option Value}
    {R : Result → Shared → Prop} {name qual : Str} {params : Arguments} {body : List Stmt} {scope : Scope} {dV kV doc pm cdv ct oc : Value} {an od : Option Addr} {osl : Array (Option Value)} {f : Addr} {args : Args} {binds : List (Str × Value)}
theorem code_told (B : Below A₀ base [] h₀) (F : Fr h₀ L s.heap m) (X₀ : K.In h₀) (N : News h₀ L s.heap news) (T : Top p loose mean mg mb h₀) (hA : A.frames = some [envOf cn cs L a ccd])
    (ho : K.lookup f = some ⟨oc, od, .func (fnOf name qual params body scope dV kV doc pm an cdv ct), osl⟩) (hcd : codeIn K cdv qual = true) (hroom : A.depth < recursionLimit)
    (hbind : BindsTo s (fnOf name qual params body scope dV kV doc pm an cdv ct) args binds) (hloc : ∀ y ∈ binds, scope.names.lookup y.1 = some .local)
    (h : ∀ L' h₁, Fr s.heap L' h₁ (fun y => binds.reverse.lookup y) → Below A base [envOf cn cs L a ccd] s.heap → K.In s.heap → Top p loose mean mg mb s.heap →
      wpAny (model prog w) (A.deeper (envOf qual scope L' f cdv)) (execs body (envOf qual scope L' f cdv))
        (fun fl s' => LeaveS0 ([envOf cn cs L a ccd].filterMap (·.frame)) h₀ L m s.heap (fun r s'' => News h₀ L s''.heap news → R r s'') (match fl with | .ret v => v | _ => .none) s')
        (fun e s' => wpAny (model prog w) (A.deeper (envOf qual scope L' f cdv)) (leaving (envOf qual scope L' f cdv) e) (fun _ s'' => R (.error e) s'') (fun e' s'' => R (.error e') s'') s')
        { s with heap := h₁, toks := s.toks + binds.length })
    (hck : cs.kind = .function) (hco : scope.isCoroutine = false) (hgen : scope.isGenerator = false) (hk : scope.kind = .function)
    (hcell : ∀ x ∈ scope.names, x.2 ≠ .cell) : codeAny (model prog w) A (.call (.ref f) args) R s := by
  have X := X₀.keeps F.keep
  refine codeAny_call_def (fd := fnOf name qual params body scope dV kV doc pm an cdv ct) (body := body) (binds := binds) hroom (X _ _ ho) rfl (T.nolimit.keeps F.keep) (codeRec_of X hcd) rfl hbind hcell hloc (fun h₁ hns hk₁ => ?_) hco hgen hk
  obtain ⟨oL, es, ep, hL, hLd, hLk, hLf⟩ := F.ns
  have B₁ := B.push (name := cn) (scope := cs) (a := a) (cd := ccd) F hck
  have B₂ : Below A base [envOf cn cs L a ccd] s.heap := ⟨hA, fun b o e => F.keep b o (B.stays b o e), B₁.frames⟩
  refine wpAny_mono (h s.heap.objs.size h₁ ⟨hns, fun b o e => hk₁ b o e, Nat.le_refl _⟩ B₂ X (T.keeps F.keep)) (fun fl s' hl => ?_) fun _ _ y => y
  obtain ⟨g', L', m', news', T', F', N', k⟩ := hl
  have nL₀ : h₀.get? L = none := kts_self F
  obtain ⟨sl, hs⟩ := T'.up hL
  refine k ⟨⟨_, es, ep, F'.keep _ _ hs, hLd, hLk, hLf⟩, fun b o e => F'.keep b o (T'.other b o (F.keep b o e) (fun q => by
    rcases kts_mem q with z | z
    · rw [z, nL₀] at e
      cases e
    · simp at z)), F.above⟩ (fun p hp => ⟨(N' p hp).1, fun q => ?_, ?_⟩) (fun p hp => ⟨F'.keep _ _ (T'.other _ _ (N p hp).1 (fun q => ?_)), (N p hp).2⟩)
  · have := (N' p hp).2.2; rw [q, hs] at this; cases this
  · cases q : h₀.get? p.1 with
    | none => rfl
    | some o =>
      obtain ⟨sl', hs'⟩ := T'.up (F.keep _ _ q)
      have := (N' p hp).2.2
      rw [hs'] at this
      cases this
  · rcases kts_mem q with z | z
    · exact (N p hp).2.1 z
    · simp at z
end
theorem asm_find {P : Params} {es : List DictEntry} {n : Nat} {v : Value} (h : getL "row" es = some (some v)) : findObj (hd.heap_39 P) 114 (some (dictOf es n)) "row" = some (.value v) := by
  have e : findObj (hd.heap_39 P) 114 (some (dictOf es n)) "row" = (getL "row" es).bind fun own => match own with
      | some v => some (.value v)
      | none => some .missing := by kernel_rfl
  rw [e, h]; rfl
theorem asm_find2 {P : Params} {es : List DictEntry} {n : Nat} {v : Value} (h : getL "what" es = some (some v)) : findObj (hd.heap_39 P) 114 (some (dictOf es n)) "what" = some (.value v) := by
  have e : findObj (hd.heap_39 P) 114 (some (dictOf es n)) "what" = (getL "what" es).bind fun own => match own with
      | some v => some (.value v)
      | none => some .missing := by kernel_rfl
  rw [e, h]; rfl
theorem asm_ga {P : Params} : findIn (hd.heap_39 P) (.ref 114) "__getattribute__" = some (some (.builtin "BaseException.__getattribute__")) := by kernel_rfl
theorem asm_gx {P : Params} : findIn (hd.heap_39 P) (.ref 114) "__getattr__" = some none := by kernel_rfl
theorem asm_kts {P : Params} : ktsIn (hd.heap_39 P) 114 "BaseException" = true := by kernel_rfl
theorem asm_mro {P : Params} : mroIn (hd.heap_39 P) 114 (.type "BaseException") = some true := by kernel_rfl
theorem asm_ns {P : Params} : nsIn (hd.heap_39 P) mainGlobals "AsmError" = some (some (.ref 114)) := by kernel_rfl
section
open PySem.Builtin
variable {prog : Program} {w : World} {A : Around} {E : Value → Shared → Prop} {s : Shared} {K : Frag} {x C : Addr} {ox : Obj} {od : Option Obj} {name : Str} {expr : Bool} {Q : Value → Shared → Prop}
theorem exc_attr {v : Value} (X : K.In s.heap) (q : mroIn K C (.type "BaseException") = some true) (I : InstAt s.heap x ox C od) (hga : findIn K (.ref C) "__getattribute__" = some (some (.builtin "BaseException.__getattribute__")))
    (hgx : findIn K (.ref C) "__getattr__" = some none) (hf : findObj K C od name = some (.value v)) (hh : handedIn v = true) (h : Q v { s with toks := s.toks + 1 }) : wpAny (model prog w) A (getAttr (.ref x) name expr) Q E s := by
  obtain ⟨hh', g, d, t, os⟩ := s
  have L0 : Looks (model prog w) hh' (typeOf (.ref x)) (.ref C) := I.type
  have L1 := looks_findIn (M := model prog w) X hga
  have L2 := looks_find (M := model prog w) X I hf
  unfold getAttr getAttrBy
  have L3 := looks_findIn (M := model prog w) X hgx
  have f3 := F.attrBase_ArithmeticError.ga.bind (.ref x)
  have hx0 : (expr && onTheHeap (Value.builtin "BaseException.__getattribute__")) = false := by cases expr <;> rfl
  have hx2 : (Value.builtin "BaseException.__getattribute__" == Value.builtin "object.__getattribute__") = false := by decide +kernel
  have hx1 : (onTheHeap (Value.ref C) && Value.builtin "BaseException.__getattribute__" == Value.builtin "object.__getattribute__") = false := by rw [hx2]; rfl
  repeat (any_goals (first | assumption | with_reducible refine L0.at ?_ | with_reducible refine L1.at ?_ | with_reducible refine L3.at ?_ | (with_reducible refine wpAny_loadPart_at I.at_ ?_; rw [I.cls]) | wp_step))
  have hk : builtinKind "BaseException.__getattribute__" = some .slot := by decide +kernel
  have hsp : splitId "BaseException.__getattribute__" = some ("BaseException", "__getattribute__") := by decide +kernel
  refine codeAny_call_builtin F.attrBase_ArithmeticError.ga.plain F.entry_bexc_ga (@check_slot (model prog w) _ _ ⟨hh', g, d, t + 1, os⟩ "BaseException.__getattribute__" "BaseException" "__getattribute__" (.ref x) [.str name t] [] _ hk hsp (L0.andThen (looks_mroIn X q)) (F.args_bexc_ga (.ref x) _) ?_)
  refine wpAny_bind (wpAny_pure (wpAny_bind (wpAny_pure (a := name) (wpAny_bind (L0.at (wpAny_bind (L2.at ?_)))))))
  refine wpAny_pure ?_
  show wpAny _ _ (handedOut v) _ _ _
  rw [handedOut_of hh]; exact wpAny_pure h
end
theorem below_hide {A : Around} {base g : Heap} {env : Env} {L : Addr} (B : Below A base [env] g) (hf : env.frame = some L) : Below A (hideAll g [L]) [env] g := by
  obtain ⟨h1, ⟨L', o, hf', hn, ho, hd⟩, _⟩ := B.frames
  rw [hf] at hf'
  cases hf'
  exact ⟨B.stack, fun b o e => of_hideAll _ e, h1, ⟨L, o, hf, hideAll_none _ (.head _), ho, hd⟩, trivial⟩
theorem hide_big {g : Heap} {env : Env} {L : Addr} (hf : env.frame = some L) : ∀ b o, g.get? b = some o → b ∉ [env].filterMap (·.frame) → (hideAll g [L]).get? b = some o := by
  intro b o e hb
  refine hideAll_get _ e fun h => hb ?_
  rw [List.mem_singleton.mp h]
  simp [hf]

local macro_rules | `(tactic| walk_at "getAttr ref") => `(tactic| (k_here; k_dflt (first | refine' exc_attr (C := 114) ?X asm_mro ?I asm_ga asm_gx (asm_find ?h) ?v ?_ | refine' exc_attr (C := 114) ?X asm_mro ?I asm_ga asm_gx (asm_find2 ?h) ?v ?_); (case X => k_in); (case I => assumption); (case h => assumption); (case v => exact rfl)))

/-- what told says -/
def ToldV (news : List (Addr × Obj)) (a : Except (Int × Str) (List Row)) (r : Value) (nw : List (Addr × Obj)) : Prop :=
  match a with
  | .ok rs => ∃ l vs n tl, r = .ref l ∧ nw = (l, listOf (List.toArray vs) n) :: tl ∧ DatAll tl vs (rs.map rowD) ∧ ∀ p ∈ news, p ∈ tl
  | .error e => ∃ rp n t1 t2, r = .ref rp ∧ nw = (rp, tupO [.int e.1 t1, .str e.2 t2] n) :: news
theorem told_mk {h₀ h : Heap} {L : Addr} {q : Addr × Obj} {r news : List (Addr × Obj)} (nB : News h₀ L h (q :: r)) (nA : News h₀ L h news) : News h₀ L h (q :: news) := fun p hp => (List.mem_cons.mp hp).elim (fun e => nB p (by rw [e]; exact List.mem_cons_self)) (fun h => nA p h)
theorem told_con (w : World) (mean : ExcName → Option Value) (mg mb : Str → Option Value) (news : List (Addr × Obj)) (text : Str) (t : Tok) (ht : text.length ≤ 1000000) (hls : (Txt.split text (Str.ofString "\n")).length ≤ 1000) :
    ∀ (dp un : Nat) (gd : Option (List Code)) (cn : Str) (cs : Scope) (a : Addr) (ccd : Value) (A₀ : Around) (base h₀ : Heap) (L : Addr) (m : Str → Option Value) (s : Shared) (Q E : Value → Shared → Prop),
    Below A₀ base [] h₀ → Fr h₀ L s.heap m → (hd.heap_39 w.params).In h₀ → (hd.heap_39 w.params).In base → News h₀ L s.heap news → Top hd.view_39 (looseW hd.view_39 []) mean mg mb h₀ → Top hd.view_39 (looseW hd.view_39 []) mean mg mb base → cs.kind = .function → dp + 16 ≤ 900 → un + 10 * 16 ≤ 9000 →
    (∀ (r : Value) (nw : List (Addr × Obj)) (h' : Heap) (tk' : Nat), Fr h₀ L h' m → News h₀ L h' nw → ToldV news (asmF (Txt.split text (Str.ofString "\n"))) r nw → Q r { s with heap := h', toks := tk' }) →
    wpAny (model PySem.Challenge.rw_nu0335_01.row.prog w) (ktrTop dp un gd cn cs L a ccd [] []) (call (.ref 312) [.str text t]) Q E s := by
  w_top off
  k_fill
  intro dp un gd cn cs a ccd A₀ base h₀ L m s Q E B F X XB N T TB hk hd hu hret
  refine wpAny_call ?_
  k_dflt (refine' code_told ?k1 ?k2 ?k3 ?k4 ?k5 ?kA ?k6 ?k7 ?k8 ?k9 ?kB ?_ ?kK ?c2 ?c3 ?c4 ?c5; (case kA => exact rfl); (case kK => assumption); (case k1 => k_asm); (case k2 => k_asm); (case k3 => k_asm); (case k4 => k_asm); (case k5 => k_asm); (case k6 => k_is); (case k7 => k_is); (case k8 => ktr_room); (case k9 => exact BindsTo.of_eq rfl); (case c5 => decide); (case kB => exact locs rfl); (case c2 => exact rfl); (case c3 => exact rfl); (case c4 => exact rfl))
  intro L' h' F' B' X' T'
  have N' : News s.heap L' h' [] := News.nil
  dsimp only
  (try k_fold)
  k_steps
  refine stop_out ?_
  (rename Fr _ _ _ _ => F2)
  refine Con.use (base := hideAll s.heap [L]) (assemble_con _ _ _ _ [] text _ ht hls) (below_hide B' rfl) F2 X' (by exact News.nil) T' ?hk ?hd ?hu ?ret ?exc
  case hk => ktn_open
  case hd => tb_start
  case hu => tb_start
  case ret =>
    intro r' nw' h' tk' F' N' R'
    obtain ⟨l, vs, n, rs, tl, e1, e2, e3, e4, e5⟩ := R'
    subst e2 e3
    dsimp only
    k_steps
    (rename News h₀ L _ (_ :: _) => nB); (rename News h₀ L _ news => nA)
    exact hret _ ((l, _) :: (tl ++ news)) _ _ (by assumption) (nB.append nA) (by unfold ToldV; rw [e1]; exact ⟨l, vs, n, tl ++ news, rfl, rfl, e4.mono (fun p hp => List.mem_append.mpr (.inl hp)), fun p hp => List.mem_append.mpr (.inr hp)⟩)
  case exc =>
    intro e row what h' tk' D' U' S' hE
    dsimp only
    refine caught_told B' (hide_big rfl) D' U' S' F2.above XB TB asm_ns asm_kts ?k
    intro h2 g2 oe od dx tk2 T2 F2' N2 hc hdc hnc had B2 X2 TT2
    obtain ⟨es, n, tr, tw, rfl, hh1, hh2⟩ := had
    have I : InstAt h2 e oe 114 (some (dictOf es n)) := ⟨(N2 _ List.mem_cons_self).1, hc, hnc, by rw [hdc]; exact (N2 _ (List.mem_cons_of_mem _ List.mem_cons_self)).1⟩
    dsimp only
    k_steps
    (rename News h₀ L _ (_ :: _) => nB); (rename News h₀ L _ news => nA)
    exact hret _ _ _ _ (by assumption) (told_mk nB nA) (by unfold ToldV; rw [hE]; exact ⟨_, _, _, _, rfl, rfl⟩)

local macro_rules | `(tactic| walk_at "call builtin:len") => `(tactic| (k_here; (with_reducible show wpAny _ _ (call (Value.builtin "len") [Value.ref _]) _ _ _); k_dflt (refine' kst_len ?k1 ?k2 ?k3 ?k4 ?_; (case k1 => k_asm); (case k2 => k_mem); (case k3 => exact IntsAre.length (by with_reducible assumption)); (case k4 => omega); k_whole)))

abbrev wellO (a : Int) (cl : Addr) (c : Int) (t1 t2 : Tok) (n : Nat) : Obj := listOf (List.toArray [.int a t1, .ref cl, .int c t2]) n
theorem pull_con (w : World) (mean : ExcName → Option Value) (mg mb : Str → Option Value) (news : List (Addr × Obj)) (wl cl : Addr) (a0 c0 : Int) (t1 t2 : Tok) (n n2 : Nat) (cvs : List Value) (ns : List Int) (hm : (cl, listOf cvs.toArray n2) ∈ news) (hi : IntsAre cvs ns) (h1 : 1 ≤ ns.length) (h2 : ns.length ≤ 1000) (hw : ∀ p ∈ news, p.1 ≠ wl) (most : Int) (t : Tok) (hmo : 0 < most) (hmo2 : most ≤ 1000000) (hc0 : 0 ≤ c0) (hc1 : c0 ≤ 1000000) :
    Con 2 w mean mg mb 291 ((wl, wellO a0 cl c0 t1 t2 n) :: news) [.ref wl, .int most t] (fun r nw => ∃ d a' c' t1' t2' n' t', r = .int d t' ∧ 0 ≤ d ∧ d < most ∧ 0 ≤ c' ∧ c' ≤ c0 + 1 ∧ nw = (wl, wellO a' cl c' t1' t2' n') :: news) NoExc := by
  unfold Con
  w_top off
  k_fill
  intro dp un gd cn cs a ccd cl outer A₀ base h₀ L m s Q E B F X N T hk hd hu hret hexc
  refine wpAny_call ?_
  k_dflt cell_enter
  have hlen := IntsAre.length hi
  k_steps
  all_goals first
    | exact hret _ _ _ _ (by assumption) (by assumption) ⟨_, _, _, _, _, _, _, rfl, Int.fmod_nonneg_of_pos _ hmo, Int.fmod_lt_of_pos _ hmo, by omega, by omega, rfl⟩
section
variable {d : Nat} {w : World} {mean : ExcName → Option Value} {mg mb : Str → Option Value} {f : Addr} {news : List (Addr × Obj)} {vs : List Value}
  {dp un : Nat} {gd : Option (List Code)} {cn : Str} {cs : Scope} {a : Addr} {ccd : Value} {cl : List (Str × Addr)} {outer : List Env} {A₀ : Around} {base h₀ : Heap} {L : Addr} {m : Str → Option Value} {s : Shared} {Q E : Value → Shared → Prop}
  (B : Below A₀ base outer h₀) (F : Fr h₀ L s.heap m) (X : (hd.heap_39 w.params).In h₀) (N : News h₀ L s.heap news) (T : Top hd.view_39 (looseW hd.view_39 []) mean mg mb h₀) (hk : cs.kind = .function) (hd : dp + d ≤ 900) (hu : un + 10 * d ≤ 9000)
include B F X N T hk hd hu
theorem Con.usePull {wl cl0 : Addr} {most c0 : Int} {nw0 : List (Addr × Obj)} (C : Con d w mean mg mb f news vs (fun r nw => ∃ d a' c' t1' t2' n' t', r = .int d t' ∧ 0 ≤ d ∧ d < most ∧ 0 ≤ c' ∧ c' ≤ c0 + 1 ∧ nw = (wl, wellO a' cl0 c' t1' t2' n') :: nw0) NoExc)
    (hret : ∀ (d a' c' : Int) (t1' t2' : Tok) (n' : Nat) (t' : Tok) (h' : Heap) (tk' : Nat), 0 ≤ d → d < most → 0 ≤ c' → c' ≤ c0 + 1 → Fr h₀ L h' m → News h₀ L h' ((wl, wellO a' cl0 c' t1' t2' n') :: nw0) → Q (.int d t') { s with heap := h', toks := tk' }) :
    wpAny (model PySem.Challenge.rw_nu0335_01.row.prog w) (ktrTop dp un gd cn cs L a ccd cl outer) (call (.ref f) vs) Q E s :=
  C.use B F X N T hk hd hu (fun r nw h' tk' F' N' R' => by obtain ⟨d, a', c', t1, t2, n, t, e1, x1, x2, x3, x4, e2⟩ := R'; subst e1 e2; exact hret d a' c' t1 t2 n t h' tk' x1 x2 x3 x4 F' N') (fun _ _ _ _ _ _ _ _ x => x.elim)
end

local macro_rules | `(tactic| walk_at "mw") => `(tactic| (intro d' a' c' u1' u2' n' t' h' tk' hd1' hd2' hc1' hc2' F' N'; (try dsimp only); (try k_sweep)))
local macro_rules | `(tactic| walk_at "call ref") => `(tactic| (k_here; (with_reducible show wpAny _ _ (call (Value.ref 291) _) _ _ _); k_dflt (refine' Con.usePull ?B ?F ?X ?N ?T ?k ?d ?u (pull_con _ _ _ _ _ _ _ _ _ _ _ _ _ _ _ ?s1 ?s2 ?s3 ?s4 ?s5 _ _ ?s6 ?s7 ?s8 ?s9) ?_; walk_at "m8"; (case s1 => k_mem); (case s2 => with_reducible assumption); (case s3 => omega); (case s4 => omega); (case s5 => assumption); (case s6 => omega); (case s7 => omega); (case s8 => omega); (case s9 => omega)); walk_at "mw"))

/-- a sound line and its row -/
inductive Sound : Str → Row → Prop where
  | addi {a b i : Int} (h1 : 0 ≤ a) (h2 : a < 16) (h3 : 0 ≤ b) (h4 : b < 16) (h5 : 0 ≤ i) (h6 : i < 131072) : Sound (Str.ofString "ADDI R" ++ Str.ofString (toString a) ++ Str.ofString ", R" ++ Str.ofString (toString b) ++ Str.ofString ", " ++ Str.ofString (toString (i - 65536))) (.I (Str.ofString "ADDI") a b (i - 65536))
  | mov {a b : Int} (h1 : 0 ≤ a) (h2 : a < 16) (h3 : 0 ≤ b) (h4 : b < 16) : Sound (Str.ofString "  MOV  R" ++ Str.ofString (toString a) ++ Str.ofString " ,R" ++ Str.ofString (toString b) ++ Str.ofString " ; moved") (.I (Str.ofString "MOV") a 0 b)
  | stb {a b : Int} (h1 : 0 ≤ a) (h2 : a < 16) (h3 : 0 ≤ b) (h4 : b < 16) : Sound (Str.ofString "STB R" ++ Str.ofString (toString a) ++ Str.ofString ", [R" ++ Str.ofString (toString b) ++ Str.ofString "]") (.I (Str.ofString "STB") a b 0)
  | geth {a : Int} (h1 : 0 ≤ a) (h2 : a < 16) : Sound (Str.ofString "GETH R" ++ Str.ofString (toString a)) (.I (Str.ofString "GETH") a 0 0)
  | trap {a b : Int} (h1 : 0 ≤ a) (h2 : a < 16) (h3 : 0 ≤ b) (h4 : b < 16) : Sound (Str.ofString "TRAP NE, " ++ Str.ofString (toString a) ++ Str.ofString ", " ++ Str.ofString (toString b)) (.C (Str.ofString "TRAP") (Str.ofString "NE") a b)
  | bl : Sound (Str.ofString "BL LT, end") (.S (Str.ofString "BL") (Str.ofString "LT") (Str.ofString "end"))
  | b : Sound (Str.ofString "B AL, first") (.S (Str.ofString "B") (Str.ofString "AL") (Str.ofString "first"))
theorem sound_con (w : World) (mean : ExcName → Option Value) (mg mb : Str → Option Value) (news : List (Addr × Obj)) (wl cl : Addr) (a0 c0 : Int) (t1 t2 : Tok) (n n2 : Nat) (cvs : List Value) (ns : List Int) (hm : (cl, listOf cvs.toArray n2) ∈ news) (hi : IntsAre cvs ns) (h1 : 1 ≤ ns.length) (h2 : ns.length ≤ 1000) (hw : ∀ p ∈ news, p.1 ≠ wl) (k : Int) (t : Tok) (hc0 : 0 ≤ c0) (hc1 : c0 ≤ 900000) :
    Con 4 w mean mg mb 298 ((wl, wellO a0 cl c0 t1 t2 n) :: news) [.ref wl, .int k t] (fun r nw => ∃ a rp line row vs m n3 t' a' c' t1' t2' n', r = .ref a ∧ Sound line row ∧ RowV vs row ∧ 0 ≤ c' ∧ c' ≤ c0 + 4 ∧ (@LT.lt Nat _ rp a ∧ @LT.lt Nat _ wl a ∧ AllLt a news) ∧ (@LT.lt Nat _ wl rp ∧ AllLt rp news) ∧
      nw = (a, tupO [.str line t', .ref rp] m) :: (rp, tupO vs n3) :: (wl, wellO a' cl c' t1' t2' n') :: news) NoExc := by
  unfold Con
  w_top off
  k_fill
  intro dp un gd cn cs a ccd cl outer A₀ base h₀ L m s Q E B F X N T hk hd hu hret hexc
  refine wpAny_call ?_
  k_dflt cell_enter
  have hlen := IntsAre.length hi
  k_steps
  · exact hret _ _ _ _ (by assumption) (by assumption) ⟨_, _, _, _, _, _, _, _, _, _, _, _, _, rfl, .addi (by assumption) (by assumption) (by assumption) (by assumption) (by assumption) (by assumption), .I, by omega, by omega, by with_reducible assumption, by with_reducible assumption, rfl⟩
  · exact hret _ _ _ _ (by assumption) (by assumption) ⟨_, _, _, _, _, _, _, _, _, _, _, _, _, rfl, .mov (by assumption) (by assumption) (by assumption) (by assumption), .I, by omega, by omega, by with_reducible assumption, by with_reducible assumption, rfl⟩
  · exact hret _ _ _ _ (by assumption) (by assumption) ⟨_, _, _, _, _, _, _, _, _, _, _, _, _, rfl, .stb (by assumption) (by assumption) (by assumption) (by assumption), .I, by omega, by omega, by with_reducible assumption, by with_reducible assumption, rfl⟩
  · exact hret _ _ _ _ (by assumption) (by assumption) ⟨_, _, _, _, _, _, _, _, _, _, _, _, _, rfl, .geth (by assumption) (by assumption), .I, by omega, by omega, by with_reducible assumption, by with_reducible assumption, rfl⟩
  · exact hret _ _ _ _ (by assumption) (by assumption) ⟨_, _, _, _, _, _, _, _, _, _, _, _, _, rfl, .trap (by assumption) (by assumption) (by assumption) (by assumption), .C, by omega, by omega, by with_reducible assumption, by with_reducible assumption, rfl⟩
  · exact hret _ _ _ _ (by assumption) (by assumption) ⟨_, _, _, _, _, _, _, _, _, _, _, _, _, rfl, .bl, .S, by omega, by omega, by with_reducible assumption, by with_reducible assumption, rfl⟩
  · exact hret _ _ _ _ (by assumption) (by assumption) ⟨_, _, _, _, _, _, _, _, _, _, _, _, _, rfl, .b, .S, by omega, by omega, by with_reducible assumption, by with_reducible assumption, rfl⟩
section
variable {d : Nat} {w : World} {mean : ExcName → Option Value} {mg mb : Str → Option Value} {f : Addr} {news : List (Addr × Obj)} {vs : List Value}
  {dp un : Nat} {gd : Option (List Code)} {cn : Str} {cs : Scope} {a : Addr} {ccd : Value} {cl : List (Str × Addr)} {outer : List Env} {A₀ : Around} {base h₀ : Heap} {L : Addr} {m : Str → Option Value} {s : Shared} {Q E : Value → Shared → Prop}
  (B : Below A₀ base outer h₀) (F : Fr h₀ L s.heap m) (X : (hd.heap_39 w.params).In h₀) (N : News h₀ L s.heap news) (T : Top hd.view_39 (looseW hd.view_39 []) mean mg mb h₀) (hk : cs.kind = .function) (hd : dp + d ≤ 900) (hu : un + 10 * d ≤ 9000)
include B F X N T hk hd hu
theorem Con.useSound {wl cl0 : Addr} {c0 : Int} {nw0 : List (Addr × Obj)} (C : Con d w mean mg mb f news vs (fun r nw => ∃ a rp line row vs m n3 t' a' c' t1' t2' n', r = .ref a ∧ Sound line row ∧ RowV vs row ∧ 0 ≤ c' ∧ c' ≤ c0 + 4 ∧ (@LT.lt Nat _ rp a ∧ @LT.lt Nat _ wl a ∧ AllLt a nw0) ∧ (@LT.lt Nat _ wl rp ∧ AllLt rp nw0) ∧
      nw = (a, tupO [.str line t', .ref rp] m) :: (rp, tupO vs n3) :: (wl, wellO a' cl0 c' t1' t2' n') :: nw0) NoExc)
    (hret : ∀ (ad rp : Addr) (line : Str) (row : Row) (rv : List Value) (m1 n3 : Nat) (t' : Tok) (a' c' : Int) (t1' t2' : Tok) (n' : Nat) (h' : Heap) (tk' : Nat), Sound line row → RowV rv row → 0 ≤ c' → c' ≤ c0 + 4 → (@LT.lt Nat _ rp ad ∧ @LT.lt Nat _ wl ad ∧ AllLt ad nw0) → (@LT.lt Nat _ wl rp ∧ AllLt rp nw0) → Fr h₀ L h' m → News h₀ L h' ((ad, tupO [.str line t', .ref rp] m1) :: (rp, tupO rv n3) :: (wl, wellO a' cl0 c' t1' t2' n') :: nw0) → Q (.ref ad) { s with heap := h', toks := tk' }) :
    wpAny (model PySem.Challenge.rw_nu0335_01.row.prog w) (ktrTop dp un gd cn cs L a ccd cl outer) (call (.ref f) vs) Q E s :=
  C.use B F X N T hk hd hu (fun r nw h' tk' F' N' R' => by obtain ⟨ad, rp, line, row, rv, m1, n3, t, a', c', t1, t2, n, e1, x1, x2, x3, x4, x5, x6, e2⟩ := R'; subst e1 e2; exact hret ad rp line row rv m1 n3 t a' c' t1 t2 n h' tk' x1 x2 x3 x4 x5 x6 F' N') (fun _ _ _ _ _ _ _ _ x => x.elim)
end

def pairD (p : Str × Str) : Dat := .tuple [.str p.1, .str p.2]
inductive PairsE : List PySem.Expr → List (Str × Str) → Prop where
  | nil : PairsE [] []
  | cons {x y : Str} {k c1 c2 : Nat} {pos p1 p2 : Pos} {es : List PySem.Expr} {ps : List (Str × Str)} (h : PairsE es ps) : PairsE (.Tuple [.Constant (.str x) c1 p1, .Constant (.str y) c2 p2] k pos :: es) ((x, y) :: ps)
section
variable {M : Model} {A : Around} {E : Value → Shared → Prop} {h₀ : Heap} {L : Addr} {m : Str → Option Value} {env : Env}
theorem pair_eval {x y : Str} {k c1 c2 : Nat} {pos p1 p2 : Pos} {s : Shared} {news : List (Addr × Obj)} {Q : Value → Shared → Prop} (F : Fr h₀ L s.heap m) (N : News h₀ L s.heap news)
    (h : ∀ D h' tk t t', Fr h₀ L h' m → News h₀ L h' ((D, tupO [.str x t, .str y t'] 0) :: news) → Q (.ref D) { s with heap := h', toks := tk }) :
    wpAny M A (eval (.Tuple [.Constant (.str x) c1 p1, .Constant (.str y) c2 p2] k pos) env) Q E s := by
  refine Tuple_ (spliced_more (Calls.Constant_str (spliced_more (Calls.Constant_str (spliced_none ?_)))))
  exact kup_newTuple (s := { s with toks := s.toks + 1 + 1 }) F N (fun D h' F' N' _ => h D h' _ _ _ F' N') (by rw [sizeLine_eq]; show 2 ≤ 16777216; decide)
theorem pairs_eval {es : List PySem.Expr} {ps : List (Str × Str)} (hp : PairsE es ps) (pos : Pos) : ∀ {s : Shared} {news : List (Addr × Obj)} {Q : List Value → Shared → Prop}, Fr h₀ L s.heap m → News h₀ L s.heap news →
    (∀ vs nw h' tk, Fr h₀ L h' m → News h₀ L h' (nw ++ news) → DatAll nw vs (ps.map pairD) → Q vs { s with heap := h', toks := tk }) → wpAny M A (spliced (backTo pos (starEach es env))) Q E s := by
  induction hp with
  | nil => intro s news Q F N h; exact spliced_none (h [] [] s.heap s.toks F N .nil)
  | cons hp ih =>
    intro s news Q F N h
    refine spliced_more (pair_eval F N (fun D h' tk t t' F' N' => ?_))
    refine ih (s := { s with heap := h', toks := tk }) F' N' (fun vs nw h'' tk' F'' N'' hd => ?_)
    refine h (.ref D :: vs) (nw ++ [(D, _)]) h'' tk' F'' (by rw [List.append_assoc]; exact N'') ?_
    exact .cons (.tuple (List.mem_append.mpr (.inr List.mem_cons_self)) (.cons (.str _ _) (.cons (.str _ _) .nil))) (hd.mono fun p hp => List.mem_append.mpr (.inl hp))
end
def wrongL : List (Str × Str) := [("ADD R1, R2, #3", "bad character"), ("JMP AL, first", "unknown instruction"), ("ADD R1, R16, R2", "expected a register"), ("MOVI R01, 5", "expected a register"), ("MOVI R1, 1234567890123", "number too large"), ("MOVI R1, 65536", "bad immediate"), ("ADD R1 R2, R3", "expected ,"), ("GETH R1, 0", "too many operands"), ("B XX, first", "expected a condition"), ("B EQ, nowhere", "unknown label"), ("first: MOVI R1, 5", "label twice"), ("BLR AL, R12", "bad register"), ("LDR R1, [R2, 524288]", "bad offset"), ("LDR R1, R2", "expected ["), ("MOVI R1, R2", "expected a number"), ("TRAP AL, 16, 0", "bad trap"), ("TRAP AL, 1, 65536", "bad place"), ("LDR R1, [R2, 4", "expected ]"), ("MOVH R3, -1", "bad immediate"), ("1st: MOVI R1, 5", "bad label"), ("R1: R2:", "unknown instruction"), ("SUBI R1, R2, -65537", "bad immediate")]
theorem wrong_con (w : World) (mean : ExcName → Option Value) (mg mb : Str → Option Value) (news : List (Addr × Obj)) (p : Int) (t : Tok) (h0 : 0 ≤ p) (h1 : p < 22) : Con 2 w mean mg mb 305 news [.int p t] (fun r nw => ∃ a x y n t t' tl, (x, y) ∈ wrongL ∧ r = .ref a ∧ (a, tupO [.str x t, .str y t'] n) ∈ tl ∧ nw = tl ++ news) NoExc := by
  unfold Con
  w_top off
  k_fill
  intro dp un gd cn cs a ccd cl outer A₀ base h₀ L m s Q E B F X N T hk hd hu hret hexc
  refine wpAny_call ?_
  k_dflt cell_enter
  k_with_none
  k_with "eval List" => (refine stop_in ?_)
  k_steps
  refine stop_out ?_
  (rename Fr _ _ _ _ => F1); (rename News _ _ _ _ => N1)
  refine List_ ?_
  with_reducible refine pairs_eval (ps := wrongL) ?hp _ F1 N1 ?_
  case hp =>
    unfold wrongL
    repeat (first | (with_reducible exact PairsE.nil) | (with_reducible refine PairsE.cons ?_))
  intro vs nw h tk F2 N2 hd
  clear F1 N1
  have hlen := DatAll.length hd
  refine newList_N F2 N2 (fun h3 F3 N3 => ?_) (by rw [hlen, sizeLine_eq]; decide)
  clear F2 N2
  k_steps
  (rename _ ∈ List.map _ _ => hm); (rename DatIn _ _ _ => hD)
  obtain ⟨⟨x, y⟩, hxy, rfl⟩ := List.mem_map.mp hm
  obtain ⟨a, us, n, rfl, hm2, hall⟩ := dat_tup (show DatIn _ _ (.tuple [.str x, .str y]) from hD)
  obtain ⟨v1, w1, rfl, g1, hall⟩ := dat_cons hall
  obtain ⟨v2, w2, rfl, g2, hall⟩ := dat_cons hall
  obtain rfl := dat_nil hall
  obtain ⟨t1, rfl⟩ := dat_str g1
  obtain ⟨t2, rfl⟩ := dat_str g2
  exact hret _ _ _ _ (by assumption) (news_tail (by assumption)) ⟨_, x, y, _, _, _, nw, hxy, rfl, hm2, rfl⟩

section
open PySem.StrLaws PyProof PySem.Builtin PySem.Builtin.Str PySem.NumText
theorem cut_inj {c : Nat} : ∀ {a b r r' : List Nat}, c ∉ a → c ∉ b → a ++ c :: r = b ++ c :: r' → a = b ∧ r = r' := by
  intro a
  induction a with
  | nil =>
    intro b r r' _ hb e
    cases b with
    | nil => exact ⟨rfl, by simpa using e⟩
    | cons y b => rw [List.nil_append, List.cons_append] at e; injection e with e1 e2; exact absurd (by rw [e1]; exact List.mem_cons_self) hb
  | cons x a ih =>
    intro b r r' ha hb e
    cases b with
    | nil => rw [List.nil_append, List.cons_append] at e; injection e with e1 e2; exact absurd (by rw [← e1]; exact List.mem_cons_self) ha
    | cons y b =>
      rw [List.cons_append, List.cons_append] at e
      injection e with e1 e2
      obtain ⟨h1, h2⟩ := ih (fun h => ha (List.mem_cons_of_mem _ h)) (fun h => hb (List.mem_cons_of_mem _ h)) e2
      exact ⟨by rw [e1, h1], h2⟩
theorem join_cons2 (sep x y : Str) (r : List Str) : (Str.join sep (x :: y :: r)).cps.toList = x.cps.toList ++ (sep.cps.toList ++ (Str.join sep (y :: r)).cps.toList) := by
  show (x ++ sep ++ Str.join sep (y :: r)).cps.toList = _
  rw [Str.cps_append, Str.cps_append, Array.toList_append, Array.toList_append, List.append_assoc]
theorem glue_inj {c : Nat} : ∀ {xs ys : List Str}, xs ≠ [] → ys ≠ [] → (∀ x ∈ xs, c ∉ x.cps.toList) → (∀ y ∈ ys, c ∉ y.cps.toList) → (Str.join ⟨#[c]⟩ xs).cps.toList = (Str.join ⟨#[c]⟩ ys).cps.toList → xs = ys := by
  intro xs
  have ext : ∀ {a b : Str}, a.cps.toList = b.cps.toList → a = b := fun h => Str.ext' (Array.toList_inj.mp h)
  induction xs with
  | nil => intro ys h; exact absurd rfl h
  | cons x xs ih =>
    intro ys _ hy hx hys e
    cases ys with
    | nil => exact absurd rfl hy
    | cons y ys =>
      cases xs with
      | nil =>
        cases ys with
        | nil => rw [ext (a := x) (b := y) e]
        | cons z ys =>
          rw [join_cons2] at e
          refine absurd ?_ (hx x List.mem_cons_self)
          show c ∈ x.cps.toList
          rw [show x.cps.toList = _ from e]
          exact List.mem_append.mpr (.inr (List.mem_append.mpr (.inl List.mem_cons_self)))
      | cons w xs =>
        cases ys with
        | nil =>
          rw [join_cons2] at e
          refine absurd ?_ (hys y List.mem_cons_self)
          show c ∈ y.cps.toList
          rw [show y.cps.toList = _ from e.symm]
          exact List.mem_append.mpr (.inr (List.mem_append.mpr (.inl List.mem_cons_self)))
        | cons z ys =>
          rw [join_cons2, join_cons2] at e
          obtain ⟨h1, h2⟩ := cut_inj (hx x List.mem_cons_self) (hys y List.mem_cons_self) e
          rw [ext h1, ih (List.cons_ne_nil _ _) (List.cons_ne_nil _ _) (fun x h => hx x (List.mem_cons_of_mem _ h)) (fun x h => hys x (List.mem_cons_of_mem _ h)) h2]
theorem nl_eq : Str.ofString "\n" = ⟨#[10]⟩ := by decide +kernel
theorem split_join {xs : List Str} (h0 : xs ≠ []) (h : ∀ x ∈ xs, 10 ∉ x.cps.toList) : Txt.split (Str.join (Str.ofString "\n") xs) (Str.ofString "\n") = xs := by
  rw [nl_eq]
  have h1 := split_free (Str.join ⟨#[10]⟩ xs) 10
  refine glue_inj ?_ h0 h1 h (congrArg (fun z : Str => z.cps.toList) (join_split _ _))
  intro e
  have := split_pos (Str.join ⟨#[10]⟩ xs) ⟨#[10]⟩
  rw [e] at this
  exact absurd this (by decide)
end

section
open PySem.StrLaws PyProof PySem.Builtin PySem.Builtin.Str PySem.NumText
def isW (c : Nat) : Bool := ((decide (97 ≤ c) && decide (c ≤ 122)) || ((decide (65 ≤ c) && decide (c ≤ 90)) || c == 95)) || (decide (48 ≤ c) && decide (c ≤ 57))
theorem lt_one (a b : Nat) : decide ([a] < [b]) = decide (a < b) := by rw [decide_eq_decide, List.cons_lt_cons_iff]; simp
theorem ltS_one (a b : Nat) : ltS ⟨#[a]⟩ ⟨#[b]⟩ = decide (a < b) := lt_one a b
theorem eq_one (a b : Nat) : ((⟨#[a]⟩ : Str) == ⟨#[b]⟩) = (a == b) := by
  rw [Bool.eq_iff_iff, beq_iff_eq, beq_iff_eq]
  constructor
  · intro h; injection h with h; injection h with h; injection h
  · intro h; rw [h]
theorem isW_eq (c : Nat) : (isLetterS ⟨#[c]⟩ || isFigureS ⟨#[c]⟩) = isW c := by
  unfold isLetterS isFigureS isW
  rw [show ("a" : Str) = ⟨#[97]⟩ by decide +kernel, show ("z" : Str) = ⟨#[122]⟩ by decide +kernel, show ("A" : Str) = ⟨#[65]⟩ by decide +kernel, show ("Z" : Str) = ⟨#[90]⟩ by decide +kernel, show ("_" : Str) = ⟨#[95]⟩ by decide +kernel, show ("0" : Str) = ⟨#[48]⟩ by decide +kernel, show ("9" : Str) = ⟨#[57]⟩ by decide +kernel]
  simp only [ltS_one, eq_one, ← decide_not, Nat.not_lt]
theorem item_at {x : Str} {k : Nat} {c : Nat} {r : List Nat} (h : x.cps.toList.drop k = c :: r) : Txt.item x (k : Int) = ⟨#[c]⟩ ∧ k < x.length := by
  have hk : x.cps.toList[k]? = some c := by
    have := congrArg (fun l : List Nat => l[0]?) h
    simpa using this
  have hl : k < x.length := by
    have h2 := (List.getElem?_eq_some_iff.mp hk).1
    rwa [Array.length_toList] at h2
  refine ⟨?_, hl⟩
  have hk2 : x.cps[((k : Int)).toNat]? = some c := by rw [Int.toNat_natCast, ← Array.getElem?_toList]; exact hk
  show (⟨#[(Txt.charAt x (k : Int)).getD 0]⟩ : Str) = _
  have : Txt.charAt x (k : Int) = some c := at_nonneg (by omega) hk2
  rw [this]; rfl
theorem drop_end {x : Str} {k : Nat} (h : x.cps.toList.drop k = []) : x.length ≤ k := by
  have := List.drop_eq_nil_iff.mp h
  rwa [Array.length_toList] at this
theorem drop_next {l : List Nat} {k c : Nat} {r : List Nat} (h : l.drop k = c :: r) : l.drop (k + 1) = r := by
  rw [← List.drop_drop, h]; rfl
theorem we_word {x : Str} {r : List Nat} (hr : ∀ d, r.head? = some d → isW d = false) : ∀ (w : List Nat) (n e : Nat), (∀ d ∈ w, isW d = true) → x.cps.toList.drop e = w ++ r → x.length - e ≤ n → wordEndN x n (e : Int) = ((e + w.length : Nat) : Int) := by
  intro w
  induction w with
  | nil =>
    intro n e _ he hn
    cases n with
    | zero => rfl
    | succ n =>
      rw [wordEndN]
      split
      · rename_i hl
        cases r with
        | nil => have := drop_end (k := e) (by simpa using he); omega
        | cons d r =>
          have h1 := (item_at (x := x) (k := e) (by simpa using he)).1
          have : isWordAt x e = false := by rw [isWordAt, h1, isW_eq]; exact hr d rfl
          rw [if_neg (by rw [this]; decide)]; rfl
      · rfl
  | cons c w ih =>
    intro n e hw he hn
    rw [List.cons_append] at he
    obtain ⟨h1, h2⟩ := item_at he
    cases n with
    | zero => omega
    | succ n =>
      have h3 : isWordAt x e = true := by rw [isWordAt, h1, isW_eq]; exact hw c List.mem_cons_self
      rw [wordEndN, if_pos (by omega), if_pos h3]
      have := ih n (e + 1) (fun d hd => hw d (List.mem_cons_of_mem _ hd)) (drop_next he) (by omega)
      rw [show ((e : Int) + 1) = ((e + 1 : Nat) : Int) by omega, this]
      rw [List.length_cons]; omega
theorem slice_at {x : Str} {k : Nat} {w r : List Nat} (h : x.cps.toList.drop k = w ++ r) : Txt.slice x (some (k : Int)) (some ((k + w.length : Nat) : Int)) = ⟨w.toArray⟩ := by
  apply Str.ext'
  apply Array.toList_inj.mp
  have hx : x.cps.toList.length = x.length := Array.length_toList
  have hl : k + w.length ≤ x.length ∨ w = [] := by
    have := congrArg List.length h
    rw [List.length_drop, List.length_append] at this
    by_cases hw : w = []
    · exact .inr hw
    · have := List.length_pos_iff.mpr hw; exact .inl (by omega)
  rcases hl with hl | rfl
  · rw [slice_toList x _ _ (a := k) (b := k + w.length) rfl (by omega) hl, h, Nat.add_sub_cancel_left, List.take_left' rfl]
  · simp only [List.length_nil]
    by_cases hk : k ≤ x.length
    · rw [slice_toList x _ _ (a := k) (b := k + 0) rfl (by omega) (by omega)]; simp
    · have e : strSliceIndices (some (k : Int)) (some ((k + 0 : Nat) : Int)) 1 x.length = strSliceIndices (some ((x.length : Nat) : Int)) (some ((x.length : Nat) : Int)) 1 x.length := by
        have h1 : ¬ ((k : Int) < 0) := by omega
        have h2 : ¬ ((x.length : Int) < 0) := by omega
        have h3 : ¬ (((k + 0 : Nat) : Int) < 0) := by omega
        have e1 : max (0 : Int) (min (k : Int) (x.length : Int)) = x.length := by omega
        have e2 : max (0 : Int) (min (((k + 0 : Nat) : Int)) (x.length : Int)) = x.length := by omega
        have e3 : max (0 : Int) (min (x.length : Int) (x.length : Int)) = x.length := by omega
        simp only [strSliceIndices, sliceRange, h1, h2, h3, if_false, e1, e2, e3, show ((1 : Int) > 0) = True from by simp, if_true]
      rw [slice_toList x _ _ e (by omega) (by omega)]; simp
/-- the tokens of a line's codes -/
inductive Toks : List Nat → List Str → Prop
  | nil : Toks [] []
  | semi {r : List Nat} : Toks (59 :: r) []
  | sp {c : Nat} {r : List Nat} {ts : List Str} (hc : c = 32 ∨ c = 9 ∨ c = 13) (h : Toks r ts) : Toks (c :: r) ts
  | sign {c : Nat} {r : List Nat} {ts : List Str} (hc : c = 44 ∨ c = 58 ∨ c = 91 ∨ c = 93) (h : Toks r ts) : Toks (c :: r) (⟨#[c]⟩ :: ts)
  | word {c : Nat} {w r : List Nat} {ts : List Str} (hc : (isW c || c == 45) = true) (hw : ∀ d ∈ w, isW d = true) (hr : ∀ d, r.head? = some d → isW d = false) (h : Toks r ts) : Toks (c :: (w ++ r)) (⟨(c :: w).toArray⟩ :: ts)
theorem inT_eq (s : List Nat) (c : Nat) : inT ⟨s.toArray⟩ ⟨#[c]⟩ = decide (c ∈ s) := by
  unfold inT; exact found_one ⟨s.toArray⟩ c
theorem toks_run {x : Str} {l : List Nat} {ts : List Str} (h : Toks l ts) : ∀ (n k : Nat) (acc : List Str), x.cps.toList.drop k = l → x.length - k ≤ n → tokN x n (k : Int) acc = some (acc ++ ts) := by
  have e1 : Str.ofString ";" = ⟨#[59]⟩ := by decide +kernel
  have e2 : (" \t\r" : Str) = ⟨[32, 9, 13].toArray⟩ := by decide +kernel
  have e3 : (",:[]" : Str) = ⟨[44, 58, 91, 93].toArray⟩ := by decide +kernel
  have e4 : Str.ofString "-" = ⟨#[45]⟩ := by decide +kernel
  induction h with
  | nil =>
    intro n k acc hk hn
    have := drop_end hk
    cases n with
    | zero => simp [tokN]
    | succ n => rw [tokN, if_neg (by omega)]; simp
  | semi =>
    intro n k acc hk hn
    obtain ⟨h1, h2⟩ := item_at hk
    cases n with
    | zero => omega
    | succ n => rw [tokN, if_pos (by omega), h1, e1, if_neg (by simp)]; simp
  | sp hc _ ih =>
    intro n k acc hk hn
    obtain ⟨h1, h2⟩ := item_at hk
    cases n with
    | zero => omega
    | succ n =>
      rw [tokN, if_pos (by omega), h1, e1, if_pos (by rw [bne, eq_one]; rcases hc with rfl | rfl | rfl <;> decide), e2, inT_eq, if_pos (by rcases hc with rfl | rfl | rfl <;> decide)]
      exact ih n (k + 1) acc (drop_next hk) (by omega)
  | @sign c r ts hc _ ih =>
    intro n k acc hk hn
    obtain ⟨h1, h2⟩ := item_at hk
    cases n with
    | zero => omega
    | succ n =>
      rw [tokN, if_pos (by omega), h1, e1, if_pos (by rw [bne, eq_one]; rcases hc with rfl | rfl | rfl | rfl <;> decide), e2, inT_eq, if_neg (by rcases hc with rfl | rfl | rfl | rfl <;> decide), e3, inT_eq, if_pos (by rcases hc with rfl | rfl | rfl | rfl <;> decide)]
      have := ih n (k + 1) (acc ++ [⟨#[c]⟩]) (drop_next hk) (by omega)
      rw [List.append_assoc] at this
      exact this
  | @word c w r ts hc hw hr _ ih =>
    intro n k acc hk hn
    obtain ⟨h1, h2⟩ := item_at hk
    cases n with
    | zero => omega
    | succ n =>
      have hc2 : c ≠ 59 ∧ c ≠ 32 ∧ c ≠ 9 ∧ c ≠ 13 ∧ c ≠ 44 ∧ c ≠ 58 ∧ c ≠ 91 ∧ c ≠ 93 := by
        refine ⟨?_, ?_, ?_, ?_, ?_, ?_, ?_, ?_⟩ <;> (intro e; subst e; exact absurd hc (by decide))
      have hwe : wordEndF x (k : Int) = ((k + (c :: w).length : Nat) : Int) := by
        unfold wordEndF
        have := we_word (x := x) hr w x.length (k + 1) hw (drop_next hk) (by omega)
        rw [show ((k : Int) + 1) = ((k + 1 : Nat) : Int) by omega, this, List.length_cons]; omega
      rw [tokN, if_pos (by omega), h1, e1, if_pos (by rw [bne, eq_one]; simp [hc2.1]), e2, inT_eq, if_neg (by simp [hc2]), e3, inT_eq, if_neg (by simp [hc2]), if_pos (by rw [e4, eq_one, ← Bool.or_assoc, isW_eq]; exact hc), hwe]
      rw [slice_at (w := c :: w) (r := r) (by rw [hk]; rfl)]
      have hd : x.cps.toList.drop (k + (c :: w).length) = r := by
        rw [← List.drop_drop, hk]
        show ((c :: w) ++ r).drop _ = r
        rw [List.drop_left' rfl]
      have := ih n (k + (c :: w).length) (acc ++ [⟨(c :: w).toArray⟩]) hd (by rw [List.length_cons]; omega)
      rw [List.append_assoc] at this
      exact this
theorem toks_row {x : Str} {ts : List Str} (h : Toks x.cps.toList ts) : rowTokensF x = some ts := by
  have := toks_run (x := x) h x.length 0 [] rfl (by omega)
  exact this
end

section
open PySem.StrLaws PyProof PySem.Builtin PySem.Builtin.Str PySem.NumText
theorem digit_W {c : Nat} (h : 48 ≤ c ∧ c ≤ 57) : isW c = true := by
  unfold isW; simp [h.1, h.2]
theorem digit_fig {c : Nat} (h : 48 ≤ c ∧ c ≤ 57) : isFigureS ⟨#[c]⟩ = true := by
  unfold isFigureS
  rw [show ("0" : Str) = ⟨#[48]⟩ by decide +kernel, show ("9" : Str) = ⟨#[57]⟩ by decide +kernel, ltS_one, ltS_one]
  simp [h.1, h.2]
theorem allFigs_of {f : Str} (h : AllDigits f.cps.toList) (hne : f.cps.toList ≠ []) : allFigs f = true := by
  unfold allFigs
  rw [Bool.and_eq_true]
  refine ⟨?_, ?_⟩
  · rw [Bool.not_eq_true', beq_eq_false_iff_ne]
    intro e; rw [e] at hne; exact hne (by decide +kernel)
  · rw [List.all_eq_true]
    intro n hn
    obtain ⟨c, hc, rfl⟩ := List.mem_map.mp hn
    exact digit_fig (h c hc)
theorem nat_digits (m : Nat) : AllDigits ((Nat.toDigits 10 m).map Char.toNat) ∧ (Nat.toDigits 10 m).map Char.toNat ≠ [] := by
  refine ⟨?_, ?_⟩
  · intro c hc
    obtain ⟨ch, hch, e⟩ := List.mem_map.mp hc
    rw [← e]
    exact digit_range (Nat.isDigit_of_mem_toDigits (by decide) (by decide) hch)
  · intro e
    have h := toDigits_len_ge 10 m
    rw [List.map_eq_nil_iff.mp e] at h
    exact absurd h (by decide)
theorem text_neg (m : Nat) (h : 0 < m) : (Str.ofString (toString (-(m : Int)))).cps.toList = 45 :: (Nat.toDigits 10 m).map Char.toNat := by
  have e : toString (-(m : Int)) = "-" ++ toString ((m : Nat) : Int) := by
    have := toString_neg (n := -(m : Int)) (by omega)
    rw [this, show (0 - -(m : Int)) = ((m : Nat) : Int) by omega]
  rw [e, signs_ofString]
  have h2 := KIN.signs_num m
  rw [signs_ofString] at h2
  rw [String.toList_append, List.map_append, h2]
  rfl
theorem text_cases (n : Int) : (∃ m : Nat, n = m ∧ (Str.ofString (toString n)).cps.toList = (Nat.toDigits 10 m).map Char.toNat) ∨ (∃ m : Nat, 0 < m ∧ n = -(m : Int) ∧ (Str.ofString (toString n)).cps.toList = 45 :: (Nat.toDigits 10 m).map Char.toNat) := by
  by_cases h : 0 ≤ n
  · obtain ⟨m, rfl⟩ := Int.eq_ofNat_of_zero_le h
    exact .inl ⟨m, rfl, KIN.signs_num m⟩
  · refine .inr ⟨n.natAbs, by omega, by omega, ?_⟩
    have := text_neg n.natAbs (by omega)
    rwa [show -((n.natAbs : Nat) : Int) = n by omega] at this
theorem text_num (n : Int) : isNumberS (Str.ofString (toString n)) = true := by
  unfold isNumberS
  rcases text_cases n with ⟨m, _, e⟩ | ⟨m, _, _, e⟩
  · obtain ⟨h1, h2⟩ := nat_digits m
    rw [if_neg]
    · exact allFigs_of (by rw [e]; exact h1) (by rw [e]; exact h2)
    · intro h
      have h3 := congrArg (fun z : Str => z.cps.toList) (eq_of_beq h)
      simp only [slice_to1] at h3
      rw [e, show (Str.ofString "-").cps.toList = [45] by decide +kernel] at h3
      cases hl : (Nat.toDigits 10 m).map Char.toNat with
      | nil => exact h2 hl
      | cons c cs =>
        rw [hl] at h3 h1
        have h4 : c = 45 := by simpa using h3
        have := h1 c List.mem_cons_self
        omega
  · obtain ⟨h1, h2⟩ := nat_digits m
    rw [if_pos]
    · refine allFigs_of ?_ ?_ <;> rw [slice_from1, e]
      · exact h1
      · exact h2
    · refine beq_iff_eq.mpr (Str.ext' (Array.toList_inj.mp ?_))
      rw [slice_to1, e, show (Str.ofString "-").cps.toList = [45] by decide +kernel]; rfl
theorem text_len {n : Int} (h1 : -1000000 < n) (h2 : n < 1000000) : (Str.ofString (toString n)).length ≤ 8 := by
  by_cases h : 0 ≤ n
  · exact Nat.le_trans (toString_length_le h (k := 6) (by decide) (by omega)) (by decide)
  · rw [len_text_neg (by omega)]
    have := toString_length_le (v := 0 - n) (by omega) (k := 6) (by decide) (by omega)
    omega
theorem text_val {n : Int} (h1 : -1000000 < n) (h2 : n < 1000000) : numS (Str.ofString (toString n)) = n := by
  unfold numS
  have hl := text_len h1 h2
  rcases text_cases n with ⟨m, rfl, e⟩ | ⟨m, _, rfl, e⟩
  · rw [KIN.num_reads (by omega) (by omega)]; rfl
  · obtain ⟨h3, h4⟩ := nat_digits m
    rw [intText_neg e h3 h4 (by omega), KIN.val_back]; rfl
theorem text_W {n : Int} {c : Nat} {r : List Nat} (h : (Str.ofString (toString n)).cps.toList = c :: r) : (isW c || c == 45) = true ∧ ∀ d ∈ r, isW d = true := by
  rcases text_cases n with ⟨m, _, e⟩ | ⟨m, _, _, e⟩
  · obtain ⟨h1, _⟩ := nat_digits m
    rw [← e, h] at h1
    exact ⟨by rw [digit_W (h1 c List.mem_cons_self)]; rfl, fun d hd => digit_W (h1 d (List.mem_cons_of_mem _ hd))⟩
  · rw [e] at h
    injection h with h1 h2
    subst h1 h2
    obtain ⟨h1, _⟩ := nat_digits m
    exact ⟨by decide, fun d hd => digit_W (h1 d hd)⟩
theorem text_ne (n : Int) : ∃ c r, (Str.ofString (toString n)).cps.toList = c :: r := by
  rcases text_cases n with ⟨m, _, e⟩ | ⟨m, _, _, e⟩
  · obtain ⟨_, h1⟩ := nat_digits m
    rw [e]
    cases h : (Nat.toDigits 10 m).map Char.toNat with
    | nil => exact absurd h h1
    | cons c r => exact ⟨c, r, rfl⟩
  · exact ⟨_, _, e⟩
theorem text_Wn {n : Int} (h0 : 0 ≤ n) : ∀ d ∈ (Str.ofString (toString n)).cps.toList, isW d = true := by
  obtain ⟨m, rfl⟩ := Int.eq_ofNat_of_zero_le h0
  obtain ⟨h1, _⟩ := nat_digits m
  intro d hd
  rw [KIN.signs_num] at hd
  exact digit_W (h1 d hd)
abbrev numT (n : Int) : Str := Str.ofString (toString n)
abbrev regT (n : Int) : Str := Str.ofString "R" ++ Str.ofString (toString n)
theorem whole_ok {ts : List Str} {p n : Int} (h : takeT ts p = numT n) (h1 : -1000000 < n) (h2 : n < 1000000) : wholeF ts p = .ok (n, takeP ts p) := by
  have hl : (numT n).length ≤ 8 := text_len h1 h2
  unfold wholeF
  rw [h, text_num, if_neg (by decide), if_neg (by omega), if_neg (by omega), text_val h1 h2]
theorem reg_facts : ∀ k : Fin 16, (Txt.slice (regT (k.val : Int)) none (some 1) != Str.ofString "R") = false ∧ isNumberS (Txt.slice (regT (k.val : Int)) (some 1) none) = true ∧ (regT (k.val : Int)).length ≤ 3 ∧ (Txt.item (regT (k.val : Int)) 1 == Str.ofString "-") = false ∧ numS (Txt.slice (regT (k.val : Int)) (some 1) none) = k.val ∧ ((regT (k.val : Int)).length = 3 → (Txt.item (regT (k.val : Int)) 1 == Str.ofString "0") = false) := by decide +kernel
theorem reg_ok {ts : List Str} {p n : Int} (h : takeT ts p = regT n) (h1 : 0 ≤ n) (h2 : n < 16) : registerF ts p = .ok (n, takeP ts p) := by
  obtain ⟨m, rfl⟩ := Int.eq_ofNat_of_zero_le h1
  obtain ⟨f1, f2, f3, f4, f5, f6⟩ := reg_facts ⟨m, by omega⟩
  dsimp only at f1 f2 f3 f4 f5 f6
  unfold registerF
  rw [h, if_neg (by rw [f1]; decide), if_neg (by rw [f2]; decide), if_neg (by omega), if_neg (by rw [f4]; decide), f5, if_neg (by omega), if_neg (fun q => by rw [f6 q.1] at q; exact absurd q.2 (by decide))]
theorem expect_ok {ts : List Str} {p : Int} {s : Str} (h : takeT ts p = s) : expectF ts s p = .ok ((), takeP ts p) := by
  unfold expectF; rw [h, if_neg (by simp)]
end

section
open PySem.StrLaws PyProof PySem.Builtin PySem.Builtin.Str PySem.NumText
/-- a line is read as a row, whatever stands before -/
def Reads1 (x : Str) (r : Row) : Prop := ∃ ts p, rowTokensF x = some ts ∧ labelF ts = .ok (Str.ofString "") ∧ 0 < (ts.length : Int) ∧ readRowF ts 0 = .ok (r, p) ∧ finishF ts p = .ok ((), p)
theorem Reads1.step {x : Str} {r : Row} (h : Reads1 x r) (n : Int) (st : List (Int × Row) × List (Str × Int)) : stepF n x st = .ok (st.1 ++ [(n, r)], st.2) := by
  obtain ⟨ts, p, h1, h2, h3, h4, h5⟩ := h
  unfold stepF restF
  rw [h1]; dsimp only
  rw [h2]
  refine bind_ok rfl ?_
  rw [if_neg (show ¬ ((Str.ofString "" != Str.ofString "") = true) by decide +kernel), if_pos h3]
  refine bind_ok h4 ?_
  dsimp only
  exact bind_ok h5 rfl
theorem Toks.w {w r : List Nat} {ts : List Str} {c : Nat} {t : List Nat} {x : Str} (hr : ∀ d, r.head? = some d → isW d = false) (h : Toks r ts) (e : w = c :: t) (hc : (isW c || c == 45) = true) (hw : ∀ d ∈ t, isW d = true) (hx : x.cps.toList = w) : Toks (w ++ r) (x :: ts) := by
  obtain rfl : x = ⟨w.toArray⟩ := Str.ext' (Array.toList_inj.mp hx)
  subst e; exact .word hc hw hr h
theorem Toks.reg {r : List Nat} {ts : List Str} {n : Int} (h0 : 0 ≤ n) (hr : ∀ d, r.head? = some d → isW d = false) (h : Toks r ts) : Toks (82 :: ((numT n).cps.toList ++ r)) (regT n :: ts) :=
  Toks.w (w := 82 :: (numT n).cps.toList) hr h rfl (by decide) (text_Wn h0) (by rw [Str.cps_append, Array.toList_append]; rfl)
theorem Toks.num {r : List Nat} {ts : List Str} {n : Int} (hr : ∀ d, r.head? = some d → isW d = false) (h : Toks r ts) : Toks ((numT n).cps.toList ++ r) (numT n :: ts) := by
  obtain ⟨c, t, e⟩ := text_ne n
  obtain ⟨h1, h2⟩ := text_W e
  exact Toks.w hr h e h1 h2 rfl
theorem Toks.lit {w r : List Nat} {ts : List Str} {x : Str} (hx : x.cps.toList = w) (hr : ∀ d, r.head? = some d → isW d = false) (h : Toks r ts) (hw : ∃ c t, w = c :: t ∧ (isW c || c == 45) = true ∧ ∀ d ∈ t, isW d = true) : Toks (w ++ r) (x :: ts) := by
  obtain ⟨c, t, e, h1, h2⟩ := hw
  exact Toks.w hr h e h1 h2 hx
theorem comma {r : List Nat} {ts : List Str} (h : Toks r ts) : Toks (44 :: r) (Str.ofString "," :: ts) := by
  rw [show Str.ofString "," = ⟨#[44]⟩ by decide +kernel]; exact .sign (.inl rfl) h
theorem bra {r : List Nat} {ts : List Str} (h : Toks r ts) : Toks (91 :: r) (Str.ofString "[" :: ts) := by
  rw [show Str.ofString "[" = ⟨#[91]⟩ by decide +kernel]; exact .sign (.inr (.inr (.inl rfl))) h
theorem ket {r : List Nat} {ts : List Str} (h : Toks r ts) : Toks (93 :: r) (Str.ofString "]" :: ts) := by
  rw [show Str.ofString "]" = ⟨#[93]⟩ by decide +kernel]; exact .sign (.inr (.inr (.inr rfl))) h
theorem no_head {c : Nat} {r : List Nat} (h : isW c = false) : ∀ d, (c :: r).head? = some d → isW d = false := fun d e => by injection e with e; rw [← e]; exact h
theorem nil_head : ∀ d, ([] : List Nat).head? = some d → isW d = false := fun d e => nomatch e
theorem end_num {n : Int} : Toks (numT n).cps.toList [numT n] := by
  have := Toks.num (n := n) nil_head .nil
  rwa [List.append_nil] at this
theorem end_reg {n : Int} (h : 0 ≤ n) : Toks (82 :: (numT n).cps.toList) [regT n] := by
  have := Toks.reg (n := n) h nil_head .nil
  rwa [List.append_nil] at this
theorem reg_head {n : Int} (h : (regT n).cps.toList.head? = (Str.ofString ":").cps.toList.head?) : False := by
  rw [Str.cps_append, Array.toList_append, show (Str.ofString ":").cps.toList = [58] by decide +kernel, show (Str.ofString "R").cps.toList = [82] by decide +kernel] at h
  exact absurd h (by simp)
theorem reads_addi {a b i : Int} (h1 : 0 ≤ a) (h2 : a < 16) (h3 : 0 ≤ b) (h4 : b < 16) (h5 : 0 ≤ i) (h6 : i < 131072) : Reads1 (Str.ofString "ADDI R" ++ numT a ++ Str.ofString ", R" ++ numT b ++ Str.ofString ", " ++ numT (i - 65536)) (.I (Str.ofString "ADDI") a b (i - 65536)) := by
  refine ⟨[Str.ofString "ADDI", regT a, Str.ofString ",", regT b, Str.ofString ",", numT (i - 65536)], 6, toks_row ?_, ?_, ?_, ?_, ?_⟩
  · simp only [Str.cps_append, Array.toList_append, List.append_assoc]
    rw [show (Str.ofString "ADDI R").cps.toList = [65, 68, 68, 73] ++ [32, 82] by decide +kernel, show (Str.ofString ", R").cps.toList = [44, 32, 82] by decide +kernel, show (Str.ofString ", ").cps.toList = [44, 32] by decide +kernel]
    simp only [List.append_assoc]
    exact Toks.lit (by decide +kernel) (no_head (by decide)) (.sp (.inl rfl) (Toks.reg h1 (no_head (by decide)) (comma (.sp (.inl rfl) (Toks.reg h3 (no_head (by decide)) (comma (.sp (.inl rfl) end_num))))))) ⟨_, _, rfl, by decide, by decide⟩
  · unfold labelF
    refine ifp (by show (1 : Int) < 6; decide) (ifn ?_ rfl)
    show ¬ ((regT a == Str.ofString ":") = true)
    intro e; have := congrArg (fun z : Str => z.cps.toList.head?) (eq_of_beq e)
    exact reg_head this
  · exact (by decide : (0 : Int) < 6)
  · unfold readRowF
    refine ifn (by show ¬ (opsL.any (fun y => y == Str.ofString "ADDI") = true); decide +kernel) (ifp (by show (immOp (Str.ofString "ADDI") != Str.ofString "") = true; decide +kernel) ?_)
    show opRowF (Str.ofString "ADDI") _ 1 = _
    unfold opRowF
    refine bind_ok (reg_ok (n := a) rfl h1 h2) (ifn (by decide +kernel) ?_)
    dsimp only
    refine bind_ok (bind_ok (expect_ok rfl) (reg_ok (n := b) rfl h3 h4)) ?_
    dsimp only
    unfold opTailF
    refine ifp (by decide +kernel) (bind_ok (bind_ok (expect_ok rfl) (whole_ok (n := i - 65536) rfl (by omega) (by omega))) rfl)
  · rfl
theorem label_no {ts : List Str} {x : Str} (h : ts.getD (Int.toNat 1) Str.empty = x) (hx : (x == Str.ofString ":") = false) : labelF ts = .ok (Str.ofString "") := by
  unfold labelF
  split
  · rw [h, if_neg (by rw [hx]; decide)]
  · rfl
theorem reg_colon (n : Int) : (regT n == Str.ofString ":") = false := by
  rw [beq_eq_false_iff_ne]
  intro e; exact reg_head (congrArg (fun z : Str => z.cps.toList.head?) e)
theorem reads_mov {a b : Int} (h1 : 0 ≤ a) (h2 : a < 16) (h3 : 0 ≤ b) (h4 : b < 16) : Reads1 (Str.ofString "  MOV  R" ++ numT a ++ Str.ofString " ,R" ++ numT b ++ Str.ofString " ; moved") (.I (Str.ofString "MOV") a 0 b) := by
  refine ⟨[Str.ofString "MOV", regT a, Str.ofString ",", regT b], 4, toks_row ?_, label_no rfl (reg_colon a), (by show (0 : Int) < 4; decide), ?_, rfl⟩
  · simp only [Str.cps_append, Array.toList_append, List.append_assoc]
    rw [show (Str.ofString "  MOV  R").cps.toList = 32 :: 32 :: ([77, 79, 86] ++ [32, 32, 82]) by decide +kernel, show (Str.ofString " ,R").cps.toList = [32, 44, 82] by decide +kernel, show (Str.ofString " ; moved").cps.toList = [32, 59, 32, 109, 111, 118, 101, 100] by decide +kernel]
    simp only [List.append_assoc, List.cons_append]
    exact .sp (.inl rfl) (.sp (.inl rfl) (Toks.lit (w := [77, 79, 86]) (by decide +kernel) (no_head (by decide)) (.sp (.inl rfl) (.sp (.inl rfl) (Toks.reg h1 (no_head (by decide)) (.sp (.inl rfl) (comma (Toks.reg h3 (no_head (by decide)) (.sp (.inl rfl) .semi))))))) ⟨_, _, rfl, by decide, by decide⟩))
  · unfold readRowF
    refine ifp (by show opsL.any (fun y => y == Str.ofString "MOV") = true; decide +kernel) ?_
    show opRowF (Str.ofString "MOV") _ 1 = _
    unfold opRowF
    refine bind_ok (reg_ok (n := a) rfl h1 h2) (ifp (by decide +kernel) ?_)
    dsimp only
    unfold opTailF
    refine ifn (by decide +kernel) (bind_ok (bind_ok (expect_ok rfl) (reg_ok (n := b) rfl h3 h4)) rfl)
theorem reads_stb {a b : Int} (h1 : 0 ≤ a) (h2 : a < 16) (h3 : 0 ≤ b) (h4 : b < 16) : Reads1 (Str.ofString "STB R" ++ numT a ++ Str.ofString ", [R" ++ numT b ++ Str.ofString "]") (.I (Str.ofString "STB") a b 0) := by
  refine ⟨[Str.ofString "STB", regT a, Str.ofString ",", Str.ofString "[", regT b, Str.ofString "]"], 6, toks_row ?_, label_no rfl (reg_colon a), (by show (0 : Int) < 6; decide), ?_, rfl⟩
  · simp only [Str.cps_append, Array.toList_append, List.append_assoc]
    rw [show (Str.ofString "STB R").cps.toList = [83, 84, 66] ++ [32, 82] by decide +kernel, show (Str.ofString ", [R").cps.toList = [44, 32, 91, 82] by decide +kernel, show (Str.ofString "]").cps.toList = [93] by decide +kernel]
    simp only [List.append_assoc]
    exact Toks.lit (by decide +kernel) (no_head (by decide)) (.sp (.inl rfl) (Toks.reg h1 (no_head (by decide)) (comma (.sp (.inl rfl) (bra (Toks.reg h3 (no_head (by decide)) (ket .nil))))))) ⟨_, _, rfl, by decide, by decide⟩
  · unfold readRowF
    refine ifn (by show ¬ (opsL.any (fun y => y == Str.ofString "STB") = true); decide +kernel) (ifn (by show ¬ ((immOp (Str.ofString "STB") != Str.ofString "") = true); decide +kernel) (ifn (by show ¬ ((Str.ofString "STB" == Str.ofString "MOVH") = true); decide +kernel) (ifn (by show ¬ ((Str.ofString "STB" == Str.ofString "GETH") = true); decide +kernel) (ifp (by show memL.any (fun y => y == Str.ofString "STB") = true; decide +kernel) ?_))))
    show memRowF (Str.ofString "STB") _ 1 = _
    unfold memRowF
    refine bind_ok (reg_ok (n := a) rfl h1 h2) ?_
    dsimp only
    refine bind_ok (expect_ok rfl) (bind_ok (expect_ok rfl) (bind_ok (reg_ok (n := b) rfl h3 h4) (ifn (by show ¬ ((Str.ofString "]" == Str.ofString ",") = true); decide +kernel) (ifn (by show ¬ ((Str.ofString "]" != Str.ofString "]") = true); decide +kernel) rfl))))
theorem reads_geth {a : Int} (h1 : 0 ≤ a) (h2 : a < 16) : Reads1 (Str.ofString "GETH R" ++ numT a) (.I (Str.ofString "GETH") a 0 0) := by
  refine ⟨[Str.ofString "GETH", regT a], 2, toks_row ?_, label_no rfl (reg_colon a), (by show (0 : Int) < 2; decide), ?_, rfl⟩
  · simp only [Str.cps_append, Array.toList_append, List.append_assoc]
    rw [show (Str.ofString "GETH R").cps.toList = [71, 69, 84, 72] ++ [32, 82] by decide +kernel]
    simp only [List.append_assoc]
    exact Toks.lit (by decide +kernel) (no_head (by decide)) (.sp (.inl rfl) (end_reg h1)) ⟨_, _, rfl, by decide, by decide⟩
  · unfold readRowF
    refine ifn (by show ¬ (opsL.any (fun y => y == Str.ofString "GETH") = true); decide +kernel) (ifn (by show ¬ ((immOp (Str.ofString "GETH") != Str.ofString "") = true); decide +kernel) (ifn (by show ¬ ((Str.ofString "GETH" == Str.ofString "MOVH") = true); decide +kernel) (ifp (by show (Str.ofString "GETH" == Str.ofString "GETH") = true; decide +kernel) ?_)))
    exact bind_ok (reg_ok (n := a) rfl h1 h2) rfl
theorem reads_trap {a b : Int} (h1 : 0 ≤ a) (h2 : a < 16) (h3 : 0 ≤ b) (h4 : b < 16) : Reads1 (Str.ofString "TRAP NE, " ++ numT a ++ Str.ofString ", " ++ numT b) (.C (Str.ofString "TRAP") (Str.ofString "NE") a b) := by
  refine ⟨[Str.ofString "TRAP", Str.ofString "NE", Str.ofString ",", numT a, Str.ofString ",", numT b], 6, toks_row ?_, label_no (x := Str.ofString "NE") rfl (by decide +kernel), (by show (0 : Int) < 6; decide), ?_, rfl⟩
  · simp only [Str.cps_append, Array.toList_append, List.append_assoc]
    rw [show (Str.ofString "TRAP NE, ").cps.toList = [84, 82, 65, 80] ++ 32 :: ([78, 69] ++ [44, 32]) by decide +kernel, show (Str.ofString ", ").cps.toList = [44, 32] by decide +kernel]
    simp only [List.append_assoc, List.cons_append]
    exact Toks.lit (w := [84, 82, 65, 80]) (by decide +kernel) (no_head (by decide)) (.sp (.inl rfl) (Toks.lit (w := [78, 69]) (by decide +kernel) (no_head (by decide)) (comma (.sp (.inl rfl) (Toks.num (no_head (by decide)) (comma (.sp (.inl rfl) end_num))))) ⟨_, _, rfl, by decide, by decide⟩)) ⟨_, _, rfl, by decide, by decide⟩
  · unfold readRowF
    refine ifn (by show ¬ (opsL.any (fun y => y == Str.ofString "TRAP") = true); decide +kernel) (ifn (by show ¬ ((immOp (Str.ofString "TRAP") != Str.ofString "") = true); decide +kernel) (ifn (by show ¬ ((Str.ofString "TRAP" == Str.ofString "MOVH") = true); decide +kernel) (ifn (by show ¬ ((Str.ofString "TRAP" == Str.ofString "GETH") = true); decide +kernel) (ifn (by show ¬ (memL.any (fun y => y == Str.ofString "TRAP") = true); decide +kernel)
      (ifn (by show ¬ ((Str.ofString "TRAP" == Str.ofString "B") = true); decide +kernel) (ifn (by show ¬ ((Str.ofString "TRAP" == Str.ofString "BL") = true); decide +kernel) (ifn (by show ¬ ((Str.ofString "TRAP" == Str.ofString "BR") = true); decide +kernel) (ifn (by show ¬ ((Str.ofString "TRAP" == Str.ofString "BLR") = true); decide +kernel) (ifp (by show (Str.ofString "TRAP" == Str.ofString "TRAP") = true; decide +kernel) ?_)))))))))
    show trapRowF (Str.ofString "TRAP") _ 1 = _
    unfold trapRowF
    refine bind_ok (q := (Str.ofString "NE", 2)) (ifp (by show condL.any (fun y => y == Str.ofString "NE") = true; decide +kernel) rfl) ?_
    dsimp only
    refine bind_ok (bind_ok (expect_ok rfl) (whole_ok (n := a) rfl (by omega) (by omega))) ?_
    dsimp only
    exact bind_ok (bind_ok (expect_ok rfl) (whole_ok (n := b) rfl (by omega) (by omega))) rfl
theorem reads_bl : Reads1 (Str.ofString "BL LT, end") (.S (Str.ofString "BL") (Str.ofString "LT") (Str.ofString "end")) :=
  ⟨[Str.ofString "BL", Str.ofString "LT", Str.ofString ",", Str.ofString "end"], 4, by decide +kernel, by kernel_rfl, by decide, by kernel_rfl, by kernel_rfl⟩
theorem reads_b : Reads1 (Str.ofString "B AL, first") (.S (Str.ofString "B") (Str.ofString "AL") (Str.ofString "first")) :=
  ⟨[Str.ofString "B", Str.ofString "AL", Str.ofString ",", Str.ofString "first"], 4, by decide +kernel, by kernel_rfl, by decide, by kernel_rfl, by kernel_rfl⟩
end

section
theorem Sound.reads {x : Str} {r : Row} (h : Sound x r) : Reads1 x r := by
  cases h with
  | addi h1 h2 h3 h4 h5 h6 => exact reads_addi h1 h2 h3 h4 h5 h6
  | mov h1 h2 h3 h4 => exact reads_mov h1 h2 h3 h4
  | stb h1 h2 h3 h4 => exact reads_stb h1 h2 h3 h4
  | geth h1 h2 => exact reads_geth h1 h2
  | trap h1 h2 h3 h4 => exact reads_trap h1 h2 h3 h4
  | bl => exact reads_bl
  | b => exact reads_b
def fillL : List Str := ["", "   ; nothing", "\t"]
theorem fill_step {x : Str} (h : x ∈ fillL) (n : Int) (st : List (Int × Row) × List (Str × Int)) : stepF n x st = .ok st := by
  have h2 : rowTokensF x = some [] := by
    simp only [fillL, List.mem_cons, List.not_mem_nil, or_false] at h
    rcases h with rfl | rfl | rfl <;> kernel_rfl
  unfold stepF
  rw [h2]
  kernel_rfl
inductive BodyL : List Str → List Row → Prop where
  | nil : BodyL [] []
  | snd {x : Str} {r : Row} {xs : List Str} {rs : List Row} (h : Sound x r) (b : BodyL xs rs) : BodyL (x :: xs) (r :: rs)
  | fill {x : Str} {xs : List Str} {rs : List Row} (h : x ∈ fillL) (b : BodyL xs rs) : BodyL (x :: xs) rs
theorem BodyL.append {xs ys : List Str} {rs qs : List Row} (h : BodyL xs rs) (k : BodyL ys qs) : BodyL (xs ++ ys) (rs ++ qs) := by
  induction h with
  | nil => exact k
  | snd h _ ih => exact .snd h ih
  | fill h _ ih => exact .fill h ih
theorem BodyL.split {ys : List Str} : ∀ {xs : List Str} {rs : List Row}, BodyL (xs ++ ys) rs → ∃ r1 r2, rs = r1 ++ r2 ∧ BodyL xs r1 ∧ BodyL ys r2 := by
  intro xs
  induction xs with
  | nil => intro rs h; exact ⟨[], rs, rfl, .nil, h⟩
  | cons x xs ih =>
    intro rs h
    rw [List.cons_append] at h
    cases h with
    | snd h b =>
      obtain ⟨r1, r2, rfl, h1, h2⟩ := ih b
      exact ⟨_ :: r1, r2, rfl, .snd h h1, h2⟩
    | fill h b =>
      obtain ⟨r1, r2, rfl, h1, h2⟩ := ih b
      exact ⟨r1, r2, rfl, .fill h h1, h2⟩
theorem BodyL.one {x : Str} {r : Row} (h : Sound x r) : BodyL [x] [r] := .snd h .nil
theorem BodyL.lenR {xs : List Str} {rs : List Row} (h : BodyL xs rs) : rs.length ≤ xs.length := by
  induction h with
  | nil => exact Nat.le_refl _
  | snd _ _ ih => simp only [List.length_cons]; omega
  | fill _ _ ih => simp only [List.length_cons]; omega
theorem BodyL.rows {xs : List Str} {rs : List Row} (h : BodyL xs rs) : ∀ r ∈ rs, ∃ x, Sound x r := by
  induction h with
  | nil => exact List.forall_mem_nil _
  | snd h _ ih => exact List.forall_mem_cons.mpr ⟨⟨_, h⟩, ih⟩
  | fill _ _ ih => exact ih
theorem body_lines {xs : List Str} {rs : List Row} (h : BodyL xs rs) : ∀ (n : Int) (ds : List (Int × Row)) (lab : List (Str × Int)), ∃ ds', linesF xs n (ds, lab) = .ok (ds ++ ds', lab) ∧ ds'.map (·.2) = rs := by
  induction h with
  | nil => intro n ds lab; exact ⟨[], by rw [List.append_nil]; rfl, rfl⟩
  | snd h _ ih =>
    intro n ds lab
    obtain ⟨ds', h1, h2⟩ := ih (n + 1) (ds ++ [(n + 1, _)]) lab
    refine ⟨(n + 1, _) :: ds', ?_, congrArg (List.cons _) h2⟩
    rw [linesF, h.reads.step]
    dsimp only
    rw [h1, List.append_assoc]; rfl
  | fill h _ ih =>
    intro n ds lab
    obtain ⟨ds', h1, h2⟩ := ih (n + 1) ds lab
    refine ⟨ds', ?_, h2⟩
    rw [linesF, fill_step h]
    exact h1
def dueR (N i : Int) : Row → Row
  | .S x y z => if (z == Str.ofString "first") = true then .C x y (-1 - i) 0 else if (z == Str.ofString "end") = true then .C x y (N - 1 - i) 0 else .S x y z
  | .I x a b c => .I x a b c
  | .C x y c l => .C x y c l
def dueL (N : Int) : Int → List Row → List Row
  | _, [] => []
  | k, r :: rs => dueR N k r :: dueL N (k + 1) rs
theorem dueL_app (N : Int) : ∀ (a b : List Row) (k : Int), dueL N k (a ++ b) = dueL N k a ++ dueL N (k + a.length) b := by
  intro a
  induction a with
  | nil => intro b k; simp [dueL]
  | cons r a ih =>
    intro b k
    rw [List.cons_append, dueL, dueL, ih, List.cons_append, List.length_cons]
    congr 3
    omega
theorem dueL_len (N : Int) : ∀ (a : List Row) (k : Int), (dueL N k a).length = a.length := by
  intro a
  induction a with
  | nil => intro k; rfl
  | cons r a ih => intro k; rw [dueL, List.length_cons, List.length_cons, ih]
abbrev lab1 : List (Str × Int) := [(Str.ofString "first", 0)]
abbrev lab2 (N : Int) : List (Str × Int) := [(Str.ofString "first", 0), (Str.ofString "end", N)]
theorem dec_t {p : Prop} [Decidable p] (h : p) : decide p = true := decide_eq_true h
theorem opFault_ok {x : Str} {a b c : Int} (h1 : 0 ≤ a) (h2 : a < 16) (h3 : 0 ≤ b) (h4 : b < 16) (hx : ((([("MOV" : Str), "MOVI", "MOVH", "GETH"].any (· == x))) = false ∨ b = 0)) (hy : (x == ("MOVH" : Str)) = false) (hg : (x == ("GETH" : Str)) = true → c = 0) (ho : (x == ("GETH" : Str)) = false → (opsL.any (· == x)) = true → 0 ≤ c ∧ c ≤ 15) (hc : -65536 ≤ c ∧ c ≤ 65535) : opFault x a b c = Str.ofString "" := by
  unfold opFault
  rw [dec_t (show 0 ≤ a ∧ a ≤ 15 by omega), if_neg (by decide), dec_t (show 0 ≤ b ∧ b ≤ 15 by omega), if_neg (by decide), if_neg]
  · cases hq : (x == ("GETH" : Str)) with
    | true => rw [if_pos rfl, hg hq]; decide
    | false =>
      rw [if_neg (by decide), hy, if_neg (by decide)]
      cases hp : (opsL.any (· == x)) with
      | true => rw [if_pos rfl, dec_t (ho hq hp)]; rfl
      | false => rw [if_neg (by decide), dec_t hc]; rfl
  · rw [Bool.and_eq_true]
    rintro ⟨h, h'⟩
    rcases hx with hx | hx
    · rw [hx] at h; exact absurd h (by decide)
    · rw [hx] at h'; exact absurd h' (by decide)
theorem sound_aim {x : Str} {r : Row} (h : Sound x r) {N i : Int} (h0 : 0 ≤ i) (hN : i < N) (hN2 : N ≤ 100000) : aimF (lab2 N) i r = .ok (dueR N i r) ∧ faultF (dueR N i r) = Str.ofString "" := by
  cases h with
  | addi h1 h2 h3 h4 h5 h6 =>
    refine ⟨rfl, ?_⟩
    show rowFaultI _ _ _ _ = _
    unfold rowFaultI
    rw [if_pos (by decide +kernel)]
    exact opFault_ok h1 h2 h3 h4 (.inl (by decide +kernel)) (by decide +kernel) (fun h => absurd h (by decide +kernel)) (fun _ h => absurd h (by decide +kernel)) (by omega)
  | mov h1 h2 h3 h4 =>
    refine ⟨rfl, ?_⟩
    show rowFaultI _ _ _ _ = _
    unfold rowFaultI
    rw [if_pos (by decide +kernel)]
    exact opFault_ok h1 h2 (by omega) (by omega) (.inr rfl) (by decide +kernel) (fun h => absurd h (by decide +kernel)) (fun _ h => by omega) (by omega)
  | stb h1 h2 h3 h4 =>
    refine ⟨rfl, ?_⟩
    show rowFaultI _ _ _ _ = _
    unfold rowFaultI memFault
    rw [if_neg (by decide +kernel), if_pos (by decide +kernel), dec_t (by omega), if_neg (by decide), dec_t (by omega), if_neg (by decide)]
    rfl
  | geth h1 h2 =>
    refine ⟨rfl, ?_⟩
    show rowFaultI _ _ _ _ = _
    unfold rowFaultI
    rw [if_pos (by decide +kernel)]
    exact opFault_ok h1 h2 (by omega) (by omega) (.inr rfl) (by decide +kernel) (fun _ => rfl) (fun h => absurd h (by decide +kernel)) (by omega)
  | trap h1 h2 h3 h4 =>
    refine ⟨by kernel_rfl, ?_⟩
    show brFault _ _ _ _ = _
    unfold brFault
    rw [if_neg (by decide +kernel), if_pos (by decide +kernel), dec_t (by omega), if_neg (by decide), dec_t (by omega)]
    rfl
  | bl =>
    have e : dueR N i (.S (Str.ofString "BL") (Str.ofString "LT") (Str.ofString "end")) = .C (Str.ofString "BL") (Str.ofString "LT") (N - 1 - i) 0 := by
      unfold dueR
      dsimp only
      exact ifn (by decide +kernel) (ifp (by decide +kernel) rfl)
    rw [e]
    refine ⟨?_, ?_⟩
    · unfold aimF
      dsimp only
      refine bind_ok (q := N - i - 1) ?_ (by rw [show N - i - 1 = N - 1 - i by omega])
      kernel_rfl
    · show brFault _ _ _ _ = _
      unfold brFault
      rw [if_neg (by decide +kernel), if_neg (by decide +kernel), dec_t (by omega), if_neg (by decide), if_pos (by decide +kernel), dec_t (by omega)]
      rfl
  | b =>
    have e : dueR N i (.S (Str.ofString "B") (Str.ofString "AL") (Str.ofString "first")) = .C (Str.ofString "B") (Str.ofString "AL") (-1 - i) 0 := by
      unfold dueR
      dsimp only
      exact ifp (by decide +kernel) rfl
    rw [e]
    refine ⟨?_, ?_⟩
    · unfold aimF
      dsimp only
      refine bind_ok (q := 0 - i - 1) ?_ (by rw [show 0 - i - 1 = -1 - i by omega])
      kernel_rfl
    · show brFault _ _ _ _ = _
      unfold brFault
      rw [if_neg (by decide +kernel), if_neg (by decide +kernel), dec_t (by omega), if_neg (by decide), if_pos (by decide +kernel), dec_t (by omega)]
      rfl
theorem rows_due {N : Int} (hN : N ≤ 100000) {rest : List (Int × Row)} : ∀ (ds : List (Int × Row)) (acc : List Row), (∀ p ∈ ds, ∃ x, Sound x p.2) → (acc.length : Int) + ds.length ≤ N → rowsF (lab2 N) (ds ++ rest) acc = rowsF (lab2 N) rest (acc ++ dueL N acc.length (ds.map (·.2))) := by
  intro ds
  induction ds with
  | nil => intro acc _ _; simp [dueL]
  | cons d ds ih =>
    intro acc hs hl
    obtain ⟨n, r⟩ := d
    rw [List.length_cons] at hl
    obtain ⟨x, hx⟩ := hs _ List.mem_cons_self
    obtain ⟨h1, h2⟩ := sound_aim (N := N) (i := acc.length) hx (by omega) (by omega) hN
    rw [List.cons_append, rows_ok h1 h2 (by decide +kernel), ih (acc ++ [dueR N acc.length r]) (fun p hp => hs p (List.mem_cons_of_mem _ hp)) (by rw [List.length_append, List.length_cons, List.length_nil]; omega)]
    rw [List.append_assoc, List.length_append, List.map_cons, dueL]
    rfl
theorem step_first (n : Int) : stepF n (Str.ofString "first:") ([], []) = .ok ([], lab1) := by kernel_rfl
theorem step_end (n : Int) (ds : List (Int × Row)) : stepF n (Str.ofString "end:") (ds, lab1) = .ok (ds, lab2 ds.length) := by kernel_rfl
theorem asm_sound {xs : List Str} {rs : List Row} (h : BodyL xs rs) (hl : rs.length ≤ 100000) : asmF (Str.ofString "first:" :: (xs ++ [Str.ofString "end:"])) = .ok (dueL rs.length 0 rs) := by
  obtain ⟨ds, h1, h2⟩ := body_lines h 1 [] lab1
  rw [List.nil_append] at h1
  have e : linesF (Str.ofString "first:" :: (xs ++ [Str.ofString "end:"])) 0 ([], []) = .ok (ds, lab2 ds.length) := by
    rw [linesF, step_first]
    dsimp only
    rw [linesF_app, show (0 : Int) + 1 = 1 from rfl, h1]
    dsimp only
    rw [linesF, step_end]
    rfl
  have hd : ds.length = rs.length := by rw [← h2, List.length_map]
  unfold asmF
  rw [e]
  dsimp only
  have := rows_due (N := ds.length) (by omega) (rest := []) ds [] (fun p hp => h.rows _ (by rw [← h2]; exact List.mem_map.mpr ⟨p, hp, rfl⟩)) (by simp)
  rw [List.append_nil] at this
  rw [this, h2, hd]
  rfl
/-- what a wrong line does: refused as it is read, or as its row is looked at -/
def WrongAt (x y : Str) : Prop :=
  (∀ n ds, stepF n x (ds, lab1) = .error y) ∨ ∃ r, (∀ n ds, stepF n x (ds, lab1) = .ok (ds ++ [(n, r)], lab1)) ∧ ∀ N i, aimF (lab2 N) i r = .error y ∨ ∃ r', aimF (lab2 N) i r = .ok r' ∧ faultF r' = y ∧ (y != Str.ofString "") = true
theorem wrong_all : ∀ p ∈ wrongL, WrongAt p.1 p.2 := by
  unfold wrongL
  simp only [List.forall_mem_cons]
  refine ⟨?_, ?_, ?_, ?_, ?_, ?_, ?_, ?_, ?_, ?_, ?_, ?_, ?_, ?_, ?_, ?_, ?_, ?_, ?_, ?_, ?_, ?_, List.forall_mem_nil _⟩
  · exact .inl (fun n ds => by kernel_rfl)
  · exact .inl (fun n ds => by kernel_rfl)
  · exact .inl (fun n ds => by kernel_rfl)
  · exact .inl (fun n ds => by kernel_rfl)
  · exact .inl (fun n ds => by kernel_rfl)
  · exact .inr ⟨.I (Str.ofString "MOVI") 1 0 65536, fun n ds => by kernel_rfl, fun N i => .inr ⟨_, rfl, by kernel_rfl, by decide +kernel⟩⟩
  · exact .inl (fun n ds => by kernel_rfl)
  · exact .inl (fun n ds => by kernel_rfl)
  · exact .inl (fun n ds => by kernel_rfl)
  · exact .inr ⟨.S (Str.ofString "B") (Str.ofString "EQ") (Str.ofString "nowhere"), fun n ds => by kernel_rfl, fun N i => .inl (by kernel_rfl)⟩
  · exact .inl (fun n ds => by kernel_rfl)
  · exact .inr ⟨.C (Str.ofString "BLR") (Str.ofString "AL") 12 0, fun n ds => by kernel_rfl, fun N i => .inr ⟨.C (Str.ofString "BLR") (Str.ofString "AL") 12 0, by kernel_rfl, by kernel_rfl, by decide +kernel⟩⟩
  · exact .inr ⟨.I (Str.ofString "LDR") 1 2 524288, fun n ds => by kernel_rfl, fun N i => .inr ⟨_, rfl, by kernel_rfl, by decide +kernel⟩⟩
  · exact .inl (fun n ds => by kernel_rfl)
  · exact .inl (fun n ds => by kernel_rfl)
  · exact .inr ⟨.C (Str.ofString "TRAP") (Str.ofString "AL") 16 0, fun n ds => by kernel_rfl, fun N i => .inr ⟨.C (Str.ofString "TRAP") (Str.ofString "AL") 16 0, by kernel_rfl, by kernel_rfl, by decide +kernel⟩⟩
  · exact .inr ⟨.C (Str.ofString "TRAP") (Str.ofString "AL") 1 65536, fun n ds => by kernel_rfl, fun N i => .inr ⟨.C (Str.ofString "TRAP") (Str.ofString "AL") 1 65536, by kernel_rfl, by kernel_rfl, by decide +kernel⟩⟩
  · exact .inl (fun n ds => by kernel_rfl)
  · exact .inr ⟨.I (Str.ofString "MOVH") 3 0 (-1), fun n ds => by kernel_rfl, fun N i => .inr ⟨_, rfl, by kernel_rfl, by decide +kernel⟩⟩
  · exact .inl (fun n ds => by kernel_rfl)
  · exact .inl (fun n ds => by kernel_rfl)
  · exact .inr ⟨.I (Str.ofString "SUBI") 1 2 (-65537), fun n ds => by kernel_rfl, fun N i => .inr ⟨_, rfl, by kernel_rfl, by decide +kernel⟩⟩
theorem asm_wrong {xs ys : List Str} {rs : List Row} {x y : Str} (h : BodyL (xs ++ ys) rs) (hl : rs.length ≤ 1000) (hw : (x, y) ∈ wrongL) : asmF (Str.ofString "first:" :: (xs ++ x :: (ys ++ [Str.ofString "end:"]))) = .error ((xs.length : Int) + 2, y) := by
  obtain ⟨r1, r2, rfl, b1, b2⟩ := h.split
  rw [List.length_append] at hl
  obtain ⟨ds, h1, h2⟩ := body_lines b1 1 [] lab1
  rw [List.nil_append] at h1
  have e1 : ∀ zs, linesF (Str.ofString "first:" :: (xs ++ zs)) 0 ([], []) = linesF zs (1 + xs.length) (ds, lab1) := by
    intro zs
    rw [linesF, step_first]
    dsimp only
    rw [linesF_app, show (0 : Int) + 1 = 1 from rfl, h1]
  rcases wrong_all _ hw with hA | ⟨r, hB, hC⟩
  · unfold asmF
    rw [e1, linesF, hA]
    dsimp only
    congr 2
    omega
  · obtain ⟨ds2, h3, h4⟩ := body_lines b2 (1 + xs.length + 1) (ds ++ [(1 + (xs.length : Int) + 1, r)]) lab1
    have e2 : linesF (Str.ofString "first:" :: (xs ++ x :: (ys ++ [Str.ofString "end:"]))) 0 ([], []) = .ok (ds ++ [(1 + (xs.length : Int) + 1, r)] ++ ds2, lab2 (ds ++ [(1 + (xs.length : Int) + 1, r)] ++ ds2).length) := by
      rw [e1, linesF, hB]
      dsimp only
      rw [linesF_app, h3]
      dsimp only
      rw [linesF, step_end]
      rfl
    have hd : ds.length = r1.length := by rw [← h2, List.length_map]
    have hd2 : ds2.length = r2.length := by rw [← h4, List.length_map]
    unfold asmF
    rw [e2]
    dsimp only
    have hlen : (ds ++ [(1 + (xs.length : Int) + 1, r)] ++ ds2).length = r1.length + 1 + r2.length := by simp only [List.length_append, List.length_cons, List.length_nil]; omega
    rw [hlen, List.append_assoc, rows_due (by omega) ds [] (fun p hp => b1.rows _ (by rw [← h2]; exact List.mem_map.mpr ⟨p, hp, rfl⟩)) (by simp only [List.length_nil]; omega)]
    rw [show (1 + (xs.length : Int) + 1) = xs.length + 2 by omega]
    rcases hC ((r1.length + 1 + r2.length : Nat) : Int) ((([] : List Row) ++ dueL ((r1.length + 1 + r2.length : Nat) : Int) (([] : List Row).length : Int) (ds.map (·.2))).length : Int) with hE | ⟨r', hO, hF, hy⟩
    · exact rows_err1 hE
    · exact rows_err2 hO hF hy
theorem asm_worse {xs : List Str} {rs : List Row} {x y : Str} {k : Nat} (h : BodyL xs rs) (hl : rs.length ≤ 1000) (hw : (x, y) ∈ wrongL) (h1 : 1 ≤ k) (h2 : k ≤ xs.length + 1) : asmF ((Str.ofString "first:" :: (xs ++ [Str.ofString "end:"])).take k ++ x :: (Str.ofString "first:" :: (xs ++ [Str.ofString "end:"])).drop k) = .error ((k : Int) + 1, y) := by
  obtain ⟨j, rfl⟩ : ∃ j, k = j + 1 := ⟨k - 1, by omega⟩
  rw [List.take_succ_cons, List.drop_succ_cons, List.take_append_of_le_length (by omega), List.drop_append_of_le_length (by omega)]
  have := asm_wrong (xs := xs.take j) (ys := xs.drop j) (rs := rs) (by rw [List.take_append_drop]; exact h) hl hw
  rw [List.length_take, Nat.min_eq_left (by omega)] at this
  rw [List.cons_append, this]
  congr 2
theorem asm_two : asmF [Str.ofString "MOVI R1, 5", Str.ofString "", Str.ofString "; two", Str.ofString "MOVI R99, 5", Str.ofString ""] = .error (4, Str.ofString "expected a register") := by kernel_rfl
theorem asm_none : asmF [Str.ofString ""] = .ok [] := by kernel_rfl
end

section
variable {prog : Program} {w : World} {A : Around} {E : Value → Shared → Prop} {s : Shared} {h₀ : Heap} {L l : Addr} {m : Str → Option Value} {news : List (Addr × Obj)}
theorem slice_go {value slice : PySem.Expr} {its : Array Value} {vl vu : Value} {lo hi : Option Int} {Q : Value → Shared → Prop} (F : Fr h₀ L s.heap m) (N : News h₀ L s.heap news) (hl : s.heap.IsList l its) (pl : IsPart vl lo) (pu : IsPart vu hi) (hz : its.size ≤ sizeLine)
    (h : ∀ D h', Fr h₀ L h' m → News h₀ L h' ((D, listOf (slicePick its lo hi none) 0) :: news) → (∀ p ∈ news, p.1 < D) → Q (.ref D) { s with heap := h' })
    (hs : subscripted slice false (.ref l) (.ref s.heap.objs.size) = operate [.ref s.heap.objs.size, .ref l] (getItem (.ref l) (.ref s.heap.objs.size))) :
    wpAny (model prog w) A (subscriptTail value slice (.ref l) (.ref s.heap.objs.size)) Q E { s with heap := s.heap.push { cls := .type "slice", data := .fields #[vl, vu, .none] } } := by
  refine tail_any (Heap.IsList.typeIs (s := { s with heap := s.heap.push { cls := .type "slice", data := .fields #[vl, vu, .none] } }) (hl.push _)) list_getitem_lookup (wpAny_getItem_list_slice (hl.push _) (Heap.IsSliceOf.new ..) pl pu .none (by simp) ?_ hz) hs
  have N1 := News.push (F.push { cls := .type "slice", data := .fields #[vl, vu, .none] }) (N.grown fun _ _ e => Heap.get?_push_of_some _ e) { cls := .type "list", data := .seq (slicePick its lo hi none) }
  exact h _ _ ((F.push _).push _) N1 (fun p hp => by
    show @LT.lt Nat _ p.1 (s.heap.push _).objs.size
    rw [Heap.size_push]
    exact Nat.lt_succ_of_lt (Heap.lt_size (N p hp).1))
theorem slice40 {k : Nat} {value slice : PySem.Expr} {vs : List Value} {ns : List Int} {vl vu : Value} {Q : Value → Shared → Prop} (F : Fr h₀ L s.heap m) (N : News h₀ L s.heap news) (hm : (l, listOf vs.toArray k) ∈ news) (hi : IntsAre vs ns) (pl : IsPart vl none) (pu : IsPart vu (some 40)) (h1 : 1 ≤ ns.length) (hz : ns.length ≤ 1000)
    (h : ∀ D ws h', Fr h₀ L h' m → News h₀ L h' ((D, listOf (List.toArray ws) 0) :: news) → (∀ p ∈ news, p.1 < D) → IntsAre ws (ns.take 40) → 1 ≤ (ns.take 40).length → (ns.take 40).length ≤ 40 → Q (.ref D) { s with heap := h' })
    (hs : subscripted slice false (.ref l) (.ref s.heap.objs.size) = operate [.ref s.heap.objs.size, .ref l] (getItem (.ref l) (.ref s.heap.objs.size))) :
    wpAny (model prog w) A (subscriptTail value slice (.ref l) (.ref s.heap.objs.size)) Q E { s with heap := s.heap.push { cls := .type "slice", data := .fields #[vl, vu, .none] } } := by
  refine slice_go F N (News.isList N hm) pl pu (by rw [List.size_toArray, hi.length, sizeLine_eq]; omega) (fun D h' F' N' l1 => ?_) hs
  refine h D (slicePick vs.toArray none (some 40) none).toList h' F' (by rw [Array.toArray_toList]; exact N') l1 (kmk_upto hi (by decide)) ?_ ?_
  · rw [List.length_take]; omega
  · rw [List.length_take]; omega
end
section
variable {h₀ h : Heap} {L : Addr} {a b c d e f g : Addr × Obj} {r : List (Addr × Obj)}
theorem news_2 (N : News h₀ L h (a :: b :: r)) : News h₀ L h (b :: a :: r) := cb_drop N (by
  intro p hp
  simp only [List.mem_cons] at hp ⊢
  rcases hp with hp | hp | hp
  · exact .inr (.inl hp)
  · exact .inl hp
  · exact .inr (.inr hp))
theorem news_3 (N : News h₀ L h (a :: b :: c :: r)) : News h₀ L h (c :: a :: b :: r) := cb_drop N (by
  intro p hp
  simp only [List.mem_cons] at hp ⊢
  rcases hp with hp | hp | hp | hp
  · exact .inr (.inr (.inl hp))
  · exact .inl hp
  · exact .inr (.inl hp)
  · exact .inr (.inr (.inr hp)))
theorem news_4 (N : News h₀ L h (a :: b :: c :: d :: r)) : News h₀ L h (d :: a :: b :: c :: r) := news_laF N
theorem news_5 (N : News h₀ L h (a :: b :: c :: d :: e :: r)) : News h₀ L h (e :: a :: b :: c :: d :: r) := cb_drop N (by
  intro p hp
  simp only [List.mem_cons] at hp ⊢
  rcases hp with hp | hp | hp | hp | hp | hp
  · exact .inr (.inr (.inr (.inr (.inl hp))))
  · exact .inl hp
  · exact .inr (.inl hp)
  · exact .inr (.inr (.inl hp))
  · exact .inr (.inr (.inr (.inl hp)))
  · exact .inr (.inr (.inr (.inr (.inr hp)))))
end

local macro_rules | `(tactic| walk_at "subscriptTail") => `(tactic| (k_here; (with_reducible show wpAny _ _ (subscriptTail (PySem.Expr.BinOp _ _ _ _) _ _ _) _ _ _); k_dflt (refine' slice40 ?F ?N ?l ?i ?p ?q ?a ?z ?_ ?s; (case F => k_asm); (case N => k_asm); (case l => k_mem); (case i => with_reducible assumption); (case p => exact IsPart.none); (case q => exact IsPart.int _ _); (case a => (simp only [List.length_append, List.length_cons, List.length_nil]; omega)); (case z => (simp only [List.length_append, List.length_cons, List.length_nil]; omega)); (case s => with_unfolding_all rfl)); intro D' ws' h' F' N' l1 hI' hC' hL'; (try k_lt l1); (try k_sweep)))
local macro_rules | `(tactic| walk_at "m8l") => `(tactic| ((case B => k_asm); (case F => k_asm); (case X => k_asm); (case N => (first | k_asm | exact news_2 (by k_asm) | exact news_3 (by k_asm) | exact news_4 (by k_asm) | exact news_5 (by k_asm))); (case T => k_asm); (case k => ktn_open); (case d => (first | decide | (show 900 - _ + _ ≤ 900; decide) | tb_start)); (case u => (first | decide | (show 900 - _ + _ ≤ 900; decide) | tb_start)); (case s1 => k_mem); (case s2 => with_reducible assumption); (case s3 => omega); (case s4 => omega); (case s5 => (((repeat (refine List.forall_mem_cons.mpr ⟨(by show @Ne Nat _ _; omega), ?_⟩)); first | exact List.forall_mem_nil _ | with_reducible assumption))); (case s6 => omega); (case s7 => omega)))
local macro_rules | `(tactic| walk_at "call ref") => `(tactic| (k_here; (with_reducible show wpAny _ _ (call (Value.ref 291) _) _ _ _); k_dflt (refine' Con.usePull ?B ?F ?X ?N ?T ?k ?d ?u (pull_con _ _ _ _ _ _ _ _ _ _ _ _ _ _ _ ?s1 ?s2 ?s3 ?s4 ?s5 _ _ ?s6 ?s7 ?s8 ?s9) ?_; walk_at "m8l"; (case s8 => omega); (case s9 => omega)); walk_at "mw"))
local macro_rules | `(tactic| walk_at "mS") => `(tactic| (intro ad' rp' ln' rw' vs' m' n3' u' a' c' u1' u2' n' h' tk' hs' hv' hc1' hc2' hA' hB' F' N'; (try dsimp only); (try simp only [AllLt, and_true] at hA' hB')))
local macro_rules | `(tactic| walk_at "call ref") => `(tactic| (k_here; (with_reducible show wpAny _ _ (call (Value.ref 298) _) _ _ _); k_dflt (refine' Con.useSound ?B ?F ?X ?N ?T ?k ?d ?u (sound_con _ _ _ _ _ _ _ _ _ _ _ _ _ _ _ ?s1 ?s2 ?s3 ?s4 ?s5 _ _ ?s6 ?s7) ?_; walk_at "m8l"); walk_at "mS"))

structure L1 where
  a : Int
  c : Int
  t1 : Tok
  t2 : Tok
  wn : Nat
  xs : List Str
  lvs : List Value
  ln : Nat
  rs : List Row
  rvs : List Value
  rn : Nat
abbrev L1L (wl cl ll rl : Addr) (c : L1) : List (Addr × Obj) := [(wl, wellO c.a cl c.c c.t1 c.t2 c.wn), (ll, listOf c.lvs.toArray c.ln), (rl, listOf c.rvs.toArray c.rn)]
def L1F (nx : List (Addr × Obj)) (c : L1) : Prop := StrsAre c.lvs c.xs ∧ DatAll nx c.rvs (c.rs.map rowD)
def L1P (pre : List Int) (c : L1) : Prop := ∃ ys, c.xs = Str.ofString "first:" :: ys ∧ BodyL ys c.rs ∧ ys.length ≤ 2 * pre.length ∧ c.rs.length = pre.length ∧ 0 ≤ c.c ∧ c.c ≤ 1 + 10 * pre.length
abbrev lineRow : List Str := [Str.ofString "line", Str.ofString "row"]
abbrev L1S (wl cl ll rl : Addr) (cvs : List Value) (n2 : Nat) (m₀ : Str → Option Value) (pre : List Int) : (Str → Option Value) → List (Addr × Obj) → Prop :=
  KdS (L1L wl cl ll rl) [(cl, listOf cvs.toArray n2)] (fun _ => []) L1F (Str.ofString "number") lineRow m₀ L1P [wl, ll, rl, cl] pre
section
variable {prog : Program} {w : World} {A : Around} {E : Value → Shared → Prop} {s : Shared} {env : Env} {h₀ : Heap} {body : List Stmt} {Q : Flow → Shared → Prop} {wl cl ll rl : Addr} {cvs : List Value} {n2 : Nat} {m₀ : Str → Option Value}
theorem law_loop1 {r : Addr} {a c d : Int} {t1 t2 t0 tr ur vr : Tok} {wn k1 k2 : Nat} {rest : List (Addr × Obj)} (hh : A.handled = none) (hR : IsRange s.heap r 0 (1 + d) 1 tr ur vr) (hd0 : 0 ≤ d) (hd8 : d < 8) (hc0 : 0 ≤ c) (hc1 : c ≤ 0 + 1)
    (F : Fr h₀ env.locals s.heap m₀) (N : News h₀ env.locals s.heap ((wl, wellO a cl c t1 t2 wn) :: (rl, listOf (List.toArray []) k1) :: (ll, listOf (List.toArray [.str (Str.ofString "first:") t0]) k2) :: (cl, listOf cvs.toArray n2) :: rest))
    (turn : ∀ (c : L1) (tl : List (Addr × Obj)) (pre : List Int) (k : Int) (t : Tok) (u : Str → Option Value) (h : Heap) (tk : Nat) (own R : List (Addr × Obj)), R = tl ++ own → pre.length < 8 → KdSep own tl [wl, ll, rl, cl] → (∀ p ∈ R, p.1 ≠ wl) → (∀ p ∈ R, p.1 ≠ ll) → (∀ p ∈ R, p.1 ≠ rl) → (∀ p ∈ R, p.1 ≠ cl) → L1F ((cl, listOf cvs.toArray n2) :: tl) c → L1P pre c →
      Fr h₀ env.locals h (fun y => if y = Str.ofString "number" then some (.int k t) else kstB (fun z => if lineRow.contains z then u z else m₀ z) [] y) →
      News h₀ env.locals h ((wl, wellO c.a cl c.c c.t1 c.t2 c.wn) :: (ll, listOf c.lvs.toArray c.ln) :: (rl, listOf c.rvs.toArray c.rn) :: (cl, listOf cvs.toArray n2) :: R) →
      wpAny (model prog w) A (execs body env) (InvPostG h₀ env.locals (L1S wl cl ll rl cvs n2 m₀ (pre ++ [k])) own { s with heap := h, toks := tk } Q) E { s with heap := h, toks := tk })
    (done : ∀ (c : L1) (tl : List (Addr × Obj)) (u : Str → Option Value) (h : Heap) (tk : Nat) (ys : List Str), (∀ p ∈ tl, p.1 ≠ wl) → (∀ p ∈ tl, p.1 ≠ ll) → (∀ p ∈ tl, p.1 ≠ rl) → (∀ p ∈ tl, p.1 ≠ cl) → StrsAre c.lvs (Str.ofString "first:" :: ys) → DatAll ((cl, listOf cvs.toArray n2) :: tl) c.rvs (c.rs.map rowD) →
      BodyL ys c.rs → ys.length ≤ 16 → c.rs.length ≤ 8 → 0 ≤ c.c → c.c ≤ 100 →
      Fr h₀ env.locals h (fun y => if y = Str.ofString "number" then u y else kstB (fun z => if lineRow.contains z then u z else m₀ z) [] y) →
      News h₀ env.locals h ((wl, wellO c.a cl c.c c.t1 c.t2 c.wn) :: (ll, listOf c.lvs.toArray c.ln) :: (rl, listOf c.rvs.toArray c.rn) :: (cl, listOf cvs.toArray n2) :: tl) → Q .next { s with heap := h, toks := tk }) :
    wpAny (model prog w) A (pyIter (.ref r)) (fun it s₂ => LoopAtV prog w A h₀ env (Str.ofString "number") body Q E it s₂) E s := by
  refine kd_range (σ := L1) (n := (1 + d).toNat) (L1L wl cl ll rl) [(cl, listOf cvs.toArray n2)] (fun _ => []) L1F lineRow L1P [wl, ll, rl, cl] ⟨a, c, t1, t2, wn, [Str.ofString "first:"], [.str (Str.ofString "first:") t0], k2, [], [], k1⟩ hh hR (small_one (a := 0) (b := 1 + d) (by omega) (by omega) (by omega) (by omega)) ?size F N ?hn (fun _ => rfl) ⟨.cons _ _ .nil, .nil⟩ (List.forall_mem_nil _) ⟨[], rfl, .nil, Nat.le_refl _, rfl, hc0, by simp only [List.length_nil]; omega⟩ ?turn ?done
  case size => rw [rangeSize_nat]; congr 2; omega
  case hn =>
    intro p hp
    simp only [List.cons_append, List.nil_append, List.append_nil, List.mem_cons, List.not_mem_nil, or_false] at hp ⊢
    rcases hp with hp | hp | hp | hp
    · exact .inl hp
    · exact .inr (.inr (.inl hp))
    · exact .inr (.inl hp)
    · exact .inr (.inr (.inr (.inl hp)))
  case turn =>
    rintro c tl pre k t u h tk own - hpre hsep hoff hF hP F1 N1
    exact turn c tl pre k t u h tk own _ rfl (by omega) hsep (fun p hp => hoff p hp wl List.mem_cons_self) (fun p hp => hoff p hp ll (List.mem_cons_of_mem _ List.mem_cons_self)) (fun p hp => hoff p hp rl (List.mem_cons_of_mem _ (List.mem_cons_of_mem _ List.mem_cons_self))) (fun p hp => hoff p hp cl (List.mem_cons_of_mem _ (List.mem_cons_of_mem _ (List.mem_cons_of_mem _ List.mem_cons_self)))) hF hP F1 N1
  case done =>
    rintro c tl u h tk hoff ⟨hf1, hf2⟩ ⟨ys, e, hb, hl, hrl, h0, h1⟩ F1 N1
    rw [rangeKs_length] at hl hrl h1
    rw [e] at hf1
    exact done c tl u h tk ys (fun p hp => hoff p hp wl List.mem_cons_self) (fun p hp => hoff p hp ll (List.mem_cons_of_mem _ List.mem_cons_self)) (fun p hp => hoff p hp rl (List.mem_cons_of_mem _ (List.mem_cons_of_mem _ List.mem_cons_self))) (fun p hp => hoff p hp cl (List.mem_cons_of_mem _ (List.mem_cons_of_mem _ (List.mem_cons_of_mem _ List.mem_cons_self)))) hf1 hf2 hb (by omega) (by omega) h0 (by omega) F1 N1
theorem law_end1 {L : Addr} (c : L1) {tl own R news' : List (Addr × Obj)} {pre : List Int} {k : Int} {s₁ : Shared} {h' : Heap} {tk : Nat} {m' : Str → Option Value} {a' c' : Int} {t1' t2' tl1 : Tok} {wn' n3 ln' rn' : Nat} {line : Str} {row : Row} {vs fvs : List Value} {rp : Addr} {fs : List Str}
    (hsep : KdSep own tl [wl, ll, rl, cl]) (hR : R = tl ++ own) (hP : L1P pre c) (hF : L1F ((cl, listOf cvs.toArray n2) :: tl) c) (hs : Sound line row) (hv : RowV vs row) (hfs : StrsAre fvs fs) (hfl : ∀ f ∈ fs, f ∈ fillL) (hfl2 : fs.length ≤ 1) (hc : 0 ≤ c') (hc' : c' ≤ c.c + 10)
    (F : Fr h₀ L h' m') (N : News h₀ L h' news') (m1 : (wl, wellO a' cl c' t1' t2' wn') ∈ news') (m2 : (ll, listOf (c.lvs ++ .str line tl1 :: fvs).toArray ln') ∈ news') (m3 : (rl, listOf (c.rvs ++ [Value.ref rp]).toArray rn') ∈ news') (m4 : (cl, listOf cvs.toArray n2) ∈ news') (m5 : (rp, tupO vs n3) ∈ news') (mR : ∀ p ∈ R, p ∈ news')
    (o1 : @LT.lt Nat _ wl rp) (o2 : @LT.lt Nat _ ll rp) (o3 : @LT.lt Nat _ rl rp) (o4 : @LT.lt Nat _ cl rp) (oR : AllLt rp R) (hr : ∀ z, z ≠ Str.ofString "number" → z ≠ Str.ofString "line" → z ≠ Str.ofString "row" → m' z = m₀ z) :
    InvEndG h₀ L (L1S wl cl ll rl cvs n2 m₀ (pre ++ [k])) own s₁ { s₁ with heap := h', toks := tk } := by
  obtain ⟨ys, e, hb, hl, hrl, h0, h1⟩ := hP
  obtain ⟨hf1, hf2⟩ := hF
  have hR1 := allLt_mem oR
  refine kd_end (tl := tl) (⟨a', c', t1', t2', wn', c.xs ++ line :: fs, c.lvs ++ .str line tl1 :: fvs, ln', c.rs ++ [row], c.rvs ++ [Value.ref rp], rn'⟩ : L1) [(rp, tupO vs n3)] hsep F N ?hn (fun p hp => mR p (by rw [hR]; exact List.mem_append.mpr (.inr hp))) rfl ?hb ?hw (List.forall_mem_nil _) (fun z h1 _ h3 => ?hr) ⟨?f1, ?f2⟩ ⟨ys ++ line :: fs, ?p1, ?p2, ?p3, ?p4, hc, ?p5⟩
  case hn =>
    intro p hp
    simp only [List.cons_append, List.nil_append, List.mem_cons] at hp
    rcases hp with hp | hp | hp | hp | hp | hp
    · rw [hp]; exact m1
    · rw [hp]; exact m2
    · rw [hp]; exact m3
    · rw [hp]; exact m4
    · rw [hp]; exact m5
    · exact mR p (by rw [hR]; exact List.mem_append.mpr (.inl hp))
  case hb =>
    intro q hq b hb
    rw [List.mem_singleton.mp hq]
    simp only [List.mem_cons, List.not_mem_nil, or_false] at hb
    rcases hb with hb | hb | hb | hb <;> rw [hb]
    · exact Nat.ne_of_lt o1
    · exact Nat.ne_of_lt o2
    · exact Nat.ne_of_lt o3
    · exact Nat.ne_of_lt o4
  case hw =>
    intro q hq p hp
    rw [List.mem_singleton.mp hq]
    exact Nat.ne_of_lt (hR1 p (by rw [hR]; exact List.mem_append.mpr (.inr hp)))
  case hr =>
    simp only [lineRow, List.contains_cons, List.contains_nil, Bool.or_false, Bool.or_eq_false_iff, beq_eq_false_iff_ne, ne_eq] at h3
    exact hr z h1 h3.1 h3.2
  case f1 => exact StrsAre.append' hf1 (.cons _ _ hfs)
  case f2 =>
    rw [List.map_append]
    exact DatAll.append (hf2.mono (fun p hp => by
      rcases List.mem_cons.mp hp with hp | hp
      · rw [hp]; exact List.mem_cons_self
      · exact List.mem_cons_of_mem _ (List.mem_cons_of_mem _ hp))) (DatAll.one (.tuple (kd_new List.mem_cons_self) (rowV_dat hv _)))
  case p1 => dsimp only; rw [e, List.cons_append]
  case p2 =>
    refine hb.append (.snd hs ?_)
    have : ∀ fs : List Str, (∀ f ∈ fs, f ∈ fillL) → BodyL fs [] := by
      intro fs
      induction fs with
      | nil => exact fun _ => .nil
      | cons f fs ih => exact fun h => .fill (h f List.mem_cons_self) (ih fun f hf => h f (List.mem_cons_of_mem _ hf))
    exact this fs hfl
  case p3 => simp only [List.length_append, List.length_cons, List.length_nil]; omega
  case p4 => simp only [List.length_append, List.length_cons, List.length_nil]; omega
  case p5 => simp only [List.length_append, List.length_cons, List.length_nil]; omega
end
theorem gen_q {M : Model} {A : Around} {t : Sem Flow} {Q : Flow → Shared → Prop} {E : Value → Shared → Prop} {s : Shared} {h₀ h : Heap} {L : Addr} {m : Str → Option Value} (_F : Fr h₀ L h m) (hq : ∀ (h' : Heap) (tk' : Nat) (m' : Str → Option Value), Fr h₀ L h' m' → Q (.ret (.bool true)) { s with heap := h', toks := tk' })
    (k : ∀ (Q' : Flow → Shared → Prop), (∀ (h' : Heap) (tk' : Nat) (m' : Str → Option Value), Fr h₀ L h' m' → Q' (.ret (.bool true)) { s with heap := h', toks := tk' }) → wpAny M A t Q' E s) : wpAny M A t Q E s := k Q hq
theorem fill_dat (t1 t2 t3 : Tok) : DatAll [] [.str (Str.ofString "") t1, .str (Str.ofString "   ; nothing") t2, .str (Str.ofString "\t") t3] (fillL.map Dat.str) := .cons (.str _ _) (.cons (.str _ _) (.cons (.str _ _) .nil))

/-- lines that a text is joined of -/
def LineOk (x : Str) : Prop := x.length ≤ 100 ∧ 10 ∉ x.cps.toList
theorem LineOk.app {x y : Str} {a b : Nat} (h1 : x.length ≤ a) (h2 : y.length ≤ b) : (x ++ y).length ≤ a + b := by rw [Str.length_append]; omega
theorem nl_app {x y : Str} (h1 : 10 ∉ x.cps.toList) (h2 : 10 ∉ y.cps.toList) : 10 ∉ (x ++ y).cps.toList := by
  rw [Str.cps_append, Array.toList_append]
  exact fun h => (List.mem_append.mp h).elim h1 h2
theorem num_line {n : Int} (h1 : -1000000 < n) (h2 : n < 1000000) : (numT n).length ≤ 8 ∧ 10 ∉ (numT n).cps.toList := ⟨text_len h1 h2, int_text_free' 10 ⟨by decide, by decide⟩ n⟩
theorem lit_line {x : Str} {a : Nat} (h1 : x.length ≤ a) (h2 : x.cps.toList.all (fun c => c != 10) = true) : x.length ≤ a ∧ 10 ∉ x.cps.toList := ⟨h1, fun h => by have := List.all_eq_true.mp h2 10 h; exact absurd this (by decide)⟩
theorem line_app {x y : Str} {a b : Nat} (h1 : x.length ≤ a ∧ 10 ∉ x.cps.toList) (h2 : y.length ≤ b ∧ 10 ∉ y.cps.toList) : (x ++ y).length ≤ a + b ∧ 10 ∉ (x ++ y).cps.toList := ⟨LineOk.app h1.1 h2.1, nl_app h1.2 h2.2⟩
theorem line_ok {x : Str} {a : Nat} (h : x.length ≤ a ∧ 10 ∉ x.cps.toList) (ha : a ≤ 100) : LineOk x := ⟨Nat.le_trans h.1 ha, h.2⟩
theorem sound_line {x : Str} {r : Row} (h : Sound x r) : LineOk x := by
  cases h with
  | addi h1 h2 h3 h4 h5 h6 => exact line_ok (line_app (line_app (line_app (line_app (line_app (lit_line (a := 10) (by decide +kernel) (by decide +kernel)) (num_line (by omega) (by omega))) (lit_line (a := 10) (by decide +kernel) (by decide +kernel))) (num_line (by omega) (by omega))) (lit_line (a := 10) (by decide +kernel) (by decide +kernel))) (num_line (by omega) (by omega))) (by decide)
  | mov h1 h2 h3 h4 => exact line_ok (line_app (line_app (line_app (line_app (lit_line (a := 10) (by decide +kernel) (by decide +kernel)) (num_line (by omega) (by omega))) (lit_line (a := 10) (by decide +kernel) (by decide +kernel))) (num_line (by omega) (by omega))) (lit_line (a := 10) (by decide +kernel) (by decide +kernel))) (by decide)
  | stb h1 h2 h3 h4 => exact line_ok (line_app (line_app (line_app (line_app (lit_line (a := 10) (by decide +kernel) (by decide +kernel)) (num_line (by omega) (by omega))) (lit_line (a := 10) (by decide +kernel) (by decide +kernel))) (num_line (by omega) (by omega))) (lit_line (a := 10) (by decide +kernel) (by decide +kernel))) (by decide)
  | geth h1 h2 => exact line_ok (line_app (lit_line (a := 10) (by decide +kernel) (by decide +kernel)) (num_line (by omega) (by omega))) (by decide)
  | trap h1 h2 h3 h4 => exact line_ok (line_app (line_app (line_app (lit_line (a := 10) (by decide +kernel) (by decide +kernel)) (num_line (by omega) (by omega))) (lit_line (a := 10) (by decide +kernel) (by decide +kernel))) (num_line (by omega) (by omega))) (by decide)
  | bl => exact line_ok (lit_line (a := 20) (by decide +kernel) (by decide +kernel)) (by decide)
  | b => exact line_ok (lit_line (a := 20) (by decide +kernel) (by decide +kernel)) (by decide)
theorem fill_line : ∀ x ∈ fillL, LineOk x := by
  unfold fillL
  exact List.forall_mem_cons.mpr ⟨line_ok (lit_line (a := 20) (by decide +kernel) (by decide +kernel)) (by decide), List.forall_mem_cons.mpr ⟨line_ok (lit_line (a := 20) (by decide +kernel) (by decide +kernel)) (by decide), List.forall_mem_cons.mpr ⟨line_ok (lit_line (a := 20) (by decide +kernel) (by decide +kernel)) (by decide), List.forall_mem_nil _⟩⟩⟩
theorem body_line {xs : List Str} {rs : List Row} (h : BodyL xs rs) : ∀ x ∈ xs, LineOk x := by
  induction h with
  | nil => exact List.forall_mem_nil _
  | snd h _ ih => exact List.forall_mem_cons.mpr ⟨sound_line h, ih⟩
  | fill h _ ih => exact List.forall_mem_cons.mpr ⟨fill_line _ h, ih⟩
theorem wrong_line : ∀ p ∈ wrongL, LineOk p.1 ∧ p.2.length ≤ 100 ∧ PyData.strOk p.2 = true := by
  have : wrongL.all (fun p => decide (p.1.length ≤ 100) && (p.1.cps.toList.all (fun c => c != 10) && (decide (p.2.length ≤ 100) && PyData.strOk p.2))) = true := by decide +kernel
  intro p hp
  have h := List.all_eq_true.mp this p hp
  simp only [Bool.and_eq_true, decide_eq_true_eq] at h
  exact ⟨lit_line h.1 h.2.1, h.2.2.1, h.2.2.2⟩
theorem lines_all {ys : List Str} {rs : List Row} (h : BodyL ys rs) : ∀ x ∈ Str.ofString "first:" :: (ys ++ [Str.ofString "end:"]), LineOk x :=
  List.forall_mem_cons.mpr ⟨line_ok (lit_line (a := 20) (by decide +kernel) (by decide +kernel)) (by decide), List.forall_mem_append.mpr ⟨body_line h, List.forall_mem_cons.mpr ⟨line_ok (lit_line (a := 20) (by decide +kernel) (by decide +kernel)) (by decide), List.forall_mem_nil _⟩⟩⟩
theorem sum_le {B : Nat} : ∀ (xs : List Str), (∀ x ∈ xs, x.length ≤ B) → (xs.map (·.length)).sum ≤ xs.length * B := fun xs h => StrLaws.sumLen_le xs h
theorem text_fits {xs : List Str} (h : ∀ x ∈ xs, LineOk x) (hl : xs.length ≤ 100) : (Str.join (Str.ofString "\n") xs).length ≤ 1000000 := by
  have h1 := StrLaws.join_length_le (Str.ofString "\n") xs
  have h2 := sum_le xs (fun x hx => (h x hx).1)
  have h3 : (Str.ofString "\n").length = 1 := by decide +kernel
  have h4 : xs.length * 100 ≤ 100 * 100 := Nat.mul_le_mul_right _ hl
  rw [h3] at h1
  omega
section
variable {prog : Program} {w : World} {A : Around} {E : Value → Shared → Prop} {s : Shared} {h₀ : Heap} {L ll : Addr} {m : Str → Option Value} {news : List (Addr × Obj)}
theorem law_join {vs : List Value} {n : Nat} {xs : List Str} {t : Tok} {Q : Value → Shared → Prop} (N : News h₀ L s.heap news) (hm : (ll, listOf vs.toArray n) ∈ news) (hs : StrsAre vs xs) (h1 : ∀ x ∈ xs, LineOk x) (h2 : xs.length ≤ 100)
    (h : ∀ t' k, Q (.str (Str.join (Str.ofString "\n") xs) t') { s with toks := k }) : wpAny (model prog w) A (call (.builtin "str.join") [.str (Str.ofString "\n") t, .ref ll]) Q E s := by
  have h3 := sum_le xs (fun x hx => (h1 x hx).1)
  have h4 : xs.length * 100 ≤ 100 * 100 := Nat.mul_le_mul_right _ h2
  have h5 : (Str.ofString "\n").length = 1 := by decide +kernel
  refine join_list (News.isList N hm) hs (by rw [h5]; omega) (fun t' k => ?_)
  have e : Txt.join (Str.ofString "\n") xs = Str.join (Str.ofString "\n") xs := StrLaws.glued_eq_join _ _
  rw [e]
  exact h t' k
def rowOkD (r : Row) : Bool := match r with
  | .I x _ _ _ => PyData.strOk x
  | .S x y z => PyData.strOk x && PyData.strOk y && PyData.strOk z
  | .C x y _ _ => PyData.strOk x && PyData.strOk y
theorem rowD_ok {r : Row} (h : rowOkD r = true) : kqdOk 8 (rowD r) = true := by
  cases r with
  | I x a b c => simpa [rowOkD, rowD, Row.dats, kqdOk] using h
  | S x y z => simpa [rowOkD, rowD, Row.dats, kqdOk, and_assoc] using h
  | C x y c l => simpa [rowOkD, rowD, Row.dats, kqdOk] using h
theorem sound_due {x : Str} {r : Row} (h : Sound x r) (N i : Int) : rowOkD (dueR N i r) = true := by
  cases h with
  | addi h1 h2 h3 h4 h5 h6 => show PyData.strOk _ = true; decide +kernel
  | mov h1 h2 h3 h4 => show PyData.strOk _ = true; decide +kernel
  | stb h1 h2 h3 h4 => show PyData.strOk _ = true; decide +kernel
  | geth h1 h2 => show PyData.strOk _ = true; decide +kernel
  | trap h1 h2 h3 h4 => show (PyData.strOk _ && PyData.strOk _) = true; decide +kernel
  | bl =>
    have e : dueR N i (.S (Str.ofString "BL") (Str.ofString "LT") (Str.ofString "end")) = .C (Str.ofString "BL") (Str.ofString "LT") (N - 1 - i) 0 := by
      unfold dueR
      dsimp only
      exact ifn (by decide +kernel) (ifp (by decide +kernel) rfl)
    rw [e]; show (PyData.strOk _ && PyData.strOk _) = true; decide +kernel
  | b =>
    have e : dueR N i (.S (Str.ofString "B") (Str.ofString "AL") (Str.ofString "first")) = .C (Str.ofString "B") (Str.ofString "AL") (-1 - i) 0 := by
      unfold dueR
      dsimp only
      exact ifp (by decide +kernel) rfl
    rw [e]; show (PyData.strOk _ && PyData.strOk _) = true; decide +kernel
theorem due_all {N : Int} : ∀ {rs : List Row} {k : Int}, (∀ r ∈ rs, ∃ x, Sound x r) → ∀ d ∈ (dueL N k rs).map rowD, kqdOk 8 d = true := by
  intro rs
  induction rs with
  | nil => intro k _ d hd; exact absurd hd List.not_mem_nil
  | cons r rs ih =>
    intro k h
    obtain ⟨x, hx⟩ := h r List.mem_cons_self
    rw [dueL, List.map_cons]
    exact List.forall_mem_cons.mpr ⟨rowD_ok (sound_due hx N k), ih (fun r hr => h r (List.mem_cons_of_mem _ hr))⟩
theorem law_ne1 {a b : Addr} {vs ws : List Value} {n k : Nat} {ds : List Dat} {n₁ n₂ : List (Addr × Obj)} {Q : Value → Shared → Prop} (N : News h₀ L s.heap news) (ma : (a, listOf vs.toArray n) ∈ news) (Da : DatAll n₁ vs ds) (sa : ∀ p ∈ n₁, p ∈ news) (mb : (b, listOf ws.toArray k) ∈ news) (Db : DatAll n₂ ws ds) (sb : ∀ p ∈ n₂, p ∈ news)
    (ha : ∀ d ∈ ds, kqdOk 8 d = true) (hu : A.units + 64 < cLine) (h : Q (.bool false) s) : wpAny (model prog w) A (compareOp .NotEq (.ref a) (.ref b)) Q E s :=
  kqd_ne N ma rfl rfl Da sa mb rfl rfl Db sb ha ha hu (by simp only [eq_self, decide_true, Bool.not_true]; exact h)
theorem pair_reads {a : Addr} {i : Int} {y : Str} {t1 t2 : Tok} {n : Nat} (N : News h₀ L s.heap news) (ma : (a, tupO [.int i t1, .str y t2] n) ∈ news) (hy : PyData.strOk y = true) : ∃ as, Reads s.heap (.ref a) (kqdP (.tuple [.int i, .str y])) as :=
  kqd_in N 8 (DatIn.tuple ma (.cons (.int _ _) (.cons (.str _ _) .nil))) (by simp [kqdOk, hy])
theorem law_pairs {a b : Addr} {i : Int} {y : Str} {t1 t2 t3 t4 : Tok} {n k : Nat} (N : News h₀ L s.heap news) (ma : (a, tupO [.int i t1, .str y t2] n) ∈ news) (mb : (b, tupO [.int i t3, .str y t4] k) ∈ news) (hy : PyData.strOk y = true) (hu : A.units + 64 < cLine) :
    (∀ {Q : Value → Shared → Prop}, Q (.bool false) s → wpAny (model prog w) A (compareOp .NotEq (.ref a) (.ref b)) Q E s) ∧ (∀ {Q : Value → Shared → Prop}, Q (.bool true) s → wpAny (model prog w) A (compareOp .Eq (.ref a) (.ref b)) Q E s) := by
  obtain ⟨as, ra⟩ := pair_reads N ma hy
  obtain ⟨bs, rb⟩ := pair_reads N mb hy
  have hk : kqdOk 8 (.tuple [.int i, .str y]) = true := by simp [kqdOk, hy]
  have la := kqd_lay 8 _ hk
  have hsh : SeqAt.shaped (kqdP (.tuple [.int i, .str y])) = true := by
    unfold SeqAt.shaped; rw [la.1, Bool.true_and]; exact decide_eq_true (Nat.le_trans la.2 (by decide))
  have he : PyData.eqv (kqdP (.tuple [.int i, .str y])) (kqdP (.tuple [.int i, .str y])) = true := (kqd_eqv 8 _ _ 8 hk hk).mpr rfl
  exact ⟨fun h => ne_dataH ra rb hsh hsh hu (by rw [he]; exact h), fun h => eq_dataH ra rb hsh hsh hu (by rw [he]; exact h)⟩
end
structure L2 where
  dvs : List Value
  dn : Nat
  ds : List Row
abbrev L2L (dl : Addr) (c : L2) : List (Addr × Obj) := [(dl, listOf c.dvs.toArray c.dn)]
def L2F (nx : List (Addr × Obj)) (c : L2) : Prop := DatAll nx c.dvs (c.ds.map rowD)
def L2P (rs : List Row) (pre : List Int) (c : L2) : Prop := c.ds = dueL rs.length 0 (rs.take pre.length)
abbrev ncal : List Str := [Str.ofString "name", Str.ofString "cond", Str.ofString "aim", Str.ofString "last"]
abbrev L2S (dl : Addr) (R0 : List (Addr × Obj)) (m₀ : Str → Option Value) (rs : List Row) (pre : List Int) : (Str → Option Value) → List (Addr × Obj) → Prop :=
  KdS (L2L dl) R0 (fun _ => []) L2F (Str.ofString "at") ncal m₀ (L2P rs) (dl :: R0.map (·.1)) pre
theorem tup_row {R : List (Addr × Obj)} {v : Value} {r : Row} (h : DatIn R v (rowD r)) : ∃ rp vs n, v = .ref rp ∧ (rp, tupO vs n) ∈ R ∧ RowV vs r := by
  unfold rowD at h
  obtain _ | _ | _ | _ | _ | ⟨hm, h⟩ := h
  exact ⟨_, _, _, rfl, hm, rowV_of h⟩
section
variable {prog : Program} {w : World} {A : Around} {E : Value → Shared → Prop} {s : Shared} {env : Env} {h₀ : Heap} {body : List Stmt} {Q : Flow → Shared → Prop} {rl dl : Addr} {rvs : List Value} {rn : Nat} {rs : List Row} {R0 : List (Addr × Obj)} {m₀ : Str → Option Value}
theorem law_item {L : Addr} {value slice : PySem.Expr} {news : List (Addr × Obj)} {k : Int} {u : Tok} {v : Value} {Q : Value → Shared → Prop} (N : News h₀ L s.heap news) (hm : (rl, listOf rvs.toArray rn) ∈ news) (h0 : 0 ≤ k) (h1 : k < 2 ^ 63) (hg : rvs[k.toNat]? = some v) (h : Q v s)
    (hs : subscripted slice false (.ref rl) (.int k u) = operate [.ref rl, .int k u] (getItem (.ref rl) (.int k u)) := by with_unfolding_all rfl) : wpAny (model prog w) A (subscriptTail value slice (.ref rl) (.int k u)) Q E s := by
  have hl : s.heap.IsList rl rvs.toArray := News.isList N hm
  exact tail_any hl.typeIs slot_list_getitem.lookup (wpAny_getItem_list hl h0 h1 (by simpa using hg) h) hs
theorem law_loop2 {r : Addr} {tr ur vr : Tok} {k0 : Nat} (hh : A.handled = none) (hR : IsRange s.heap r 0 (rs.length : Int) 1 tr ur vr) (hrs : rs.length ≤ 100) (hd : DatAll R0 rvs (rs.map rowD)) (hfr : ∀ p ∈ R0, p.1 ≠ dl)
    (F : Fr h₀ env.locals s.heap m₀) (N : News h₀ env.locals s.heap ((dl, listOf (List.toArray []) k0) :: R0))
    (turn : ∀ (c : L2) (tl : List (Addr × Obj)) (pre : List Int) (k : Int) (t : Tok) (u : Str → Option Value) (h : Heap) (tk : Nat) (own R : List (Addr × Obj)) (row : Row) (vs : List Value) (n : Nat) (rp : Addr), R = R0 ++ (tl ++ own) → (∀ p ∈ R0, p ∈ R) → k = pre.length → 0 ≤ k → k < (rs.length : Int) → KdSep own tl (dl :: R0.map (·.1)) → (∀ p ∈ R, p.1 ≠ dl) → L2F (R0 ++ tl) c → L2P rs pre c → c.dvs.length ≤ 100 →
      rs[k.toNat]? = some row → rvs[k.toNat]? = some (.ref rp) → (rp, tupO vs n) ∈ R → RowV vs row →
      Fr h₀ env.locals h (fun y => if y = Str.ofString "at" then some (.int k t) else kstB (fun z => if ncal.contains z then u z else m₀ z) [] y) →
      News h₀ env.locals h ((dl, listOf c.dvs.toArray c.dn) :: R) →
      wpAny (model prog w) A (execs body env) (InvPostG h₀ env.locals (L2S dl R0 m₀ rs (pre ++ [k])) own { s with heap := h, toks := tk } Q) E { s with heap := h, toks := tk })
    (done : ∀ (c : L2) (tl : List (Addr × Obj)) (u : Str → Option Value) (h : Heap) (tk : Nat) (R : List (Addr × Obj)), (∀ p ∈ R0, p ∈ R) → (∀ p ∈ R, p.1 ≠ dl) → DatAll R c.dvs ((dueL rs.length 0 rs).map rowD) → (∀ p ∈ R, p ∈ R0 ∨ p ∈ tl) → OwnOff tl (dl :: R0.map (·.1)) →
      Fr h₀ env.locals h (fun y => if y = Str.ofString "at" then u y else kstB (fun z => if ncal.contains z then u z else m₀ z) [] y) →
      News h₀ env.locals h ((dl, listOf c.dvs.toArray c.dn) :: R) → Q .next { s with heap := h, toks := tk }) :
    wpAny (model prog w) A (pyIter (.ref r)) (fun it s₂ => LoopAtV prog w A h₀ env (Str.ofString "at") body Q E it s₂) E s := by
  refine kd_range (σ := L2) (n := rs.length) (L2L dl) R0 (fun _ => []) L2F ncal (L2P rs) (dl :: R0.map (·.1)) ⟨[], k0, []⟩ hh hR (small_one (a := 0) (b := rs.length) (by omega) (by omega) (by omega) (by omega)) ?size F N ?hn (fun _ => rfl) .nil (List.forall_mem_nil _) rfl ?turn ?done
  case size => rw [rangeSize_nat]; omega
  case hn =>
    intro p hp
    simp only [List.cons_append, List.nil_append, List.append_nil] at hp
    exact hp
  case turn =>
    rintro c tl pre k t u h tk own hk hpre hsep hoff hF hP F1 N1
    have hk2 : k.toNat = pre.length := by omega
    have hl := DatAll.length hd
    rw [List.length_map] at hl
    obtain ⟨v, hv, hD⟩ := hd.get (k := pre.length) (by rw [List.length_map]; exact hpre)
    rw [List.getElem_map] at hD
    obtain ⟨rp, vs, n, rfl, hm, hrv⟩ := tup_row hD
    refine turn c tl pre k t u h tk own _ _ vs n rp rfl (fun p hp => List.mem_append.mpr (.inl hp)) (by omega) (by omega) (by omega) hsep (fun p hp => ?_) hF hP ?_ (by rw [hk2]; exact List.getElem?_eq_getElem hpre) (by rw [hk2]; exact hv) (List.mem_append.mpr (.inl hm)) hrv F1 N1
    · rcases List.mem_append.mp hp with hp | hp
      · exact hfr p hp
      · exact hoff p hp dl List.mem_cons_self
    · have h1 := DatAll.length (show DatAll _ c.dvs (c.ds.map rowD) from hF)
      have h2 : c.ds = _ := hP
      rw [List.length_map, h2, dueL_len, List.length_take] at h1
      omega
  case done =>
    rintro c tl u h tk hoff hF hP F1 N1
    have h2 : c.ds = _ := hP
    rw [rangeKs_length, List.take_length] at h2
    have hF2 : DatAll _ c.dvs (c.ds.map rowD) := hF
    rw [h2] at hF2
    refine done c tl u h tk (R0 ++ tl) (fun p hp => List.mem_append.mpr (.inl hp)) (fun p hp => ?_) hF2 (fun p hp => List.mem_append.mp hp) hoff F1 N1
    rcases List.mem_append.mp hp with hp | hp
    · exact hfr p hp
    · exact hoff p hp dl List.mem_cons_self
theorem law_end2 {L : Addr} (c : L2) {tl own R news' : List (Addr × Obj)} {pre : List Int} {k : Int} {s₁ : Shared} {h' : Heap} {tk : Nat} {m' : Str → Option Value} {n3 dn' : Nat} {row row' : Row} {vs : List Value} {D : Addr}
    (hsep : KdSep own tl (dl :: R0.map (·.1))) (hR : R = R0 ++ (tl ++ own)) (hP : L2P rs pre c) (hF : L2F (R0 ++ tl) c) (hk : k = pre.length) (hrow : rs[k.toNat]? = some row) (hv : RowV vs row') (hd : dueR rs.length k row = row')
    (F : Fr h₀ L h' m') (N : News h₀ L h' news') (m1 : (dl, listOf (c.dvs ++ [Value.ref D]).toArray dn') ∈ news') (m2 : (D, tupO vs n3) ∈ news') (mR : ∀ p ∈ R, p ∈ news') (o1 : @LT.lt Nat _ dl D) (oR : AllLt D R)
    (hr : ∀ z, z ≠ Str.ofString "at" → z ≠ Str.ofString "name" → z ≠ Str.ofString "cond" → z ≠ Str.ofString "aim" → z ≠ Str.ofString "last" → m' z = m₀ z) :
    InvEndG h₀ L (L2S dl R0 m₀ rs (pre ++ [k])) own s₁ { s₁ with heap := h', toks := tk } := by
  have hR1 := allLt_mem oR
  refine kd_end (tl := tl) (⟨c.dvs ++ [Value.ref D], dn', c.ds ++ [row']⟩ : L2) [(D, tupO vs n3)] hsep F N ?hn (fun p hp => mR p (by rw [hR]; exact List.mem_append.mpr (.inr (List.mem_append.mpr (.inr hp))))) rfl ?hb ?hw (List.forall_mem_nil _) (fun z h1 _ h3 => ?hr) ?f ?p
  case hn =>
    intro p hp
    simp only [List.cons_append, List.nil_append, List.mem_cons, List.mem_append] at hp
    rcases hp with hp | hp | hp | hp
    · rw [hp]; exact m1
    · exact mR p (by rw [hR]; exact List.mem_append.mpr (.inl hp))
    · rw [hp]; exact m2
    · exact mR p (by rw [hR]; exact List.mem_append.mpr (.inr (List.mem_append.mpr (.inl hp))))
  case hb =>
    intro q hq b hb
    rw [List.mem_singleton.mp hq]
    rcases List.mem_cons.mp hb with hb | hb
    · rw [hb]; exact Nat.ne_of_lt o1
    · obtain ⟨p, hp, rfl⟩ := List.mem_map.mp hb
      exact Nat.ne_of_lt (hR1 p (by rw [hR]; exact List.mem_append.mpr (.inl hp)))
  case hw =>
    intro q hq p hp
    rw [List.mem_singleton.mp hq]
    exact Nat.ne_of_lt (hR1 p (by rw [hR]; exact List.mem_append.mpr (.inr (List.mem_append.mpr (.inr hp)))))
  case hr =>
    simp only [ncal, List.contains_cons, List.contains_nil, Bool.or_false, Bool.or_eq_false_iff, beq_eq_false_iff_ne, ne_eq] at h3
    exact hr z h1 h3.1 h3.2.1 h3.2.2.1 h3.2.2.2
  case f =>
    show DatAll _ (c.dvs ++ [Value.ref D]) ((c.ds ++ [row']).map rowD)
    rw [List.map_append]
    exact DatAll.append (DatAll.mono kd_sub hF) (DatAll.one (.tuple (kd_new List.mem_cons_self) (rowV_dat hv _)))
  case p =>
    have h2 : c.ds = _ := hP
    show c.ds ++ [row'] = _
    have hk2 : k.toNat = pre.length := by omega
    rw [hk2] at hrow
    have hlt : pre.length < rs.length := (List.getElem?_eq_some_iff.mp hrow).1
    rw [h2, List.length_append, List.length_cons, List.length_nil, Nat.zero_add, List.take_add_one, hrow, Option.toList_some, dueL_app, ← hd, List.length_take, Nat.min_eq_left (by omega), hk, Int.zero_add]
    rfl
end
/-- the texts of a sound row are short -/
def RowSmall : Row → Prop
  | .I x _ _ _ => x.length ≤ 9
  | .S x y z => x.length ≤ 9 ∧ y.length ≤ 9 ∧ z.length ≤ 9
  | .C x y _ _ => x.length ≤ 9 ∧ y.length ≤ 9
theorem sound_small {x : Str} {r : Row} (h : Sound x r) : RowSmall r := by
  cases h with
  | addi h1 h2 h3 h4 h5 h6 => show Str.length _ ≤ 9; decide +kernel
  | mov h1 h2 h3 h4 => show Str.length _ ≤ 9; decide +kernel
  | stb h1 h2 h3 h4 => show Str.length _ ≤ 9; decide +kernel
  | geth h1 h2 => show Str.length _ ≤ 9; decide +kernel
  | trap h1 h2 h3 h4 => show Str.length _ ≤ 9 ∧ Str.length _ ≤ 9; decide +kernel
  | bl => show Str.length _ ≤ 9 ∧ Str.length _ ≤ 9 ∧ Str.length _ ≤ 9; decide +kernel
  | b => show Str.length _ ≤ 9 ∧ Str.length _ ≤ 9 ∧ Str.length _ ≤ 9; decide +kernel
theorem row_small {ys : List Str} {rs : List Row} {k : Nat} {row : Row} (h : BodyL ys rs) (hr : rs[k]? = some row) : RowSmall row := by
  obtain ⟨x, hx⟩ := h.rows row (List.mem_of_getElem? hr)
  exact sound_small hx
theorem dueR_first {N i : Int} {x y z : Str} (h : (z == Str.ofString "first") = true) : dueR N i (.S x y z) = .C x y (-1 - i) 0 := by
  unfold dueR; dsimp only; exact ifp h rfl
theorem dueR_end {N i : Int} {x y z : Str} (h : (z == Str.ofString "first") = false) (h2 : (z == Str.ofString "end") = true) : dueR N i (.S x y z) = .C x y (N - 1 - i) 0 := by
  unfold dueR; dsimp only; exact ifn (by rw [h]; decide) (ifp h2 rfl)
theorem dueR_no {N i : Int} {x y z : Str} (h : (z == Str.ofString "first") = false) (h2 : (z == Str.ofString "end") = false) : dueR N i (.S x y z) = .S x y z := by
  unfold dueR; dsimp only; exact ifn (by rw [h]; decide) (ifn (by rw [h2]; decide) rfl)
theorem strs_take {vs : List Value} {ts : List Str} (h : StrsAre vs ts) : ∀ n, StrsAre (vs.take n) (ts.take n) := by
  induction h with
  | nil => intro n; simp; exact .nil
  | cons x t h ih =>
    intro n
    cases n with
    | zero => exact .nil
    | succ n => exact .cons x t (ih n)
theorem pick_to {vs : List Value} {k : Int} (h0 : 0 ≤ k) : (slicePick vs.toArray none (some k) none).toList = vs.take k.toNat := by
  rw [kms_pick_eq]
  show ((vs.drop 0).take ((if k < 0 then vs.length - (-k).toNat else min k.toNat vs.length) - 0)) = _
  rw [if_neg (by omega), List.drop_zero, Nat.sub_zero, kmk_take_min]
theorem pick_from {vs : List Value} {k : Int} (h0 : 0 ≤ k) : (slicePick vs.toArray (some k) none none).toList = vs.drop k.toNat := by
  rw [kms_pick_eq]
  show ((vs.drop (if k < 0 then vs.length - (-k).toNat else min k.toNat vs.length)).take (vs.length - (if k < 0 then vs.length - (-k).toNat else min k.toNat vs.length))) = _
  rw [if_neg (by omega), kmk_drop_min, List.take_of_length_le (by rw [List.length_drop]; omega)]
section
variable {prog : Program} {w : World} {A : Around} {E : Value → Shared → Prop} {s : Shared} {h₀ : Heap} {L l a b : Addr} {m : Str → Option Value} {news : List (Addr × Obj)} {vs ws : List Value} {xs ys : List Str} {n n2 : Nat} {Q : Value → Shared → Prop}
theorem law_to {value slice : PySem.Expr} {vl vu : Value} {k : Int} (F : Fr h₀ L s.heap m) (N : News h₀ L s.heap news) (hm : (l, listOf vs.toArray n) ∈ news) (hs' : StrsAre vs xs) (h0 : 0 ≤ k) (hz : xs.length ≤ 1000) (pl : IsPart vl none) (pu : IsPart vu (some k))
    (h : ∀ D us h', Fr h₀ L h' m → News h₀ L h' ((D, listOf (List.toArray us) 0) :: news) → (∀ p ∈ news, p.1 < D) → StrsAre us (xs.take k.toNat) → Q (.ref D) { s with heap := h' })
    (hs : subscripted slice false (.ref l) (.ref s.heap.objs.size) = operate [.ref s.heap.objs.size, .ref l] (getItem (.ref l) (.ref s.heap.objs.size))) :
    wpAny (model prog w) A (subscriptTail value slice (.ref l) (.ref s.heap.objs.size)) Q E { s with heap := s.heap.push { cls := .type "slice", data := .fields #[vl, vu, .none] } } := by
  refine slice_go F N (News.isList N hm) pl pu (by rw [List.size_toArray, hs'.length, sizeLine_eq]; omega) (fun D h' F' N' l1 => ?_) hs
  refine h D (slicePick vs.toArray none (some k) none).toList h' F' (by rw [Array.toArray_toList]; exact N') l1 ?_
  rw [pick_to h0]
  exact strs_take hs' _
theorem law_from {value slice : PySem.Expr} {vl vu : Value} {k : Int} (F : Fr h₀ L s.heap m) (N : News h₀ L s.heap news) (hm : (l, listOf vs.toArray n) ∈ news) (hs' : StrsAre vs xs) (h0 : 0 ≤ k) (hz : xs.length ≤ 1000) (pl : IsPart vl (some k)) (pu : IsPart vu none)
    (h : ∀ D us h', Fr h₀ L h' m → News h₀ L h' ((D, listOf (List.toArray us) 0) :: news) → (∀ p ∈ news, p.1 < D) → StrsAre us (xs.drop k.toNat) → Q (.ref D) { s with heap := h' })
    (hs : subscripted slice false (.ref l) (.ref s.heap.objs.size) = operate [.ref s.heap.objs.size, .ref l] (getItem (.ref l) (.ref s.heap.objs.size))) :
    wpAny (model prog w) A (subscriptTail value slice (.ref l) (.ref s.heap.objs.size)) Q E { s with heap := s.heap.push { cls := .type "slice", data := .fields #[vl, vu, .none] } } := by
  refine slice_go F N (News.isList N hm) pl pu (by rw [List.size_toArray, hs'.length, sizeLine_eq]; omega) (fun D h' F' N' l1 => ?_) hs
  refine h D (slicePick vs.toArray (some k) none none).toList h' F' (by rw [Array.toArray_toList]; exact N') l1 ?_
  rw [pick_from h0]
  exact strs_drop hs' _
theorem law_add (F : Fr h₀ L s.heap m) (N : News h₀ L s.heap news) (ma : (a, listOf vs.toArray n) ∈ news) (mb : (b, listOf ws.toArray n2) ∈ news) (hs : StrsAre vs xs) (ht : StrsAre ws ys) (hl : xs.length + ys.length ≤ 1000)
    (h : ∀ D us h', Fr h₀ L h' m → News h₀ L h' ((D, listOf (List.toArray us) 0) :: news) → (∀ p ∈ news, p.1 < D) → StrsAre us (xs ++ ys) → Q (.ref D) { s with heap := h' }) : wpAny (model prog w) A (binaryOp .Add (.ref a) (.ref b)) Q E s :=
  kmk_add_lit F N (News.isList N ma) (News.isList N mb) rfl (fun D h' F' N' l1 => h D (vs ++ ws) h' F' N' l1 (StrsAre.append' hs ht)) (by show vs.length + ws.length ≤ sizeLine; rw [hs.length, ht.length, sizeLine_eq]; omega)
theorem law_nil {a b : Addr} {n k : Nat} {Q : Value → Shared → Prop} (N : News h₀ L s.heap news) (ma : (a, listOf (List.toArray []) n) ∈ news) (mb : (b, listOf (List.toArray []) k) ∈ news) (hu : A.units + 64 < cLine) (h : Q (.bool true) s) : wpAny (model prog w) A (compareOp .Eq (.ref a) (.ref b)) Q E s :=
  kqd_eq N ma rfl rfl (n₁ := []) .nil (List.forall_mem_nil _) mb rfl rfl (n₂ := []) .nil (List.forall_mem_nil _) (List.forall_mem_nil _) (List.forall_mem_nil _) hu (by simp only [eq_self, decide_true]; exact h)
end
theorem split_two : Txt.split (Str.ofString "MOVI R1, 5\n\n; two\nMOVI R99, 5\n") (Str.ofString "\n") = [Str.ofString "MOVI R1, 5", Str.ofString "", Str.ofString "; two", Str.ofString "MOVI R99, 5", Str.ofString ""] := by decide +kernel
theorem split_none : Txt.split (Str.ofString "") (Str.ofString "\n") = [Str.ofString ""] := by decide +kernel
theorem end_strs {vs : List Value} {xs : List Str} {ll : Addr} {t : Tok} {n : Nat} {R : List (Addr × Obj)} (h : StrsAre vs xs) (_m : (ll, listOf (vs ++ [Value.str (Str.ofString "end:") t]).toArray n) ∈ R) : StrsAre (vs ++ [Value.str (Str.ofString "end:") t]) (xs ++ [Str.ofString "end:"]) := StrsAre.append' h (.cons _ _ .nil)
theorem law_worse {XS ys : List Str} {rs : List Row} {d : Int} {x y : Str} (hXS : XS = Str.ofString "first:" :: (ys ++ [Str.ofString "end:"])) (hb : BodyL ys rs) (hl : rs.length ≤ 1000) (hy : ys.length ≤ 50) (h0 : 0 ≤ d) (h1 : d < (XS.length : Int) - 1) (hw : (x, y) ∈ wrongL) :
    (∀ z ∈ XS.take (1 + d).toNat ++ [x] ++ XS.drop (1 + d).toNat, LineOk z) ∧ (XS.take (1 + d).toNat ++ [x] ++ XS.drop (1 + d).toNat).length ≤ 100 ∧
    Txt.split (Str.join (Str.ofString "\n") (XS.take (1 + d).toNat ++ [x] ++ XS.drop (1 + d).toNat)) (Str.ofString "\n") = XS.take (1 + d).toNat ++ [x] ++ XS.drop (1 + d).toNat ∧
    asmF (XS.take (1 + d).toNat ++ [x] ++ XS.drop (1 + d).toNat) = .error (1 + d + 1, y) := by
  have hXl : XS.length = ys.length + 2 := by rw [hXS]; simp
  have hxs := lines_all hb
  rw [← hXS] at hxs
  have hz : ∀ z ∈ XS.take (1 + d).toNat ++ [x] ++ XS.drop (1 + d).toNat, LineOk z := by
    intro z hz
    rcases List.mem_append.mp hz with hz | hz
    · rcases List.mem_append.mp hz with hz | hz
      · exact hxs z (List.mem_of_mem_take hz)
      · rw [List.mem_singleton.mp hz]; exact (wrong_line _ hw).1
    · exact hxs z (List.mem_of_mem_drop hz)
  refine ⟨hz, ?_, split_join ?_ (fun z h => (hz z h).2), ?_⟩
  · simp only [List.length_append, List.length_take, List.length_drop, List.length_cons, List.length_nil]; omega
  · exact List.append_ne_nil_of_left_ne_nil (List.append_ne_nil_of_right_ne_nil _ (List.cons_ne_nil _ _)) _
  · have := asm_worse (k := (1 + d).toNat) hb hl hw (by omega) (by omega)
    rw [← hXS] at this
    rw [List.append_assoc, List.cons_append, List.nil_append, this, show (((1 + d).toNat : Nat) : Int) + 1 = 1 + d + 1 by omega]


local macro_rules | `(tactic| walk_at "call type:range") => `(tactic| (k_here; refine stop_in ?_))
local macro_rules | `(tactic| walk_at "subscriptTail Name Slice ref ref") => `(tactic| (k_here; refine stop_in ?_))
local macro_rules | `(tactic| walk_at "call ref") => `(tactic| (k_here; (with_reducible show wpAny _ _ (call (Value.ref 305) [Value.int _ _]) _ _ _); refine stop_in ?_))
local macro_rules | `(tactic| walk_at "call ref") => `(tactic| (k_here; (with_reducible show wpAny _ _ (call (Value.ref 312) [Value.str _ _]) _ _ _); refine stop_in ?_))
local macro_rules | `(tactic| walk_at "binaryOp Add ref ref") => `(tactic| (k_here; k_dflt (refine' law_add ?F ?N ?a ?b ?s ?t ?l ?_; (case F => k_asm); (case N => k_asm); (case a => k_mem); (case b => k_mem); (case s => with_reducible assumption); (case t => first | with_reducible assumption | exact StrsAre.cons _ _ StrsAre.nil); (case l => ((simp only [List.length_append, List.length_take, List.length_drop, List.length_cons, List.length_nil]); omega))); (intro D' us' h' F' N' l1 hs'); (try k_lt l1)))
local macro_rules | `(tactic| walk_at "compareOp NotEq ref ref") => `(tactic| (k_here; refine stop_in ?_))
local macro_rules | `(tactic| walk_at "compareOp Eq ref ref") => `(tactic| (k_here; refine stop_in ?_))
theorem t : PySem.Challenge.rw_nu0335_01.Holds := by
  w_on
  refine holds_law hd.said fun said => ?_
  refine PySem.W.holds_open (q := hd.view_39) (loose := []) (Xt := fun s => xlAt hd.view_39 [] s && recOk (RowW.records PySem.Challenge.rw_nu0335_01.row.toRowW) s) (XP := XL hd.view_39 []) (Yf := Hook.obs hd.H) (Ya := Hook.val hd.H) (YP := Hook.says hd.H) (N := 3814) hd.left (Hook.of hd.H) (Hook.keeps hd.H) (fun s e => xl_of s (Bool.and_eq_true_iff.mp e).1) XL.keeps (by rfl) (by rfl) (by rfl) (fun s e => recFacts_of (Bool.and_eq_true_iff.mp e).2) (by rfl) said (by decide +kernel) ⟨rfl, rfl, rfl, rfl, rfl, by decide +kernel⟩ ?hw ?hc
  case hw => w_witness2
  clear said
  delta hd.H
  w_strict (k_go0
            (all_goals try k_fold)
            (with_reducible rename Fr _ _ _ _ => F0)
            refine gen_q F0 ?fin ?_
            case fin =>
              intro h' tk' m' F1
              clear F0
              (k_end; wrow_close)
            intro Q' hret
            refine gen_f ?_
            (with_reducible rename PySem.W.Hook.says _ _ _ => z); clear z
            (with_reducible rename Flt.MathXP _ _ _ => z); clear z
            (with_reducible rename LooseAre _ _ _ => z); clear z
            (with_reducible rename Glob _ _ _ _ _ _ _ _ => z); clear z
            (with_reducible rename Tables _ _ _ _ => z); clear z
            (with_reducible rename TopE _ _ _ _ => z); clear z
            (with_reducible rename TopW _ _ _ => z); clear z
            (with_reducible rename BMod _ _ _ _ _ => z); clear z
            (with_reducible rename ReadsAll _ _ _ _ => z); clear z
            (with_reducible rename Well _ _ _ _ => z); clear z
            (with_reducible rename Reads _ _ _ _ => z); clear z
            (with_reducible rename ReadsAllW _ _ _ _ _ _ => z); clear z
            (with_reducible rename Dflts _ _ _ _ _ _ => z); clear z
            (with_reducible rename PySem.Heap.CodeRec _ _ _ => z); clear z
            (with_reducible rename PySem.W.Ground _ _ _ _ _ _ _ _ _ => z); clear z
            (with_reducible rename Below _ _ _ _ => hK0)
            (with_reducible rename PySem.W.Frag.In _ _ => hKX)
            (with_reducible rename Top _ _ _ _ _ _ => hT0)
            k_with_none
            k_with "exec For Name Call cons nil" => (refine stop_in ?_)
            k_steps
            refine stop_out ?_
            (with_reducible rename Fr _ _ _ _ => F1)
            with_unfolding_all refine' For_invVF F1 ?k1 ?k2 ?_
            case k1 => exact rfl
            case k2 => exact rfl
            k_with_none
            k_steps
            refine stop_out ?_
            (with_reducible rename Fr _ _ _ _ => F2)
            (with_reducible rename News _ _ _ _ => N2)
            with_unfolding_all refine range1_rows F2 N2 ?_
            intro hr tkr tr ur vr hR F3 N3 hkr
            (with_reducible rename IntsAre _ _ => hI)
            clear F2 N2 hkr
            k_dflt (refine law_loop1 rfl hR ?_ ?_ ?_ ?_ F3 N3 ?turn ?done)
            case turn =>
              clear F3 N3 F1
              intro c tl pre k t u h tk own R hRR hpre hsep o1 o2 o3 o4 hF hP F1 N1
              refine absG fun G hG => ?_
              obtain ⟨hf1, hf2⟩ := id hF
              obtain ⟨ys, e1, hb, hl, hrl, h0, h1⟩ := id hP
              have hln := StrsAre.length hf1
              have hrn := DatAll.length hf2
              have hxs : c.xs.length = ys.length + 1 := by rw [e1, List.length_cons]
              rw [List.length_map] at hrn
              refine hG ?_; clear hG
              k_with "InvEndG" => (refine stop_in ?_)
              k_with "subscriptTail List" => (refine stop_in ?_)
              k_steps
              · refine stop_out ?_
                (with_reducible rename News _ _ _ _ => nD)
                k_dflt (refine kd_item nD (List.mem_cons_of_mem _ List.mem_cons_self) (fill_dat _ _ _) (by assumption) (by show _ < (3 : Int); assumption) (by omega) (fun v d hx hm hD => ?_))
                obtain ⟨f, hf, rfl⟩ := List.mem_map.mp hm
                cases hD
                k_steps
                refine stop_out ?_
                (with_reducible rename Fr _ _ _ _ => fE); (with_reducible rename News _ _ _ _ => nE); (with_reducible rename Sound _ _ => hs); (with_reducible rename RowV _ _ => hv); (with_reducible rename _ ∧ _ ∧ _ ∧ _ ∧ AllLt _ R => hB)
                simp only [List.push_toArray, List.append_assoc, List.cons_append, List.nil_append] at nE
                refine law_end1 c (fs := [f]) hsep hRR hP hF hs hv (.cons f _ .nil) (List.forall_mem_cons.mpr ⟨hf, List.forall_mem_nil _⟩) (Nat.le_refl 1) ?c0 ?c1 fE nE (by k_mem) (by k_mem) (by k_mem) (by k_mem) (by k_mem) (by intro p hp; repeat (first | exact hp | apply List.mem_cons_of_mem)) (by omega) (by omega) (by omega) (by omega) hB.2.2.2.2 (fun z h1 h2 h3 => by simp [kstB, lineRow, h1, h2, h3])
                case c0 => assumption
                case c1 => omega
              · refine stop_out ?_
                (with_reducible rename Fr _ _ _ _ => fE); (with_reducible rename News _ _ _ _ => nE); (with_reducible rename Sound _ _ => hs); (with_reducible rename RowV _ _ => hv); (with_reducible rename _ ∧ _ ∧ _ ∧ _ ∧ AllLt _ R => hB)
                simp only [List.push_toArray, List.append_assoc, List.cons_append, List.nil_append] at nE
                refine law_end1 c (fs := []) hsep hRR hP hF hs hv .nil (List.forall_mem_nil _) (Nat.zero_le _) ?c0 ?c1 fE nE (by k_mem) (by k_mem) (by k_mem) (by k_mem) (by k_mem) (by intro p hp; repeat (first | exact hp | apply List.mem_cons_of_mem)) (by omega) (by omega) (by omega) (by omega) hB.2.2.2.2 (fun z h1 h2 h3 => by simp [kstB, lineRow, h1, h2, h3])
                case c0 => assumption
                case c1 => omega
            case done =>
              clear F3 N3 F1
              intro c tl u h tk ys o1 o2 o3 o4 hf1 hf2 hb hl hrl h0 h1 F1 N1
              have hln := StrsAre.length hf1
              have hrn := DatAll.length hf2
              rw [List.length_map] at hrn
              simp only [List.length_cons] at hln
              k_with_none
              k_with "exec For Name Call cons nil" => (refine stop_in ?_)
              k_steps
              refine stop_out ?_
              (with_reducible rename Fr _ _ _ _ => F4)
              with_unfolding_all refine' For_invVF F4 ?k1 ?k2 ?_
              case k1 => exact rfl
              case k2 => exact rfl
              k_with_none
              k_steps
              refine stop_out ?_
              (with_reducible rename Fr _ _ _ _ => F5)
              (with_reducible rename News _ _ _ _ => N5)
              with_unfolding_all refine range1_rows F5 N5 ?_
              intro hr2 tkr2 tr2 ur2 vr2 hR2 F6 N6 hkr2
              (with_reducible rename _ ∧ _ ∧ _ ∧ _ ∧ AllLt _ tl => hA)
              clear F5 N5 hkr2
              try simp only [List.push_toArray] at N6
              k_dflt (refine law_loop2 (rs := c.rs) rfl hR2 (by omega) (hf2.mono ?hsub) ?hfr F6 N6 ?turn2 ?done2)
              case hfr => exact fun p hp => Nat.ne_of_lt (allLt_mem (by exact hA) p hp)
              case hsub =>
                intro p hp
                rcases List.mem_cons.mp hp with hp | hp
                · rw [hp]; exact List.mem_cons_of_mem _ (List.mem_cons_of_mem _ (List.mem_cons_of_mem _ List.mem_cons_self))
                · exact List.mem_cons_of_mem _ (List.mem_cons_of_mem _ (List.mem_cons_of_mem _ (List.mem_cons_of_mem _ hp)))
              case turn2 =>
                clear F6 N6 hR2; try clear F4; try clear F1; try clear N1
                intro c2 tl2 pre k t u h tk own R row vs n rp hRR hR0 hk hk0 hk1 hsep hoff hF hP hlen hrow hget hm hv F1 N1
                have hrm := hR0 _ (List.mem_cons_of_mem _ (List.mem_cons_of_mem _ List.mem_cons_self))
                have hd2 := DatAll.length (show DatAll _ c2.dvs (c2.ds.map rowD) from hF)
                have hrd : DatAll R c.rvs (c.rs.map rowD) := hf2.mono (by
                  intro p hp
                  rcases List.mem_cons.mp hp with hp | hp
                  · rw [hp]; exact hR0 _ (List.mem_cons_of_mem _ (List.mem_cons_of_mem _ (List.mem_cons_of_mem _ List.mem_cons_self)))
                  · exact hR0 _ (List.mem_cons_of_mem _ (List.mem_cons_of_mem _ (List.mem_cons_of_mem _ (List.mem_cons_of_mem _ hp)))))
                k_with "subscriptTail" => (refine stop_in ?_)
                k_steps
                refine stop_out ?_
                (with_reducible rename News _ _ _ _ => nD)
                k_dflt (refine law_item nD (List.mem_cons_of_mem _ hrm) hk0 (by omega) hget ?_)
                have hzl := row_small hb hrow
                k_with_none
                k_with "InvEndG" => (refine stop_in ?_)
                cases hv
                all_goals k_steps
                all_goals refine stop_out ?_
                all_goals ((with_reducible rename Fr _ _ _ _ => fE); (with_reducible rename News _ _ _ _ => nE); (with_reducible rename _ ∧ AllLt _ R => hB); simp only [List.push_toArray] at nE)
                all_goals first
                  | exact law_end2 c2 hsep hRR hP hF hk hrow .I rfl fE nE (by k_mem) (by k_mem) (by intro p hp; repeat (first | exact hp | apply List.mem_cons_of_mem)) (by omega) hB.2 (fun z h1 h2 h3 h4 h5 => by simp [kstB, ncal, h1, h2, h3, h4, h5])
                  | exact law_end2 c2 hsep hRR hP hF hk hrow .C (dueR_first (by with_reducible assumption)) fE nE (by k_mem) (by k_mem) (by intro p hp; repeat (first | exact hp | apply List.mem_cons_of_mem)) (by omega) hB.2 (fun z h1 h2 h3 h4 h5 => by simp [kstB, ncal, h1, h2, h3, h4, h5])
                  | exact law_end2 c2 hsep hRR hP hF hk hrow .C (dueR_end (by with_reducible assumption) (by with_reducible assumption)) fE nE (by k_mem) (by k_mem) (by intro p hp; repeat (first | exact hp | apply List.mem_cons_of_mem)) (by omega) hB.2 (fun z h1 h2 h3 h4 h5 => by simp [kstB, ncal, h1, h2, h3, h4, h5])
                  | exact law_end2 c2 hsep hRR hP hF hk hrow .S (dueR_no (by with_reducible assumption) (by with_reducible assumption)) fE nE (by k_mem) (by k_mem) (by intro p hp; repeat (first | exact hp | apply List.mem_cons_of_mem)) (by omega) hB.2 (fun z h1 h2 h3 h4 h5 => by simp [kstB, ncal, h1, h2, h3, h4, h5])
                  | exact law_end2 c2 hsep hRR hP hF hk hrow .C rfl fE nE (by k_mem) (by k_mem) (by intro p hp; repeat (first | exact hp | apply List.mem_cons_of_mem)) (by omega) hB.2 (fun z h1 h2 h3 h4 h5 => by simp [kstB, ncal, h1, h2, h3, h4, h5])
              case done2 =>
                clear F6 N6 hR2; try clear F4; try clear F1; try clear N1
                intro c2 tl2 u h tk R hR0 hoff hdue hsub2 hoff2 F1 N1
                have hlm := hR0 _ (List.mem_cons_of_mem _ List.mem_cons_self)
                have hwm := hR0 _ List.mem_cons_self
                have hcm := hR0 _ (List.mem_cons_of_mem _ (List.mem_cons_of_mem _ (List.mem_cons_of_mem _ List.mem_cons_self)))
                have hxs := lines_all hb
                have hsx := end_strs hf1 hlm
                obtain ⟨XS, hXS⟩ : ∃ XS, XS = Str.ofString "first:" :: (ys ++ [Str.ofString "end:"]) := ⟨_, rfl⟩
                have hXl : XS.length = ys.length + 2 := by rw [hXS]; simp
                rw [← hXS] at hxs
                rw [List.cons_append, ← hXS] at hsx
                have hXd := strs_dat hsx []
                k_with_none
                k_with "call builtin:str.join" => (refine stop_in ?_)
                k_steps
                refine stop_out ?_
                (with_reducible rename News _ _ _ _ => nD)
                k_dflt (refine law_join nD (List.mem_cons_of_mem _ hlm) hsx hxs (by omega) ?_)
                intro t' k'
                k_with_none
                k_steps
                refine stop_out ?_
                (with_reducible rename Fr _ _ _ _ => fD)
                (with_reducible rename News _ _ _ _ => nD)
                k_dflt (refine told_con _ _ _ _ _ _ _ (text_fits hxs (by omega)) ?hls _ _ _ _ _ _ _ _ _ _ _ _ _ _ _ hK0 fD hKX hKX nD hT0 hT0 rfl ?hd ?hu ?hret)
                case hls => rw [hXS, split_join (List.cons_ne_nil _ _) (fun x hx => (lines_all hb x hx).2), ← hXS]; omega
                case hd => decide
                case hu => decide
                case hret =>
                  intro r nw h' tk' F2 N2 R2
                  refine absG fun G hG => ?_
                  rw [hXS, split_join (List.cons_ne_nil _ _) (fun x hx => (lines_all hb x hx).2), asm_sound hb (by omega)] at R2
                  obtain ⟨l, vs, n, tl3, e1, e2, e3, e4⟩ := R2
                  subst e1 e2
                  refine hG ?_; clear hG
                  clear fD nD
                  k_with_none
                  dsimp only
                  k_steps
                  refine stop_out ?_
                  (with_reducible rename News _ _ _ _ => nD)
                  k_dflt (refine law_ne1 nD List.mem_cons_self e3 (fun p hp => List.mem_cons_of_mem _ hp) (List.mem_cons_of_mem _ (e4 _ List.mem_cons_self)) hdue (fun p hp => List.mem_cons_of_mem _ (e4 _ (List.mem_cons_of_mem _ hp))) (due_all hb.rows) ?hu ?_)
                  case hu => ke_room
                  have nK := cb_drop (news := [_, _, _]) nD (List.forall_mem_cons.mpr ⟨List.mem_cons_of_mem _ (e4 _ (List.mem_cons_of_mem _ hwm)), List.forall_mem_cons.mpr ⟨List.mem_cons_of_mem _ (e4 _ (List.mem_cons_of_mem _ hlm)), List.forall_mem_cons.mpr ⟨List.mem_cons_of_mem _ (e4 _ (List.mem_cons_of_mem _ hcm)), List.forall_mem_nil _⟩⟩⟩)
                  clear nD; try clear N2; try clear N1
                  try dsimp only
                  k_with_none
                  k_steps
                  refine stop_out ?_
                  (with_reducible rename Fr _ _ _ _ => fD)
                  (with_reducible rename News _ _ _ _ => nD)
                  k_dflt (refine Con.use (wrong_con _ _ _ _ _ _ _ ?w0 ?w1) hK0 fD hKX nD hT0 rfl ?hd3 ?hu3 ?ret3 (fun _ _ _ _ _ _ _ _ x => x.elim))
                  case w0 => assumption
                  case w1 => assumption
                  case hd3 => decide
                  case hu3 => decide
                  case ret3 =>
                    intro r nw h' tk' F3 N3 R3
                    refine absG fun G hG => ?_
                    obtain ⟨a3, x, y, n3, t3, t4, tl4, hxy, e1, hm3, e2⟩ := R3
                    subst e1 e2
                    refine hG ?_; clear hG
                    have nU := cb_drop (news := (a3, _) :: _) N3 (List.forall_mem_cons.mpr ⟨List.mem_append.mpr (.inl hm3), fun p hp => List.mem_append.mpr (.inr hp)⟩)
                    clear N3; try clear nD; try clear fD
                    try dsimp only
                    k_with_none
                    k_with "call ref" => (refine stop_in ?_)
                    k_steps
                    refine stop_out ?_
                    (with_reducible rename News _ _ _ _ => nD)
                    have nV := news_tail nD
                    clear nD
                    try dsimp only
                    k_with_none
                    k_with "subscriptTail" => (refine stop_in ?_)
                    k_steps
                    refine stop_out ?_
                    (with_reducible rename Fr _ _ _ _ => fD)
                    (with_reducible rename News _ _ _ _ => nD)
                    (with_reducible rename _ < (XS.length : Int) - 1 => hd2)
                    k_dflt (refine law_to fD nD (by k_mem) hsx (by omega) (by omega) IsPart.none (IsPart.int _ _) (fun D4 us4 h4 F4 N4 l4 hs4 => ?_) (by with_unfolding_all rfl))
                    clear nD; try clear fD
                    try k_lt l4
                    try dsimp only
                    k_steps
                    refine stop_out ?_
                    (with_reducible rename Fr _ _ _ _ => fD)
                    (with_reducible rename News _ _ _ _ => nD)
                    k_dflt (refine law_from fD nD (by k_mem) hsx (by omega) (by omega) (IsPart.int _ _) IsPart.none (fun D5 us5 h5 F5 N5 l5 hs5 => ?_) (by with_unfolding_all rfl))
                    clear nD; try clear fD
                    try k_lt l5
                    try dsimp only
                    obtain ⟨hw1, hw2, hw3, hw4⟩ := law_worse hXS hb (by omega) (by omega) (by assumption) hd2 hxy
                    k_with_none
                    k_with "call builtin:str.join" => (refine stop_in ?_)
                    k_steps
                    refine stop_out ?_
                    (with_reducible rename News _ _ _ _ => nD)
                    (with_reducible rename StrsAre _ (List.take _ XS ++ [x] ++ List.drop _ XS) => hsw)
                    k_dflt (refine law_join nD (by k_mem) hsw hw1 hw2 ?_)
                    intro t5 k5
                    k_with_none
                    try dsimp only
                    k_steps
                    refine stop_out ?_
                    (with_reducible rename Fr _ _ _ _ => fD)
                    (with_reducible rename News _ _ _ _ => nD)
                    k_dflt (refine told_con _ _ _ _ _ _ _ (text_fits hw1 hw2) ?hls4 _ _ _ _ _ _ _ _ _ _ _ _ _ _ _ hK0 fD hKX hKX nD hT0 hT0 rfl ?hd4 ?hu4 ?hret4)
                    case hls4 => rw [hw3]; omega
                    case hd4 => decide
                    case hu4 => decide
                    case hret4 =>
                      intro r nw h' tk' F6 N6 R6
                      refine absG fun G hG => ?_
                      rw [hw3, hw4] at R6
                      obtain ⟨rp, n6, t6, t7, e1, e2⟩ := R6
                      dsimp only at e2
                      subst e1 e2
                      refine hG ?_; clear hG
                      clear nD; try clear fD
                      try dsimp only
                      k_steps
                      refine stop_out ?_
                      (with_reducible rename News _ _ _ _ => nD)
                      k_dflt (refine (law_pairs nD (by k_mem) (by k_mem) (wrong_line _ hxy).2.2 (by ke_room)).1 ?_)
                      try dsimp only
                      k_steps
                      refine stop_out ?_
                      (with_reducible rename Fr _ _ _ _ => fD)
                      (with_reducible rename News _ _ _ _ => nD)
                      k_dflt (refine told_con _ _ _ _ _ _ _ (by decide +kernel) ?hls5 _ _ _ _ _ _ _ _ _ _ _ _ _ _ _ hK0 fD hKX hKX nD hT0 hT0 rfl ?hd5 ?hu5 ?hret5)
                      case hls5 => rw [split_two]; decide
                      case hd5 => decide
                      case hu5 => decide
                      case hret5 =>
                        intro r nw h' tk' F7 N7 R7
                        refine absG fun G hG => ?_
                        rw [split_two, asm_two] at R7
                        obtain ⟨rp, n7, t8, t9, e1, e2⟩ := R7
                        dsimp only at e2
                        subst e1 e2
                        refine hG ?_; clear hG
                        clear nD; try clear fD
                        try dsimp only
                        k_steps
                        refine stop_out ?_
                        (with_reducible rename News _ _ _ _ => nD)
                        k_dflt (refine (law_pairs nD (by k_mem) (by k_mem) (by decide +kernel) (by ke_room)).2 ?_)
                        try dsimp only
                        k_steps
                        refine stop_out ?_
                        (with_reducible rename Fr _ _ _ _ => fD)
                        (with_reducible rename News _ _ _ _ => nD)
                        k_dflt (refine told_con _ _ _ _ _ _ _ (by decide +kernel) ?hls6 _ _ _ _ _ _ _ _ _ _ _ _ _ _ _ hK0 fD hKX hKX nD hT0 hT0 rfl ?hd6 ?hu6 ?hret6)
                        case hls6 => rw [split_none]; decide
                        case hd6 => decide
                        case hu6 => decide
                        case hret6 =>
                          intro r nw h' tk' F8 N8 R8
                          refine absG fun G hG => ?_
                          rw [split_none, asm_none] at R8
                          obtain ⟨l8, vs8, n8, tl8, e1, e2, e3, e4⟩ := R8
                          rw [List.map_nil] at e3
                          cases e3
                          subst e1 e2
                          refine hG ?_; clear hG
                          clear nD; try clear fD
                          try dsimp only
                          k_steps
                          refine stop_out ?_
                          (with_reducible rename News _ _ _ _ => nD)
                          k_dflt (refine law_nil nD (by k_mem) (by k_mem) (by ke_room) ?_)
                          try dsimp only
                          k_steps
                          all_goals exact hret _ _ _ (by assumption)
            all_goals omega)

end Mine
theorem PySem.Challenge.cw_nu0335_01_holds : PySem.Challenge.rw_nu0335_01.Holds :=
  Mine.t
