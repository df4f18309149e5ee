import PyProof.Rows.All
import Wide.All
import OpenK.AllK
import Wide.FinOn
import PySem.Challenge.RW_pb0539_01
open PySem PySem.W PyProof.Rows
set_option Elab.async false
set_option maxRecDepth 100000
set_option maxHeartbeats 8000000
open PySem.Calls
namespace Mine
/-- the parts of a def's text -/
noncomputable def hd.parts : Option Stmt → Option (Arguments × List Stmt × Scope)
  | some (.FunctionDef _ a b _ _ _ s _ _ _) => some (a, b, s)
  | _ => none
noncomputable def hd.defOf (i : Nat) : Option (Arguments × List Stmt × Scope) := hd.parts PySem.Challenge.pw_pb0539_01.main.body[i]?
noncomputable def hd.methOf (i j : Nat) : Option (Arguments × List Stmt × Scope) := hd.parts (match PySem.Challenge.pw_pb0539_01.main.body[i]? with
  | some (.ClassDef _ _ _ b ..) => b[j]?
  | _ => none)
/-- the heap behind the top: what the law can reach -/
noncomputable def hd.heap_39 : Params → Frag := by
  refine (?g : ∀ (p28 : Arguments) (b28 : List Stmt) (s28 : Scope) (p73 : Arguments) (b73 : List Stmt) (s73 : Scope) (p94 : Arguments) (b94 : List Stmt) (s94 : Scope) (p101 : Arguments) (b101 : List Stmt) (s101 : Scope) (p106 : Arguments) (b106 : List Stmt) (s106 : Scope) (p128 : Arguments) (b128 : List Stmt) (s128 : Scope) (p135 : Arguments) (b135 : List Stmt) (s135 : Scope) (p142 : Arguments) (b142 : List Stmt) (s142 : Scope) (p149 : Arguments) (b149 : List Stmt) (s149 : Scope) (p156 : Arguments) (b156 : List Stmt) (s156 : Scope) (p163 : Arguments) (b163 : List Stmt) (s163 : Scope) (p170 : Arguments) (b170 : List Stmt) (s170 : Scope) (p177 : Arguments) (b177 : List Stmt) (s177 : Scope) (p184 : Arguments) (b184 : List Stmt) (s184 : Scope) (p198 : Arguments) (b198 : List Stmt) (s198 : Scope) (p205 : Arguments) (b205 : List Stmt) (s205 : Scope) (p212 : Arguments) (b212 : List Stmt) (s212 : Scope) (p219 : Arguments) (b219 : List Stmt) (s219 : Scope) (p224 : Arguments) (b224 : List Stmt) (s224 : Scope) (p229 : Arguments) (b229 : List Stmt) (s229 : Scope) (p236 : Arguments) (b236 : List Stmt) (s236 : Scope) (p243 : Arguments) (b243 : List Stmt) (s243 : Scope) (p248 : Arguments) (b248 : List Stmt) (s248 : Scope) (p255 : Arguments) (b255 : List Stmt) (s255 : Scope) (p260 : Arguments) (b260 : List Stmt) (s260 : Scope), hd.methOf 1 0 = some (p28, b28, s28) → hd.methOf 5 0 = some (p73, b73, s73) → hd.methOf 6 0 = some (p94, b94, s94) → hd.methOf 6 1 = some (p101, b101, s101) → hd.methOf 6 2 = some (p106, b106, s106) → hd.methOf 7 0 = some (p128, b128, s128) → hd.methOf 7 1 = some (p135, b135, s135) → hd.methOf 7 2 = some (p142, b142, s142) → hd.methOf 7 3 = some (p149, b149, s149) → hd.methOf 7 4 = some (p156, b156, s156) → hd.methOf 7 5 = some (p163, b163, s163) → hd.methOf 7 6 = some (p170, b170, s170) → hd.methOf 7 7 = some (p177, b177, s177) → hd.methOf 7 8 = some (p184, b184, s184) → hd.defOf 9 = some (p198, b198, s198) → hd.defOf 10 = some (p205, b205, s205) → hd.defOf 11 = some (p212, b212, s212) → hd.defOf 12 = some (p219, b219, s219) → hd.defOf 13 = some (p224, b224, s224) → hd.defOf 14 = some (p229, b229, s229) → hd.defOf 15 = some (p236, b236, s236) → hd.defOf 16 = some (p243, b243, s243) → hd.defOf 17 = some (p248, b248, s248) → hd.defOf 18 = some (p255, b255, s255) → hd.defOf 19 = some (p260, b260, s260) → Params → Frag) _ _ _ _ _ _ _ _ _ _ _ _ _ _ _ _ _ _ _ _ _ _ _ _ _ _ _ _ _ _ _ _ _ _ _ _ _ _ _ _ _ _ _ _ _ _ _ _ _ _ _ _ _ _ _ _ _ _ _ _ _ _ _ _ _ _ _ _ _ _ _ _ _ _ _ rfl rfl rfl rfl rfl rfl rfl rfl rfl rfl rfl rfl rfl rfl rfl rfl rfl rfl rfl rfl rfl rfl rfl rfl rfl
  intro p28 b28 s28 p73 b73 s73 p94 b94 s94 p101 b101 s101 p106 b106 s106 p128 b128 s128 p135 b135 s135 p142 b142 s142 p149 b149 s149 p156 b156 s156 p163 b163 s163 p170 b170 s170 p177 b177 s177 p184 b184 s184 p198 b198 s198 p205 b205 s205 p212 b212 s212 p219 b219 s219 p224 b224 s224 p229 b229 s229 p236 b236 s236 p243 b243 s243 p248 b248 s248 p255 b255 s255 p260 b260 s260 _ _ _ _ _ _ _ _ _ _ _ _ _ _ _ _ _ _ _ _ _ _ _ _ _
  exact fun P => List.cons (Prod.mk (nat_lit 2) { cls := Value.none, data := Data.dict #[{ hash := PyData.keyHash P (Str.ofString "type.__subclasses__.Exception.0"), key := Value.str (Str.ofString "type.__subclasses__.Exception.0") 214, val := Value.int 31 0 }, { hash := PyData.keyHash P (Str.ofString "type.__subclasses__.Exception.n"), key := Value.str (Str.ofString "type.__subclasses__.Exception.n") 215, val := Value.int 1 0 }] 2 }) <|
    List.cons (Prod.mk (nat_lit 3) { cls := Value.type "dict", data := Data.dict #[{ hash := PyData.keyHash P (Str.ofString "__name__"), key := Value.str (Str.ofString "__name__") 165, val := Value.str (Str.ofString "law_pb0539_01") 443 }, { hash := PyData.keyHash P (Str.ofString "__doc__"), key := Value.str (Str.ofString "__doc__") 166, val := Value.none }, { hash := PyData.keyHash P (Str.ofString "__package__"), key := Value.str (Str.ofString "__package__") 167, val := Value.none }, { hash := PyData.keyHash P (Str.ofString "__loader__"), key := Value.str (Str.ofString "__loader__") 168, val := Value.builtin "__main__.__loader__#opaque" }, { hash := PyData.keyHash P (Str.ofString "__spec__"), key := Value.str (Str.ofString "__spec__") 169, val := Value.none }, { hash := PyData.keyHash P (Str.ofString "__annotations__"), key := Value.str (Str.ofString "__annotations__") 170, val := Value.ref 6 }, { hash := PyData.keyHash P (Str.ofString "__builtins__"), key := Value.str (Str.ofString "__builtins__") 171, val := Value.ref 4 }, { hash := PyData.keyHash P (Str.ofString "__file__"), key := Value.str (Str.ofString "__file__") 173, val := Value.str (Str.ofString "/claim/cut.py") 172 }, { hash := PyData.keyHash P (Str.ofString "__cached__"), key := Value.str (Str.ofString "__cached__") 174, val := Value.none }, { hash := PyData.keyHash P (Str.ofString "SwitchError"), key := Value.str (Str.ofString "SwitchError") 217, val := Value.ref 31 }, { hash := PyData.keyHash P (Str.ofString "SizeError"), key := Value.str (Str.ofString "SizeError") 233, val := Value.ref 44 }, { hash := PyData.keyHash P (Str.ofString "TableError"), key := Value.str (Str.ofString "TableError") 249, val := Value.ref 56 }, { hash := PyData.keyHash P (Str.ofString "Port"), key := Value.str (Str.ofString "Port") 289, val := Value.ref 76 }, { hash := PyData.keyHash P (Str.ofString "LinkWatch"), key := Value.str (Str.ofString "LinkWatch") 333, val := Value.ref 109 }, { hash := PyData.keyHash P (Str.ofString "Ports"), key := Value.str (Str.ofString "Ports") 442, val := Value.ref 187 }, { hash := PyData.keyHash P (Str.ofString "_law_pool"), key := Value.str (Str.ofString "_law_pool") 455, val := Value.ref 198 }, { hash := PyData.keyHash P (Str.ofString "_law_take"), key := Value.str (Str.ofString "_law_take") 464, val := Value.ref 205 }, { hash := PyData.keyHash P (Str.ofString "_law_one"), key := Value.str (Str.ofString "_law_one") 472, val := Value.ref 212 }, { hash := PyData.keyHash P (Str.ofString "_law_refused"), key := Value.str (Str.ofString "_law_refused") 479, val := Value.ref 219 }, { hash := PyData.keyHash P (Str.ofString "_law_rows"), key := Value.str (Str.ofString "_law_rows") 485, val := Value.ref 224 }, { hash := PyData.keyHash P (Str.ofString "_law_up"), key := Value.str (Str.ofString "_law_up") 491, val := Value.ref 229 }, { hash := PyData.keyHash P (Str.ofString "_law_down"), key := Value.str (Str.ofString "_law_down") 499, val := Value.ref 236 }, { hash := PyData.keyHash P (Str.ofString "_law_let_go"), key := Value.str (Str.ofString "_law_let_go") 510, val := Value.ref 243 }, { hash := PyData.keyHash P (Str.ofString "_law_deed_right"), key := Value.str (Str.ofString "_law_deed_right") 516, val := Value.ref 248 }, { hash := PyData.keyHash P (Str.ofString "_law_fixed_right"), key := Value.str (Str.ofString "_law_fixed_right") 525, val := Value.ref 255 }, { hash := PyData.keyHash P (Str.ofString "law"), key := Value.str (Str.ofString "law") 531, val := Value.ref 260 }] 26 }) <|
    List.cons (Prod.mk (nat_lit 15) { cls := Value.type "tuple", data := Data.seq #[Value.type "Exception"] }) <|
    List.cons (Prod.mk (nat_lit 22) { cls := Value.type "tuple", data := Data.seq #[] }) <|
    List.cons (Prod.mk (nat_lit 24) { cls := Value.type "tuple", data := Data.seq #[Value.str (Str.ofString "self") 204, Value.str (Str.ofString "message") 205] }) <|
    List.cons (Prod.mk (nat_lit 25) { cls := Value.type "tuple", data := Data.seq #[] }) <|
    List.cons (Prod.mk (nat_lit 27) { cls := Value.type "code", data := Data.fields #[Value.str (Str.ofString "__init__") 201, Value.str (Str.ofString "SwitchError.__init__") 202, Value.str (Str.ofString "/claim/cut.py") 203, Value.int 4 0, Value.int 2 0, Value.int 0 0, Value.int 0 0, Value.int 3 0, Value.ref 22, Value.bool true, Value.int 181 0, Value.ref 23, Value.none, Value.ref 24, Value.ref 25, Value.ref 26, Value.int 206 0, Value.int 4 0, Value.str (Str.ofString "/claim/cut.py") 207] }) <|
    List.cons (Prod.mk (nat_lit 28) { cls := Value.type "function", data := Data.func { name := Str.ofString "__init__", qualname := Str.ofString "SwitchError.__init__", params := p28, body := FuncBody.stmts b28, scope := s28, globals := 3, closure := [], defaults := Value.none, kwdefaults := Value.none, pyModule := Value.str (Str.ofString "switchloom.errors") 187, code := Value.ref 27 } }) <|
    List.cons (Prod.mk (nat_lit 29) { cls := Value.type "tuple", data := Data.seq #[Value.str (Str.ofString "message") 209] }) <|
    List.cons (Prod.mk (nat_lit 30) { cls := Value.type "dict", data := Data.dict #[{ hash := PyData.keyHash P (Str.ofString "__module__"), key := Value.str (Str.ofString "__module__") 196, val := Value.str (Str.ofString "switchloom.errors") 187 }, { hash := PyData.keyHash P (Str.ofString "__firstlineno__"), key := Value.str (Str.ofString "__firstlineno__") 200, val := Value.int 2 199 }, { hash := PyData.keyHash P (Str.ofString "__init__"), key := Value.str (Str.ofString "__init__") 208, val := Value.ref 28 }, { hash := PyData.keyHash P (Str.ofString "__static_attributes__"), key := Value.str (Str.ofString "__static_attributes__") 210, val := Value.ref 29 }, { hash := PyData.keyHash P (Str.ofString "__weakref__"), key := Value.str (Str.ofString "__weakref__") 212, val := Value.ref 32 }, { hash := PyData.keyHash P (Str.ofString "__doc__"), key := Value.str (Str.ofString "__doc__") 213, val := Value.none }] 3 }) <|
    List.cons (Prod.mk (nat_lit 31) { cls := Value.type "type", data := Data.cls { name := Str.ofString "SwitchError", bases := [Value.type "Exception"], mro := [Value.ref 31, Value.type "Exception", Value.type "BaseException", Value.type "object"], ns := 30, qualname := Str.ofString "SwitchError", subclasses := [Value.ref 44, Value.ref 56] }, slots := #[some (Value.ref 15), none, some (Value.str (Str.ofString "SwitchError") 189), some (Value.str (Str.ofString "SwitchError") 197), some (Value.builtin "Exception.__new__"), some (Value.bool true)] }) <|
    List.cons (Prod.mk (nat_lit 32) { cls := Value.type "getset_descriptor", data := Data.fields #[Value.str (Str.ofString "__weakref__") 211, Value.ref 31, Value.builtin "ExceptionGroup.__weakref__", Value.none] }) <|
    List.cons (Prod.mk (nat_lit 35) { cls := Value.type "tuple", data := Data.seq #[Value.ref 31] }) <|
    List.cons (Prod.mk (nat_lit 42) { cls := Value.type "tuple", data := Data.seq #[] }) <|
    List.cons (Prod.mk (nat_lit 43) { cls := Value.type "dict", data := Data.dict #[{ hash := PyData.keyHash P (Str.ofString "__module__"), key := Value.str (Str.ofString "__module__") 225, val := Value.str (Str.ofString "switchloom.errors") 187 }, { hash := PyData.keyHash P (Str.ofString "__firstlineno__"), key := Value.str (Str.ofString "__firstlineno__") 229, val := Value.int 7 228 }, { hash := PyData.keyHash P (Str.ofString "__static_attributes__"), key := Value.str (Str.ofString "__static_attributes__") 230, val := Value.ref 42 }, { hash := PyData.keyHash P (Str.ofString "__doc__"), key := Value.str (Str.ofString "__doc__") 231, val := Value.none }] 2 }) <|
    List.cons (Prod.mk (nat_lit 44) { cls := Value.type "type", data := Data.cls { name := Str.ofString "SizeError", bases := [Value.ref 31], mro := [Value.ref 44, Value.ref 31, Value.type "Exception", Value.type "BaseException", Value.type "object"], ns := 43, qualname := Str.ofString "SizeError" }, slots := #[some (Value.ref 35), none, some (Value.str (Str.ofString "SizeError") 218), some (Value.str (Str.ofString "SizeError") 226), some (Value.builtin "Exception.__new__"), some (Value.bool true)] }) <|
    List.cons (Prod.mk (nat_lit 47) { cls := Value.type "tuple", data := Data.seq #[Value.ref 31] }) <|
    List.cons (Prod.mk (nat_lit 54) { cls := Value.type "tuple", data := Data.seq #[] }) <|
    List.cons (Prod.mk (nat_lit 55) { cls := Value.type "dict", data := Data.dict #[{ hash := PyData.keyHash P (Str.ofString "__module__"), key := Value.str (Str.ofString "__module__") 241, val := Value.str (Str.ofString "switchloom.errors") 187 }, { hash := PyData.keyHash P (Str.ofString "__firstlineno__"), key := Value.str (Str.ofString "__firstlineno__") 245, val := Value.int 9 244 }, { hash := PyData.keyHash P (Str.ofString "__static_attributes__"), key := Value.str (Str.ofString "__static_attributes__") 246, val := Value.ref 54 }, { hash := PyData.keyHash P (Str.ofString "__doc__"), key := Value.str (Str.ofString "__doc__") 247, val := Value.none }] 2 }) <|
    List.cons (Prod.mk (nat_lit 56) { cls := Value.type "type", data := Data.cls { name := Str.ofString "TableError", bases := [Value.ref 31], mro := [Value.ref 56, Value.ref 31, Value.type "Exception", Value.type "BaseException", Value.type "object"], ns := 55, qualname := Str.ofString "TableError" }, slots := #[some (Value.ref 47), none, some (Value.str (Str.ofString "TableError") 234), some (Value.str (Str.ofString "TableError") 242), some (Value.builtin "Exception.__new__"), some (Value.bool true)] }) <|
    List.cons (Prod.mk (nat_lit 66) { cls := Value.type "tuple", data := Data.seq #[Value.bool false, Value.bool true, Value.int 1500 264] }) <|
    List.cons (Prod.mk (nat_lit 67) { cls := Value.type "tuple", data := Data.seq #[] }) <|
    List.cons (Prod.mk (nat_lit 69) { cls := Value.type "tuple", data := Data.seq #[Value.str (Str.ofString "self") 268, Value.str (Str.ofString "number") 269, Value.str (Str.ofString "speed") 270, Value.str (Str.ofString "is_up") 271, Value.str (Str.ofString "is_full") 272, Value.str (Str.ofString "mtu") 273] }) <|
    List.cons (Prod.mk (nat_lit 70) { cls := Value.type "tuple", data := Data.seq #[] }) <|
    List.cons (Prod.mk (nat_lit 72) { cls := Value.type "code", data := Data.fields #[Value.str (Str.ofString "__init__") 265, Value.str (Str.ofString "Port.__init__") 266, Value.str (Str.ofString "/claim/cut.py") 267, Value.int 14 0, Value.int 6 0, Value.int 0 0, Value.int 0 0, Value.int 3 0, Value.ref 67, Value.bool true, Value.int 181 0, Value.ref 68, Value.none, Value.ref 69, Value.ref 70, Value.ref 71, Value.int 274 0, Value.int 14 0, Value.str (Str.ofString "/claim/cut.py") 275] }) <|
    List.cons (Prod.mk (nat_lit 73) { cls := Value.type "function", data := Data.func { name := Str.ofString "__init__", qualname := Str.ofString "Port.__init__", params := p73, body := FuncBody.stmts b73, scope := s73, globals := 3, closure := [], defaults := Value.ref 66, kwdefaults := Value.none, pyModule := Value.str (Str.ofString "switchloom.ports") 250, code := Value.ref 72 } }) <|
    List.cons (Prod.mk (nat_lit 74) { cls := Value.type "tuple", data := Data.seq #[Value.str (Str.ofString "is_full") 277, Value.str (Str.ofString "is_up") 278, Value.str (Str.ofString "mtu") 279, Value.str (Str.ofString "number") 280, Value.str (Str.ofString "speed") 281] }) <|
    List.cons (Prod.mk (nat_lit 75) { cls := Value.type "dict", data := Data.dict #[{ hash := PyData.keyHash P (Str.ofString "__module__"), key := Value.str (Str.ofString "__module__") 259, val := Value.str (Str.ofString "switchloom.ports") 250 }, { hash := PyData.keyHash P (Str.ofString "__firstlineno__"), key := Value.str (Str.ofString "__firstlineno__") 263, val := Value.int 12 262 }, { hash := PyData.keyHash P (Str.ofString "__init__"), key := Value.str (Str.ofString "__init__") 276, val := Value.ref 73 }, { hash := PyData.keyHash P (Str.ofString "__static_attributes__"), key := Value.str (Str.ofString "__static_attributes__") 282, val := Value.ref 74 }, { hash := PyData.keyHash P (Str.ofString "__dict__"), key := Value.str (Str.ofString "__dict__") 284, val := Value.ref 77 }, { hash := PyData.keyHash P (Str.ofString "__weakref__"), key := Value.str (Str.ofString "__weakref__") 286, val := Value.ref 78 }, { hash := PyData.keyHash P (Str.ofString "__doc__"), key := Value.str (Str.ofString "__doc__") 287, val := Value.none }] 4 }) <|
    List.cons (Prod.mk (nat_lit 76) { cls := Value.type "type", data := Data.cls { name := Str.ofString "Port", bases := [Value.type "object"], mro := [Value.ref 76, Value.type "object"], ns := 75, qualname := Str.ofString "Port" }, slots := #[none, none, some (Value.str (Str.ofString "Port") 252), some (Value.str (Str.ofString "Port") 260), some (Value.builtin "object.__new__"), some (Value.bool true)] }) <|
    List.cons (Prod.mk (nat_lit 77) { cls := Value.type "getset_descriptor", data := Data.fields #[Value.str (Str.ofString "__dict__") 283, Value.ref 76, Value.builtin "function.__dict__", Value.builtin "function.__dict__#set"] }) <|
    List.cons (Prod.mk (nat_lit 78) { cls := Value.type "getset_descriptor", data := Data.fields #[Value.str (Str.ofString "__weakref__") 285, Value.ref 76, Value.builtin "ExceptionGroup.__weakref__", Value.none] }) <|
    List.cons (Prod.mk (nat_lit 88) { cls := Value.type "tuple", data := Data.seq #[] }) <|
    List.cons (Prod.mk (nat_lit 90) { cls := Value.type "tuple", data := Data.seq #[Value.str (Str.ofString "self") 305] }) <|
    List.cons (Prod.mk (nat_lit 91) { cls := Value.type "tuple", data := Data.seq #[] }) <|
    List.cons (Prod.mk (nat_lit 93) { cls := Value.type "code", data := Data.fields #[Value.str (Str.ofString "__init__") 302, Value.str (Str.ofString "LinkWatch.__init__") 303, Value.str (Str.ofString "/claim/cut.py") 304, Value.int 22 0, Value.int 1 0, Value.int 0 0, Value.int 0 0, Value.int 3 0, Value.ref 88, Value.bool true, Value.int 181 0, Value.ref 89, Value.none, Value.ref 90, Value.ref 91, Value.ref 92, Value.int 306 0, Value.int 22 0, Value.str (Str.ofString "/claim/cut.py") 307] }) <|
    List.cons (Prod.mk (nat_lit 94) { cls := Value.type "function", data := Data.func { name := Str.ofString "__init__", qualname := Str.ofString "LinkWatch.__init__", params := p94, body := FuncBody.stmts b94, scope := s94, globals := 3, closure := [], defaults := Value.none, kwdefaults := Value.none, pyModule := Value.str (Str.ofString "switchloom.ports") 250, code := Value.ref 93 } }) <|
    List.cons (Prod.mk (nat_lit 95) { cls := Value.type "tuple", data := Data.seq #[] }) <|
    List.cons (Prod.mk (nat_lit 97) { cls := Value.type "tuple", data := Data.seq #[Value.str (Str.ofString "self") 312, Value.str (Str.ofString "now") 313] }) <|
    List.cons (Prod.mk (nat_lit 98) { cls := Value.type "tuple", data := Data.seq #[] }) <|
    List.cons (Prod.mk (nat_lit 100) { cls := Value.type "code", data := Data.fields #[Value.str (Str.ofString "is_held") 309, Value.str (Str.ofString "LinkWatch.is_held") 310, Value.str (Str.ofString "/claim/cut.py") 311, Value.int 27 0, Value.int 2 0, Value.int 0 0, Value.int 0 0, Value.int 3 0, Value.ref 95, Value.bool true, Value.int 181 0, Value.ref 96, Value.none, Value.ref 97, Value.ref 98, Value.ref 99, Value.int 314 0, Value.int 27 0, Value.str (Str.ofString "/claim/cut.py") 315] }) <|
    List.cons (Prod.mk (nat_lit 101) { cls := Value.type "function", data := Data.func { name := Str.ofString "is_held", qualname := Str.ofString "LinkWatch.is_held", params := p101, body := FuncBody.stmts b101, scope := s101, globals := 3, closure := [], defaults := Value.none, kwdefaults := Value.none, pyModule := Value.str (Str.ofString "switchloom.ports") 250, code := Value.ref 100 } }) <|
    List.cons (Prod.mk (nat_lit 102) { cls := Value.type "tuple", data := Data.seq #[] }) <|
    List.cons (Prod.mk (nat_lit 105) { cls := Value.type "code", data := Data.fields #[Value.str (Str.ofString "recent") 317, Value.str (Str.ofString "LinkWatch.recent") 318, Value.str (Str.ofString "/claim/cut.py") 319, Value.int 30 0, Value.int 3 0, Value.int 0 0, Value.int 0 0, Value.int 3 0, Value.ref 102, Value.bool true, Value.int 181 0, Value.ref 103, Value.none, Value.none, Value.none, Value.ref 104, Value.int 320 0, Value.int 30 0, Value.str (Str.ofString "/claim/cut.py") 321] }) <|
    List.cons (Prod.mk (nat_lit 106) { cls := Value.type "function", data := Data.func { name := Str.ofString "recent", qualname := Str.ofString "LinkWatch.recent", params := p106, body := FuncBody.stmts b106, scope := s106, globals := 3, closure := [], defaults := Value.none, kwdefaults := Value.none, pyModule := Value.str (Str.ofString "switchloom.ports") 250, code := Value.ref 105 } }) <|
    List.cons (Prod.mk (nat_lit 107) { cls := Value.type "tuple", data := Data.seq #[Value.str (Str.ofString "held_until") 323, Value.str (Str.ofString "is_there") 324, Value.str (Str.ofString "ups") 325] }) <|
    List.cons (Prod.mk (nat_lit 108) { cls := Value.type "dict", data := Data.dict #[{ hash := PyData.keyHash P (Str.ofString "__module__"), key := Value.str (Str.ofString "__module__") 297, val := Value.str (Str.ofString "switchloom.ports") 250 }, { hash := PyData.keyHash P (Str.ofString "__firstlineno__"), key := Value.str (Str.ofString "__firstlineno__") 301, val := Value.int 20 300 }, { hash := PyData.keyHash P (Str.ofString "__init__"), key := Value.str (Str.ofString "__init__") 308, val := Value.ref 94 }, { hash := PyData.keyHash P (Str.ofString "is_held"), key := Value.str (Str.ofString "is_held") 316, val := Value.ref 101 }, { hash := PyData.keyHash P (Str.ofString "recent"), key := Value.str (Str.ofString "recent") 322, val := Value.ref 106 }, { hash := PyData.keyHash P (Str.ofString "__static_attributes__"), key := Value.str (Str.ofString "__static_attributes__") 326, val := Value.ref 107 }, { hash := PyData.keyHash P (Str.ofString "__dict__"), key := Value.str (Str.ofString "__dict__") 328, val := Value.ref 110 }, { hash := PyData.keyHash P (Str.ofString "__weakref__"), key := Value.str (Str.ofString "__weakref__") 330, val := Value.ref 111 }, { hash := PyData.keyHash P (Str.ofString "__doc__"), key := Value.str (Str.ofString "__doc__") 331, val := Value.none }] 4 }) <|
    List.cons (Prod.mk (nat_lit 109) { cls := Value.type "type", data := Data.cls { name := Str.ofString "LinkWatch", bases := [Value.type "object"], mro := [Value.ref 109, Value.type "object"], ns := 108, qualname := Str.ofString "LinkWatch" }, slots := #[none, none, some (Value.str (Str.ofString "LinkWatch") 290), some (Value.str (Str.ofString "LinkWatch") 298), some (Value.builtin "object.__new__"), some (Value.bool true)] }) <|
    List.cons (Prod.mk (nat_lit 110) { cls := Value.type "getset_descriptor", data := Data.fields #[Value.str (Str.ofString "__dict__") 327, Value.ref 109, Value.builtin "function.__dict__", Value.builtin "function.__dict__#set"] }) <|
    List.cons (Prod.mk (nat_lit 111) { cls := Value.type "getset_descriptor", data := Data.fields #[Value.str (Str.ofString "__weakref__") 329, Value.ref 109, Value.builtin "ExceptionGroup.__weakref__", Value.none] }) <|
    List.cons (Prod.mk (nat_lit 121) { cls := Value.type "tuple", data := Data.seq #[Value.none, Value.int 0 346, Value.int 0 347] }) <|
    List.cons (Prod.mk (nat_lit 122) { cls := Value.type "tuple", data := Data.seq #[] }) <|
    List.cons (Prod.mk (nat_lit 124) { cls := Value.type "tuple", data := Data.seq #[Value.str (Str.ofString "self") 351, Value.str (Str.ofString "most") 352, Value.str (Str.ofString "span") 353, Value.str (Str.ofString "hold") 354] }) <|
    List.cons (Prod.mk (nat_lit 125) { cls := Value.type "tuple", data := Data.seq #[] }) <|
    List.cons (Prod.mk (nat_lit 127) { cls := Value.type "code", data := Data.fields #[Value.str (Str.ofString "__init__") 348, Value.str (Str.ofString "Ports.__init__") 349, Value.str (Str.ofString "/claim/cut.py") 350, Value.int 35 0, Value.int 4 0, Value.int 0 0, Value.int 0 0, Value.int 3 0, Value.ref 122, Value.bool true, Value.int 181 0, Value.ref 123, Value.none, Value.ref 124, Value.ref 125, Value.ref 126, Value.int 355 0, Value.int 35 0, Value.str (Str.ofString "/claim/cut.py") 356] }) <|
    List.cons (Prod.mk (nat_lit 128) { cls := Value.type "function", data := Data.func { name := Str.ofString "__init__", qualname := Str.ofString "Ports.__init__", params := p128, body := FuncBody.stmts b128, scope := s128, globals := 3, closure := [], defaults := Value.ref 121, kwdefaults := Value.none, pyModule := Value.str (Str.ofString "switchloom.ports") 250, code := Value.ref 127 } }) <|
    List.cons (Prod.mk (nat_lit 129) { cls := Value.type "tuple", data := Data.seq #[] }) <|
    List.cons (Prod.mk (nat_lit 131) { cls := Value.type "tuple", data := Data.seq #[Value.str (Str.ofString "self") 361, Value.str (Str.ofString "port") 362] }) <|
    List.cons (Prod.mk (nat_lit 132) { cls := Value.type "tuple", data := Data.seq #[] }) <|
    List.cons (Prod.mk (nat_lit 134) { cls := Value.type "code", data := Data.fields #[Value.str (Str.ofString "add") 358, Value.str (Str.ofString "Ports.add") 359, Value.str (Str.ofString "/claim/cut.py") 360, Value.int 43 0, Value.int 2 0, Value.int 0 0, Value.int 0 0, Value.int 3 0, Value.ref 129, Value.bool true, Value.int 181 0, Value.ref 130, Value.none, Value.ref 131, Value.ref 132, Value.ref 133, Value.int 363 0, Value.int 43 0, Value.str (Str.ofString "/claim/cut.py") 364] }) <|
    List.cons (Prod.mk (nat_lit 135) { cls := Value.type "function", data := Data.func { name := Str.ofString "add", qualname := Str.ofString "Ports.add", params := p135, body := FuncBody.stmts b135, scope := s135, globals := 3, closure := [], defaults := Value.none, kwdefaults := Value.none, pyModule := Value.str (Str.ofString "switchloom.ports") 250, code := Value.ref 134 } }) <|
    List.cons (Prod.mk (nat_lit 136) { cls := Value.type "tuple", data := Data.seq #[] }) <|
    List.cons (Prod.mk (nat_lit 138) { cls := Value.type "tuple", data := Data.seq #[Value.str (Str.ofString "self") 369, Value.str (Str.ofString "number") 370] }) <|
    List.cons (Prod.mk (nat_lit 139) { cls := Value.type "tuple", data := Data.seq #[] }) <|
    List.cons (Prod.mk (nat_lit 141) { cls := Value.type "code", data := Data.fields #[Value.str (Str.ofString "port") 366, Value.str (Str.ofString "Ports.port") 367, Value.str (Str.ofString "/claim/cut.py") 368, Value.int 52 0, Value.int 2 0, Value.int 0 0, Value.int 0 0, Value.int 3 0, Value.ref 136, Value.bool true, Value.int 181 0, Value.ref 137, Value.none, Value.ref 138, Value.ref 139, Value.ref 140, Value.int 371 0, Value.int 52 0, Value.str (Str.ofString "/claim/cut.py") 372] }) <|
    List.cons (Prod.mk (nat_lit 142) { cls := Value.type "function", data := Data.func { name := Str.ofString "port", qualname := Str.ofString "Ports.port", params := p142, body := FuncBody.stmts b142, scope := s142, globals := 3, closure := [], defaults := Value.none, kwdefaults := Value.none, pyModule := Value.str (Str.ofString "switchloom.ports") 250, code := Value.ref 141 } }) <|
    List.cons (Prod.mk (nat_lit 143) { cls := Value.type "tuple", data := Data.seq #[] }) <|
    List.cons (Prod.mk (nat_lit 145) { cls := Value.type "tuple", data := Data.seq #[Value.str (Str.ofString "self") 377] }) <|
    List.cons (Prod.mk (nat_lit 146) { cls := Value.type "tuple", data := Data.seq #[] }) <|
    List.cons (Prod.mk (nat_lit 148) { cls := Value.type "code", data := Data.fields #[Value.str (Str.ofString "numbers") 374, Value.str (Str.ofString "Ports.numbers") 375, Value.str (Str.ofString "/claim/cut.py") 376, Value.int 57 0, Value.int 1 0, Value.int 0 0, Value.int 0 0, Value.int 3 0, Value.ref 143, Value.bool true, Value.int 181 0, Value.ref 144, Value.none, Value.ref 145, Value.ref 146, Value.ref 147, Value.int 378 0, Value.int 57 0, Value.str (Str.ofString "/claim/cut.py") 379] }) <|
    List.cons (Prod.mk (nat_lit 149) { cls := Value.type "function", data := Data.func { name := Str.ofString "numbers", qualname := Str.ofString "Ports.numbers", params := p149, body := FuncBody.stmts b149, scope := s149, globals := 3, closure := [], defaults := Value.none, kwdefaults := Value.none, pyModule := Value.str (Str.ofString "switchloom.ports") 250, code := Value.ref 148 } }) <|
    List.cons (Prod.mk (nat_lit 150) { cls := Value.type "tuple", data := Data.seq #[] }) <|
    List.cons (Prod.mk (nat_lit 152) { cls := Value.type "tuple", data := Data.seq #[Value.str (Str.ofString "self") 384, Value.str (Str.ofString "number") 385, Value.str (Str.ofString "is_up") 386] }) <|
    List.cons (Prod.mk (nat_lit 153) { cls := Value.type "tuple", data := Data.seq #[] }) <|
    List.cons (Prod.mk (nat_lit 155) { cls := Value.type "code", data := Data.fields #[Value.str (Str.ofString "turn") 381, Value.str (Str.ofString "Ports.turn") 382, Value.str (Str.ofString "/claim/cut.py") 383, Value.int 60 0, Value.int 3 0, Value.int 0 0, Value.int 0 0, Value.int 3 0, Value.ref 150, Value.bool true, Value.int 181 0, Value.ref 151, Value.none, Value.ref 152, Value.ref 153, Value.ref 154, Value.int 387 0, Value.int 60 0, Value.str (Str.ofString "/claim/cut.py") 388] }) <|
    List.cons (Prod.mk (nat_lit 156) { cls := Value.type "function", data := Data.func { name := Str.ofString "turn", qualname := Str.ofString "Ports.turn", params := p156, body := FuncBody.stmts b156, scope := s156, globals := 3, closure := [], defaults := Value.none, kwdefaults := Value.none, pyModule := Value.str (Str.ofString "switchloom.ports") 250, code := Value.ref 155 } }) <|
    List.cons (Prod.mk (nat_lit 157) { cls := Value.type "tuple", data := Data.seq #[] }) <|
    List.cons (Prod.mk (nat_lit 159) { cls := Value.type "tuple", data := Data.seq #[Value.str (Str.ofString "self") 393, Value.str (Str.ofString "number") 394, Value.str (Str.ofString "now") 395, Value.str (Str.ofString "port") 396, Value.str (Str.ofString "watch") 397] }) <|
    List.cons (Prod.mk (nat_lit 160) { cls := Value.type "tuple", data := Data.seq #[] }) <|
    List.cons (Prod.mk (nat_lit 162) { cls := Value.type "code", data := Data.fields #[Value.str (Str.ofString "up") 390, Value.str (Str.ofString "Ports.up") 391, Value.str (Str.ofString "/claim/cut.py") 392, Value.int 64 0, Value.int 3 0, Value.int 0 0, Value.int 0 0, Value.int 3 0, Value.ref 157, Value.bool true, Value.int 181 0, Value.ref 158, Value.none, Value.ref 159, Value.ref 160, Value.ref 161, Value.int 398 0, Value.int 64 0, Value.str (Str.ofString "/claim/cut.py") 399] }) <|
    List.cons (Prod.mk (nat_lit 163) { cls := Value.type "function", data := Data.func { name := Str.ofString "up", qualname := Str.ofString "Ports.up", params := p163, body := FuncBody.stmts b163, scope := s163, globals := 3, closure := [], defaults := Value.none, kwdefaults := Value.none, pyModule := Value.str (Str.ofString "switchloom.ports") 250, code := Value.ref 162 } }) <|
    List.cons (Prod.mk (nat_lit 164) { cls := Value.type "tuple", data := Data.seq #[] }) <|
    List.cons (Prod.mk (nat_lit 166) { cls := Value.type "tuple", data := Data.seq #[Value.str (Str.ofString "self") 404, Value.str (Str.ofString "number") 405, Value.str (Str.ofString "port") 406] }) <|
    List.cons (Prod.mk (nat_lit 167) { cls := Value.type "tuple", data := Data.seq #[] }) <|
    List.cons (Prod.mk (nat_lit 169) { cls := Value.type "code", data := Data.fields #[Value.str (Str.ofString "down") 401, Value.str (Str.ofString "Ports.down") 402, Value.str (Str.ofString "/claim/cut.py") 403, Value.int 80 0, Value.int 2 0, Value.int 0 0, Value.int 0 0, Value.int 3 0, Value.ref 164, Value.bool true, Value.int 181 0, Value.ref 165, Value.none, Value.ref 166, Value.ref 167, Value.ref 168, Value.int 407 0, Value.int 80 0, Value.str (Str.ofString "/claim/cut.py") 408] }) <|
    List.cons (Prod.mk (nat_lit 170) { cls := Value.type "function", data := Data.func { name := Str.ofString "down", qualname := Str.ofString "Ports.down", params := p170, body := FuncBody.stmts b170, scope := s170, globals := 3, closure := [], defaults := Value.none, kwdefaults := Value.none, pyModule := Value.str (Str.ofString "switchloom.ports") 250, code := Value.ref 169 } }) <|
    List.cons (Prod.mk (nat_lit 171) { cls := Value.type "tuple", data := Data.seq #[] }) <|
    List.cons (Prod.mk (nat_lit 173) { cls := Value.type "tuple", data := Data.seq #[Value.str (Str.ofString "self") 413, Value.str (Str.ofString "now") 414, Value.str (Str.ofString "found") 415, Value.str (Str.ofString "number") 416, Value.str (Str.ofString "watch") 417] }) <|
    List.cons (Prod.mk (nat_lit 174) { cls := Value.type "tuple", data := Data.seq #[] }) <|
    List.cons (Prod.mk (nat_lit 176) { cls := Value.type "code", data := Data.fields #[Value.str (Str.ofString "expire") 410, Value.str (Str.ofString "Ports.expire") 411, Value.str (Str.ofString "/claim/cut.py") 412, Value.int 88 0, Value.int 2 0, Value.int 0 0, Value.int 0 0, Value.int 3 0, Value.ref 171, Value.bool true, Value.int 181 0, Value.ref 172, Value.none, Value.ref 173, Value.ref 174, Value.ref 175, Value.int 418 0, Value.int 88 0, Value.str (Str.ofString "/claim/cut.py") 419] }) <|
    List.cons (Prod.mk (nat_lit 177) { cls := Value.type "function", data := Data.func { name := Str.ofString "expire", qualname := Str.ofString "Ports.expire", params := p177, body := FuncBody.stmts b177, scope := s177, globals := 3, closure := [], defaults := Value.none, kwdefaults := Value.none, pyModule := Value.str (Str.ofString "switchloom.ports") 250, code := Value.ref 176 } }) <|
    List.cons (Prod.mk (nat_lit 178) { cls := Value.type "tuple", data := Data.seq #[] }) <|
    List.cons (Prod.mk (nat_lit 180) { cls := Value.type "tuple", data := Data.seq #[Value.str (Str.ofString "self") 424, Value.str (Str.ofString "found") 425] }) <|
    List.cons (Prod.mk (nat_lit 181) { cls := Value.type "tuple", data := Data.seq #[] }) <|
    List.cons (Prod.mk (nat_lit 183) { cls := Value.type "code", data := Data.fields #[Value.str (Str.ofString "changes") 421, Value.str (Str.ofString "Ports.changes") 422, Value.str (Str.ofString "/claim/cut.py") 423, Value.int 100 0, Value.int 1 0, Value.int 0 0, Value.int 0 0, Value.int 3 0, Value.ref 178, Value.bool true, Value.int 181 0, Value.ref 179, Value.none, Value.ref 180, Value.ref 181, Value.ref 182, Value.int 426 0, Value.int 100 0, Value.str (Str.ofString "/claim/cut.py") 427] }) <|
    List.cons (Prod.mk (nat_lit 184) { cls := Value.type "function", data := Data.func { name := Str.ofString "changes", qualname := Str.ofString "Ports.changes", params := p184, body := FuncBody.stmts b184, scope := s184, globals := 3, closure := [], defaults := Value.none, kwdefaults := Value.none, pyModule := Value.str (Str.ofString "switchloom.ports") 250, code := Value.ref 183 } }) <|
    List.cons (Prod.mk (nat_lit 185) { cls := Value.type "tuple", data := Data.seq #[Value.str (Str.ofString "changed") 429, Value.str (Str.ofString "hold") 430, Value.str (Str.ofString "most") 431, Value.str (Str.ofString "rows") 432, Value.str (Str.ofString "span") 433, Value.str (Str.ofString "watches") 434] }) <|
    List.cons (Prod.mk (nat_lit 186) { cls := Value.type "dict", data := Data.dict #[{ hash := PyData.keyHash P (Str.ofString "__module__"), key := Value.str (Str.ofString "__module__") 341, val := Value.str (Str.ofString "switchloom.ports") 250 }, { hash := PyData.keyHash P (Str.ofString "__firstlineno__"), key := Value.str (Str.ofString "__firstlineno__") 345, val := Value.int 33 344 }, { hash := PyData.keyHash P (Str.ofString "__init__"), key := Value.str (Str.ofString "__init__") 357, val := Value.ref 128 }, { hash := PyData.keyHash P (Str.ofString "add"), key := Value.str (Str.ofString "add") 365, val := Value.ref 135 }, { hash := PyData.keyHash P (Str.ofString "port"), key := Value.str (Str.ofString "port") 373, val := Value.ref 142 }, { hash := PyData.keyHash P (Str.ofString "numbers"), key := Value.str (Str.ofString "numbers") 380, val := Value.ref 149 }, { hash := PyData.keyHash P (Str.ofString "turn"), key := Value.str (Str.ofString "turn") 389, val := Value.ref 156 }, { hash := PyData.keyHash P (Str.ofString "up"), key := Value.str (Str.ofString "up") 400, val := Value.ref 163 }, { hash := PyData.keyHash P (Str.ofString "down"), key := Value.str (Str.ofString "down") 409, val := Value.ref 170 }, { hash := PyData.keyHash P (Str.ofString "expire"), key := Value.str (Str.ofString "expire") 420, val := Value.ref 177 }, { hash := PyData.keyHash P (Str.ofString "changes"), key := Value.str (Str.ofString "changes") 428, val := Value.ref 184 }, { hash := PyData.keyHash P (Str.ofString "__static_attributes__"), key := Value.str (Str.ofString "__static_attributes__") 435, val := Value.ref 185 }, { hash := PyData.keyHash P (Str.ofString "__dict__"), key := Value.str (Str.ofString "__dict__") 437, val := Value.ref 188 }, { hash := PyData.keyHash P (Str.ofString "__weakref__"), key := Value.str (Str.ofString "__weakref__") 439, val := Value.ref 189 }, { hash := PyData.keyHash P (Str.ofString "__doc__"), key := Value.str (Str.ofString "__doc__") 440, val := Value.none }] 4 }) <|
    List.cons (Prod.mk (nat_lit 187) { cls := Value.type "type", data := Data.cls { name := Str.ofString "Ports", bases := [Value.type "object"], mro := [Value.ref 187, Value.type "object"], ns := 186, qualname := Str.ofString "Ports" }, slots := #[none, none, some (Value.str (Str.ofString "Ports") 334), some (Value.str (Str.ofString "Ports") 342), some (Value.builtin "object.__new__"), some (Value.bool true)] }) <|
    List.cons (Prod.mk (nat_lit 188) { cls := Value.type "getset_descriptor", data := Data.fields #[Value.str (Str.ofString "__dict__") 436, Value.ref 187, Value.builtin "function.__dict__", Value.builtin "function.__dict__#set"] }) <|
    List.cons (Prod.mk (nat_lit 189) { cls := Value.type "getset_descriptor", data := Data.fields #[Value.str (Str.ofString "__weakref__") 438, Value.ref 187, Value.builtin "ExceptionGroup.__weakref__", Value.none] }) <|
    List.cons (Prod.mk (nat_lit 192) { cls := Value.type "tuple", data := Data.seq #[] }) <|
    List.cons (Prod.mk (nat_lit 194) { cls := Value.type "tuple", data := Data.seq #[Value.str (Str.ofString "script") 448, Value.str (Str.ofString "k") 449, Value.str (Str.ofString "cell") 450, Value.str (Str.ofString "size") 451, Value.str (Str.ofString "stirred") 452] }) <|
    List.cons (Prod.mk (nat_lit 195) { cls := Value.type "tuple", data := Data.seq #[] }) <|
    List.cons (Prod.mk (nat_lit 197) { cls := Value.type "code", data := Data.fields #[Value.str (Str.ofString "_law_pool") 445, Value.str (Str.ofString "_law_pool") 446, Value.str (Str.ofString "/claim/cut.py") 447, Value.int 105 0, Value.int 2 0, Value.int 0 0, Value.int 0 0, Value.int 3 0, Value.ref 192, Value.bool true, Value.int 181 0, Value.ref 193, Value.none, Value.ref 194, Value.ref 195, Value.ref 196, Value.int 453 0, Value.int 105 0, Value.str (Str.ofString "/claim/cut.py") 454] }) <|
    List.cons (Prod.mk (nat_lit 198) { cls := Value.type "function", data := Data.func { name := Str.ofString "_law_pool", qualname := Str.ofString "_law_pool", params := p198, body := FuncBody.stmts b198, scope := s198, globals := 3, closure := [], defaults := Value.none, kwdefaults := Value.none, pyModule := Value.str (Str.ofString "law_pb0539_01") 443, code := Value.ref 197 } }) <|
    List.cons (Prod.mk (nat_lit 199) { cls := Value.type "tuple", data := Data.seq #[] }) <|
    List.cons (Prod.mk (nat_lit 201) { cls := Value.type "tuple", data := Data.seq #[Value.str (Str.ofString "source") 459, Value.str (Str.ofString "top") 460, Value.str (Str.ofString "drawn") 461] }) <|
    List.cons (Prod.mk (nat_lit 202) { cls := Value.type "tuple", data := Data.seq #[] }) <|
    List.cons (Prod.mk (nat_lit 204) { cls := Value.type "code", data := Data.fields #[Value.str (Str.ofString "_law_take") 456, Value.str (Str.ofString "_law_take") 457, Value.str (Str.ofString "/claim/cut.py") 458, Value.int 110 0, Value.int 2 0, Value.int 0 0, Value.int 0 0, Value.int 3 0, Value.ref 199, Value.bool true, Value.int 181 0, Value.ref 200, Value.none, Value.ref 201, Value.ref 202, Value.ref 203, Value.int 462 0, Value.int 110 0, Value.str (Str.ofString "/claim/cut.py") 463] }) <|
    List.cons (Prod.mk (nat_lit 205) { cls := Value.type "function", data := Data.func { name := Str.ofString "_law_take", qualname := Str.ofString "_law_take", params := p205, body := FuncBody.stmts b205, scope := s205, globals := 3, closure := [], defaults := Value.none, kwdefaults := Value.none, pyModule := Value.str (Str.ofString "law_pb0539_01") 443, code := Value.ref 204 } }) <|
    List.cons (Prod.mk (nat_lit 206) { cls := Value.type "tuple", data := Data.seq #[] }) <|
    List.cons (Prod.mk (nat_lit 208) { cls := Value.type "tuple", data := Data.seq #[Value.str (Str.ofString "source") 468, Value.str (Str.ofString "things") 469] }) <|
    List.cons (Prod.mk (nat_lit 209) { cls := Value.type "tuple", data := Data.seq #[] }) <|
    List.cons (Prod.mk (nat_lit 211) { cls := Value.type "code", data := Data.fields #[Value.str (Str.ofString "_law_one") 465, Value.str (Str.ofString "_law_one") 466, Value.str (Str.ofString "/claim/cut.py") 467, Value.int 117 0, Value.int 2 0, Value.int 0 0, Value.int 0 0, Value.int 3 0, Value.ref 206, Value.bool true, Value.int 181 0, Value.ref 207, Value.none, Value.ref 208, Value.ref 209, Value.ref 210, Value.int 470 0, Value.int 117 0, Value.str (Str.ofString "/claim/cut.py") 471] }) <|
    List.cons (Prod.mk (nat_lit 212) { cls := Value.type "function", data := Data.func { name := Str.ofString "_law_one", qualname := Str.ofString "_law_one", params := p212, body := FuncBody.stmts b212, scope := s212, globals := 3, closure := [], defaults := Value.none, kwdefaults := Value.none, pyModule := Value.str (Str.ofString "law_pb0539_01") 443, code := Value.ref 211 } }) <|
    List.cons (Prod.mk (nat_lit 213) { cls := Value.type "tuple", data := Data.seq #[] }) <|
    List.cons (Prod.mk (nat_lit 215) { cls := Value.type "tuple", data := Data.seq #[Value.str (Str.ofString "call") 476] }) <|
    List.cons (Prod.mk (nat_lit 216) { cls := Value.type "tuple", data := Data.seq #[] }) <|
    List.cons (Prod.mk (nat_lit 218) { cls := Value.type "code", data := Data.fields #[Value.str (Str.ofString "_law_refused") 473, Value.str (Str.ofString "_law_refused") 474, Value.str (Str.ofString "/claim/cut.py") 475, Value.int 119 0, Value.int 1 0, Value.int 0 0, Value.int 0 0, Value.int 3 0, Value.ref 213, Value.bool true, Value.int 181 0, Value.ref 214, Value.none, Value.ref 215, Value.ref 216, Value.ref 217, Value.int 477 0, Value.int 119 0, Value.str (Str.ofString "/claim/cut.py") 478] }) <|
    List.cons (Prod.mk (nat_lit 219) { cls := Value.type "function", data := Data.func { name := Str.ofString "_law_refused", qualname := Str.ofString "_law_refused", params := p219, body := FuncBody.stmts b219, scope := s219, globals := 3, closure := [], defaults := Value.none, kwdefaults := Value.none, pyModule := Value.str (Str.ofString "law_pb0539_01") 443, code := Value.ref 218 } }) <|
    List.cons (Prod.mk (nat_lit 220) { cls := Value.type "tuple", data := Data.seq #[] }) <|
    List.cons (Prod.mk (nat_lit 223) { cls := Value.type "code", data := Data.fields #[Value.str (Str.ofString "_law_rows") 480, Value.str (Str.ofString "_law_rows") 481, Value.str (Str.ofString "/claim/cut.py") 482, Value.int 127 0, Value.int 1 0, Value.int 0 0, Value.int 0 0, Value.int 3 0, Value.ref 220, Value.bool true, Value.int 181 0, Value.ref 221, Value.none, Value.none, Value.none, Value.ref 222, Value.int 483 0, Value.int 127 0, Value.str (Str.ofString "/claim/cut.py") 484] }) <|
    List.cons (Prod.mk (nat_lit 224) { cls := Value.type "function", data := Data.func { name := Str.ofString "_law_rows", qualname := Str.ofString "_law_rows", params := p224, body := FuncBody.stmts b224, scope := s224, globals := 3, closure := [], defaults := Value.none, kwdefaults := Value.none, pyModule := Value.str (Str.ofString "law_pb0539_01") 443, code := Value.ref 223 } }) <|
    List.cons (Prod.mk (nat_lit 225) { cls := Value.type "tuple", data := Data.seq #[] }) <|
    List.cons (Prod.mk (nat_lit 228) { cls := Value.type "code", data := Data.fields #[Value.str (Str.ofString "_law_up") 486, Value.str (Str.ofString "_law_up") 487, Value.str (Str.ofString "/claim/cut.py") 488, Value.int 129 0, Value.int 5 0, Value.int 0 0, Value.int 0 0, Value.int 3 0, Value.ref 225, Value.bool true, Value.int 181 0, Value.ref 226, Value.none, Value.none, Value.none, Value.ref 227, Value.int 489 0, Value.int 129 0, Value.str (Str.ofString "/claim/cut.py") 490] }) <|
    List.cons (Prod.mk (nat_lit 229) { cls := Value.type "function", data := Data.func { name := Str.ofString "_law_up", qualname := Str.ofString "_law_up", params := p229, body := FuncBody.stmts b229, scope := s229, globals := 3, closure := [], defaults := Value.none, kwdefaults := Value.none, pyModule := Value.str (Str.ofString "law_pb0539_01") 443, code := Value.ref 228 } }) <|
    List.cons (Prod.mk (nat_lit 230) { cls := Value.type "tuple", data := Data.seq #[] }) <|
    List.cons (Prod.mk (nat_lit 232) { cls := Value.type "tuple", data := Data.seq #[Value.str (Str.ofString "row") 495, Value.str (Str.ofString "was_up") 496] }) <|
    List.cons (Prod.mk (nat_lit 233) { cls := Value.type "tuple", data := Data.seq #[] }) <|
    List.cons (Prod.mk (nat_lit 235) { cls := Value.type "code", data := Data.fields #[Value.str (Str.ofString "_law_down") 492, Value.str (Str.ofString "_law_down") 493, Value.str (Str.ofString "/claim/cut.py") 494, Value.int 141 0, Value.int 1 0, Value.int 0 0, Value.int 0 0, Value.int 3 0, Value.ref 230, Value.bool true, Value.int 181 0, Value.ref 231, Value.none, Value.ref 232, Value.ref 233, Value.ref 234, Value.int 497 0, Value.int 141 0, Value.str (Str.ofString "/claim/cut.py") 498] }) <|
    List.cons (Prod.mk (nat_lit 236) { cls := Value.type "function", data := Data.func { name := Str.ofString "_law_down", qualname := Str.ofString "_law_down", params := p236, body := FuncBody.stmts b236, scope := s236, globals := 3, closure := [], defaults := Value.none, kwdefaults := Value.none, pyModule := Value.str (Str.ofString "law_pb0539_01") 443, code := Value.ref 235 } }) <|
    List.cons (Prod.mk (nat_lit 237) { cls := Value.type "tuple", data := Data.seq #[] }) <|
    List.cons (Prod.mk (nat_lit 239) { cls := Value.type "tuple", data := Data.seq #[Value.str (Str.ofString "rows") 503, Value.str (Str.ofString "now") 504, Value.str (Str.ofString "found") 505, Value.str (Str.ofString "number") 506, Value.str (Str.ofString "row") 507] }) <|
    List.cons (Prod.mk (nat_lit 240) { cls := Value.type "tuple", data := Data.seq #[] }) <|
    List.cons (Prod.mk (nat_lit 242) { cls := Value.type "code", data := Data.fields #[Value.str (Str.ofString "_law_let_go") 500, Value.str (Str.ofString "_law_let_go") 501, Value.str (Str.ofString "/claim/cut.py") 502, Value.int 144 0, Value.int 2 0, Value.int 0 0, Value.int 0 0, Value.int 3 0, Value.ref 237, Value.bool true, Value.int 181 0, Value.ref 238, Value.none, Value.ref 239, Value.ref 240, Value.ref 241, Value.int 508 0, Value.int 144 0, Value.str (Str.ofString "/claim/cut.py") 509] }) <|
    List.cons (Prod.mk (nat_lit 243) { cls := Value.type "function", data := Data.func { name := Str.ofString "_law_let_go", qualname := Str.ofString "_law_let_go", params := p243, body := FuncBody.stmts b243, scope := s243, globals := 3, closure := [], defaults := Value.none, kwdefaults := Value.none, pyModule := Value.str (Str.ofString "law_pb0539_01") 443, code := Value.ref 242 } }) <|
    List.cons (Prod.mk (nat_lit 244) { cls := Value.type "tuple", data := Data.seq #[] }) <|
    List.cons (Prod.mk (nat_lit 247) { cls := Value.type "code", data := Data.fields #[Value.str (Str.ofString "_law_deed_right") 511, Value.str (Str.ofString "_law_deed_right") 512, Value.str (Str.ofString "/claim/cut.py") 513, Value.int 154 0, Value.int 6 0, Value.int 0 0, Value.int 0 0, Value.int 3 0, Value.ref 244, Value.bool true, Value.int 181 0, Value.ref 245, Value.none, Value.none, Value.none, Value.ref 246, Value.int 514 0, Value.int 154 0, Value.str (Str.ofString "/claim/cut.py") 515] }) <|
    List.cons (Prod.mk (nat_lit 248) { cls := Value.type "function", data := Data.func { name := Str.ofString "_law_deed_right", qualname := Str.ofString "_law_deed_right", params := p248, body := FuncBody.stmts b248, scope := s248, globals := 3, closure := [], defaults := Value.none, kwdefaults := Value.none, pyModule := Value.str (Str.ofString "law_pb0539_01") 443, code := Value.ref 247 } }) <|
    List.cons (Prod.mk (nat_lit 249) { cls := Value.type "tuple", data := Data.seq #[] }) <|
    List.cons (Prod.mk (nat_lit 251) { cls := Value.type "tuple", data := Data.seq #[Value.str (Str.ofString "ports") 520, Value.str (Str.ofString "told") 521, Value.str (Str.ofString "now") 522] }) <|
    List.cons (Prod.mk (nat_lit 252) { cls := Value.type "tuple", data := Data.seq #[] }) <|
    List.cons (Prod.mk (nat_lit 254) { cls := Value.type "code", data := Data.fields #[Value.str (Str.ofString "_law_fixed_right") 517, Value.str (Str.ofString "_law_fixed_right") 518, Value.str (Str.ofString "/claim/cut.py") 519, Value.int 171 0, Value.int 0 0, Value.int 0 0, Value.int 0 0, Value.int 3 0, Value.ref 249, Value.bool true, Value.int 181 0, Value.ref 250, Value.none, Value.ref 251, Value.ref 252, Value.ref 253, Value.int 523 0, Value.int 171 0, Value.str (Str.ofString "/claim/cut.py") 524] }) <|
    List.cons (Prod.mk (nat_lit 255) { cls := Value.type "function", data := Data.func { name := Str.ofString "_law_fixed_right", qualname := Str.ofString "_law_fixed_right", params := p255, body := FuncBody.stmts b255, scope := s255, globals := 3, closure := [], defaults := Value.none, kwdefaults := Value.none, pyModule := Value.str (Str.ofString "law_pb0539_01") 443, code := Value.ref 254 } }) <|
    List.cons (Prod.mk (nat_lit 256) { cls := Value.type "tuple", data := Data.seq #[] }) <|
    List.cons (Prod.mk (nat_lit 259) { cls := Value.type "code", data := Data.fields #[Value.str (Str.ofString "law") 526, Value.str (Str.ofString "law") 527, Value.str (Str.ofString "/claim/cut.py") 528, Value.int 180 0, Value.int 1 0, Value.int 0 0, Value.int 0 0, Value.int 3 0, Value.ref 256, Value.bool true, Value.int 181 0, Value.ref 257, Value.none, Value.none, Value.none, Value.ref 258, Value.int 529 0, Value.int 180 0, Value.str (Str.ofString "/claim/cut.py") 530] }) <|
    List.cons (Prod.mk (nat_lit 260) { cls := Value.type "function", data := Data.func { name := Str.ofString "law", qualname := Str.ofString "law", params := p260, body := FuncBody.stmts b260, scope := s260, globals := 3, closure := [], defaults := Value.none, kwdefaults := Value.none, pyModule := Value.str (Str.ofString "law_pb0539_01") 443, code := Value.ref 259 } }) <| @List.nil (Nat × Obj)
noncomputable def hd.view_39 : Program := view PySem.Challenge.pw_pb0539_01 [1, 2, 3, 5, 6, 7, 9, 10, 11, 12, 13, 14, 15, 16, 17, 18, 19]
theorem hd.at : ∀ P, [2, 3, 15, 22, 24, 25, 27, 28, 29, 30, 31, 32, 35, 42, 43, 44, 47, 54, 55, 56, 66, 67, 69, 70, 72, 73, 74, 75, 76, 77, 78, 88, 90, 91, 93, 94, 95, 97, 98, 100, 101, 102, 105, 106, 107, 108, 109, 110, 111, 121, 122, 124, 125, 127, 128, 129, 131, 132, 134, 135, 136, 138, 139, 141, 142, 143, 145, 146, 148, 149, 150, 152, 153, 155, 156, 157, 159, 160, 162, 163, 164, 166, 167, 169, 170, 171, 173, 174, 176, 177, 178, 180, 181, 183, 184, 185, 186, 187, 188, 189, 192, 194, 195, 197, 198, 199, 201, 202, 204, 205, 206, 208, 209, 211, 212, 213, 215, 216, 218, 219, 220, 223, 224, 225, 228, 229, 230, 232, 233, 235, 236, 237, 239, 240, 242, 243, 244, 247, 248, 249, 251, 252, 254, 255, 256, 259, 260] = (hd.heap_39 P).map (·.1) := fun _ => by kernel_rfl
noncomputable abbrev hd.hook : Hook := kmHook hd.heap_39 [2, 3, 15, 22, 24, 25, 27, 28, 29, 30, 31, 32, 35, 42, 43, 44, 47, 54, 55, 56, 66, 67, 69, 70, 72, 73, 74, 75, 76, 77, 78, 88, 90, 91, 93, 94, 95, 97, 98, 100, 101, 102, 105, 106, 107, 108, 109, 110, 111, 121, 122, 124, 125, 127, 128, 129, 131, 132, 134, 135, 136, 138, 139, 141, 142, 143, 145, 146, 148, 149, 150, 152, 153, 155, 156, 157, 159, 160, 162, 163, 164, 166, 167, 169, 170, 171, 173, 174, 176, 177, 178, 180, 181, 183, 184, 185, 186, 187, 188, 189, 192, 194, 195, 197, 198, 199, 201, 202, 204, 205, 206, 208, 209, 211, 212, 213, 215, 216, 218, 219, 220, 223, 224, 225, 228, 229, 230, 232, 233, 235, 236, 237, 239, 240, 242, 243, 244, 247, 248, 249, 251, 252, 254, 255, 256, 259, 260] hd.at [257]
theorem hd.left : LeftO PySem.Challenge.rw_pb0539_01.row.prog hd.view_39 [] (fun s => xlAt hd.view_39 [] s && recOk (RowW.records PySem.Challenge.rw_pb0539_01.row.toRowW) s) (Hook.obs hd.hook) (Hook.val hd.hook) 4150 := by
  intro w
  kernel_rfl
theorem hd.said : PySem.Challenge.rw_pb0539_01.wellSaid = true := by kernel_rfl
theorem hd.wit : RowW.promised PySem.Challenge.rw_pb0539_01.row.toRowW := by
  w_on
  w_witness2
theorem hd {d : DefRec} {kwd : List (Str × PySem.Expr)} (hdef : defOf hd.view_39 PySem.Challenge.rw_pb0539_01.row.name = some (d, kwd)) (hp : PySem.Challenge.rw_pb0539_01.row.prog.theDef PySem.Challenge.rw_pb0539_01.row.name = some (d.params, d.body, d.scope)) (hk : kwWritten? d.params.kwonlyargs d.params.kw_defaults = some kwd)
    (call : WalkO hd.view_39 [] (XL hd.view_39 []) hd.hook.says PySem.Challenge.rw_pb0539_01.row.toRowW d kwd fun f vs => PySem.call f vs) : PySem.Challenge.rw_pb0539_01.Holds := by
  refine holds_law hd.said fun said => ?_
  exact holds_open (q := hd.view_39) (loose := []) (Xt := fun s => xlAt hd.view_39 [] s && recOk (RowW.records PySem.Challenge.rw_pb0539_01.row.toRowW) s) (XP := XL hd.view_39 []) (Yf := Hook.obs hd.hook) (Ya := Hook.val hd.hook) (YP := Hook.says hd.hook) (N := 4150) hd.left (Hook.of hd.hook) (Hook.keeps hd.hook) (fun s e => xl_of s (Bool.and_eq_true_iff.mp e).1) XL.keeps hdef hp hk (fun s e => recFacts_of (Bool.and_eq_true_iff.mp e).2) (by kernel_rfl) said (by kernel_rfl) ⟨rfl, rfl, rfl, rfl, rfl, by decide +kernel⟩ hd.wit call
end Mine
set_option genInjectivity false
set_option genSizeOf false
namespace Mine

/-- the contract of a call: from the ledger `news`, the call of the def at `f` comes back with some `r` and a ledger `nx` of which `Post` tells -/
def Spec (k : Nat) (w : World) (f : Addr) (vs : List Value) (news : List (Addr × Obj)) (Post : Value → List (Addr × Obj) → Prop) : Prop :=
  ∀ (dp un : Nat) (gd : Option (List Code)) (cn : Str) (cs : Scope) (a : Addr) (ccd : Value) (cl : List (Str × Addr)) (outer : List Env) (A₀ : Around) (base h₀ : Heap) (L : Addr) (m : Str → Option Value)
    (p : Program) (loose : List Str) (mean : ExcName → Option Value) (mg mb : Str → Option Value) (s : Shared) (Q E : Value → Shared → Prop),
    Below A₀ base outer h₀ → Fr h₀ L s.heap m → (hd.heap_39 w.params).In h₀ → News h₀ L s.heap news → Top p loose mean mg mb h₀ → cs.kind = .function → dp + k < recursionLimit → un + 100 * k < cLine →
    (∀ r nx h' tk', Post r nx → Fr h₀ L h' m → News h₀ L h' nx → Q r { s with heap := h', toks := tk' }) →
    wpAny (model PySem.Challenge.rw_pb0539_01.prog w) (ktrTop dp un gd cn cs L a ccd cl outer) (call (.ref f) vs) Q E s

theorem fmod_range {a b : Int} (hb : 0 < b) : 0 ≤ a.fmod b ∧ a.fmod b < b := ⟨Int.fmod_nonneg_of_pos a hb, Int.fmod_lt_of_pos a hb⟩
theorem fdiv_nonneg' {a b : Int} (ha : 0 ≤ a) (hb : 0 < b) : 0 ≤ a.fdiv b := Int.fdiv_nonneg ha (Int.le_of_lt hb)
theorem sq_ok (a b : Int) : IntMulOk (a.fmod 2147483647) (b.fmod 2147483647) := by
  have h := fmod_range (a := a) (b := 2147483647) (by decide)
  exact IntMulOk.of_left (intBits_le_64 (by omega) (by omega))
theorem sq_int {prog : Program} {w : World} {A : Around} {E : Value → Shared → Prop} {s : Shared} {Q : Value → Shared → Prop} {x a : Int} {t u : Tok}
    (h : Q (.int (a.fmod 2147483647 * a.fmod 2147483647) s.toks) { s with toks := s.toks + 1 }) :
    wpAny (model prog w) A (binaryOp .Mult (.int ([x, a.fmod 2147483647].getD (Int.toNat 1) 0) t) (.int ([x, a.fmod 2147483647].getD (Int.toNat 1) 0) u)) Q E s :=
  mul_int h (sq_ok a a)
end Mine
namespace Mine
section
variable {k : Nat} {w : World} {f : Addr} {vs : List Value} {news news₀ : List (Addr × Obj)} {Post : Value → List (Addr × Obj) → Prop}
  {dp un : Nat} {gd : Option (List Code)} {cn : Str} {cs : Scope} {a : Addr} {ccd : Value} {cl : List (Str × Addr)} {outer : List Env} {A₀ : Around} {base h₀ : Heap} {L : Addr} {m : Str → Option Value}
  {p : Program} {loose : List Str} {mean : ExcName → Option Value} {mg mb : Str → Option Value} {s : Shared} {Q E : Value → Shared → Prop}
theorem Spec.use (S : Spec k w f vs news Post) (B : Below A₀ base outer h₀) (F : Fr h₀ L s.heap m) (X : (hd.heap_39 w.params).In h₀) (N : News h₀ L s.heap news₀) (sub : ∀ q ∈ news, q ∈ news₀)
    (T : Top p loose mean mg mb h₀) (hk : cs.kind = .function) (hd : dp + k < recursionLimit) (hu : un + 100 * k < cLine)
    (hret : ∀ r nx h' tk', Post r nx → Fr h₀ L h' m → News h₀ L h' nx → Q r { s with heap := h', toks := tk' }) :
    wpAny (model PySem.Challenge.rw_pb0539_01.prog w) (ktrTop dp un gd cn cs L a ccd cl outer) (call (.ref f) vs) Q E s :=
  S _ _ _ _ _ _ _ _ _ _ _ _ _ _ _ _ _ _ _ _ _ _ B F X (fun q hq => N q (sub q hq)) T hk hd hu hret
theorem UpdF.two {d : Addr} {o : Obj} {l : List (Addr × Obj)} {g : Obj → List (Addr × Obj)} (U : UpdF d o l g) :
    ∃ rest, (∀ q ∈ rest, q.1 ≠ d) ∧ (∀ q ∈ (d, o) :: rest, q ∈ l) ∧ (∀ o', ∀ q ∈ g o', q ∈ (d, o') :: rest) ∧ ∀ q ∈ l, q.1 ≠ d → q ∈ rest := by
  obtain ⟨pre, post, rfl, hg, h1, h2⟩ := U.split
  refine ⟨pre ++ post, ?_, ?_, ?_, ?_⟩
  · intro q hq
    rcases List.mem_append.mp hq with hq | hq
    · exact h1 q hq
    · exact h2 q hq
  · intro q hq
    rcases List.mem_cons.mp hq with rfl | hq
    · exact List.mem_append_right _ (.head _)
    · rcases List.mem_append.mp hq with hq | hq
      · exact List.mem_append_left _ hq
      · exact List.mem_append_right _ (.tail _ hq)
  · intro o' q hq
    rw [hg] at hq
    rcases List.mem_append.mp hq with hq | hq
    · exact .tail _ (List.mem_append_left _ hq)
    · rcases List.mem_cons.mp hq with rfl | hq
      · exact .head _
      · exact .tail _ (List.mem_append_right _ hq)
  · intro q hq hne
    rcases List.mem_append.mp hq with hq | hq
    · exact List.mem_append_left _ hq
    · rcases List.mem_cons.mp hq with rfl | hq
      · exact absurd rfl hne
      · exact List.mem_append_right _ hq
end
theorem item_at {prog : Program} {w : World} {A : Around} {E : Value → Shared → Prop} {s : Shared} {value slice : PySem.Expr} {h₀ : Heap} {L l : Addr} {news : List (Addr × Obj)} {vs : List Value} {n : Nat} {k : Int} {u : Tok} {Q : Value → Shared → Prop}
    (N : News h₀ L s.heap news) (hm : (l, listOf vs.toArray n) ∈ news) (h0 : 0 ≤ k) (h1 : k < vs.length) (hs : vs.length < 1000) (h : ∀ v, v ∈ vs → Q v s)
    (hsub : subscripted slice false (.ref l) (.int k u) = operate [.ref l, .int k u] (getItem (.ref l) (.int k u)) := by with_unfolding_all rfl) :
    wpAny (model prog w) A (subscriptTail value slice (.ref l) (.int k u)) Q E s := by
  have hk : k.toNat < vs.length := by omega
  have hl := News.isList N hm
  exact tail_any hl.typeIs slot_list_getitem.lookup (wpAny_getItem_list hl h0 (by omega) (by simp [hk]) (h _ (List.getElem_mem hk))) hsub

theorem len_at {prog : Program} {w : World} {A : Around} {E : Value → Shared → Prop} {s : Shared} {h₀ : Heap} {L l : Addr} {news : List (Addr × Obj)} {vs : List Value} {n : Nat} {Q : Value → Shared → Prop}
    (N : News h₀ L s.heap news) (hm : (l, listOf vs.toArray n) ∈ news) (hs : vs.length < 1000) (h : Q (.int (vs.length : Int) (s.toks + 1)) { s with toks := s.toks + 1 + 1 }) :
    wpAny (model prog w) A (call (.builtin "len") [.ref l]) Q E s := by
  have hl := News.isList N hm
  refine len_list hl ?_ ?_
  · rw [List.size_toArray]; omega
  · rw [List.size_toArray]; exact h

/-- the same, of a call that reads the script -/
def SpecB (k : Nat) (w : World) (f : Addr) (vs : List Value) (sl : Addr) (ns : List Int) (news : List (Addr × Obj)) (Post : Value → List (Addr × Obj) → Prop) : Prop :=
  ∀ (dp un : Nat) (gd : Option (List Code)) (cn : Str) (cs : Scope) (a : Addr) (ccd : Value) (cl : List (Str × Addr)) (outer : List Env) (A₀ : Around) (base h₀ : Heap) (L : Addr) (m : Str → Option Value)
    (p : Program) (loose : List Str) (mean : ExcName → Option Value) (mg mb : Str → Option Value) (s : Shared) (us : List Value) (Q E : Value → Shared → Prop),
    base.IsList sl us.toArray → IntsAre us ns →
    Below A₀ base outer h₀ → Fr h₀ L s.heap m → (hd.heap_39 w.params).In h₀ → News h₀ L s.heap news → Top p loose mean mg mb h₀ → cs.kind = .function → dp + k < recursionLimit → un + 100 * k < cLine →
    (∀ r nx h' tk', Post r nx → Fr h₀ L h' m → News h₀ L h' nx → Q r { s with heap := h', toks := tk' }) →
    wpAny (model PySem.Challenge.rw_pb0539_01.prog w) (ktrTop dp un gd cn cs L a ccd cl outer) (call (.ref f) vs) Q E s

inductive HeldV : Value → Option Int → Prop
  | none : HeldV .none none
  | int (i : Int) (t : Tok) : HeldV (.int i t) (some i)
structure Row where
  up : Bool
  there : Bool
  held : Option Int
  times : List Int
inductive Res where
  | same | held | up | down
def Res.str : Res → Str
  | .same => Str.ofString "same"
  | .held => Str.ofString "held"
  | .up => Str.ofString "up"
  | .down => Str.ofString "down"
def dueAt (held : Option Int) (now : Int) : Bool := match held with
  | none => false
  | some h => decide (h ≤ now)
def heldAt (held : Option Int) (now : Int) : Bool := match held with
  | none => false
  | some h => decide (now < h)
def full (most : Option Int) (n : Nat) : Bool := match most with
  | none => false
  | some k => decide (k ≤ (n : Int))
def rowUp (now : Int) (most : Option Int) (span hold : Int) (x : Row) : Row × Res :=
  if x.up then (x, .same)
  else if heldAt x.held now then ({ x with there := true }, .held)
  else if full most (x.times.filter fun t => decide (now - span < t)).length then ({ x with there := true, held := some (now + hold), times := [] }, .held)
  else ({ x with up := true, there := true, held := none, times := x.times ++ [now] }, .up)
/-- a row of the law's own -/
def RowObj (w : World) (o : Obj) (x : Row) (t : Addr) (hv : Value) : Prop :=
  HeldV hv x.held ∧ o.IsDictOf (strKind PySem.Challenge.rw_pb0539_01.prog w) [(Str.ofString "up", .bool x.up), (Str.ofString "there", .bool x.there), (Str.ofString "times", .ref t), (Str.ofString "held", hv)]
abbrev Off (a : Addr) (l : List (Addr × Obj)) : Prop := ∀ q ∈ l, q.1 ≠ a

theorem addl_at {prog : Program} {w : World} {A : Around} {E : Value → Shared → Prop} {s : Shared} {h₀ : Heap} {L a b : Addr} {m : Str → Option Value} {news : List (Addr × Obj)} {xs ys : List Value} {n k : Nat} {Q : Value → Shared → Prop}
    (F : Fr h₀ L s.heap m) (N : News h₀ L s.heap news) (ha : (a, listOf xs.toArray n) ∈ news) (hb : (b, listOf ys.toArray k) ∈ news) (h1 : xs.length < 1000) (h2 : ys.length < 1000)
    (h : ∀ l h', Fr h₀ L h' m → News h₀ L h' ((l, listOf (xs ++ ys).toArray 0) :: news) → (∀ p ∈ news, p.1 < l) → Q (.ref l) { s with heap := h' }) :
    wpAny (model prog w) A (binaryOp .Add (.ref a) (.ref b)) Q E s := by
  refine add_lists (vs := xs) (ws := ys) F N (News.isList N ha) (News.isList N hb) (fun h' F' N' => ?_) (by rw [sizeLine_eq]; omega)
  exact h _ h' F' N' fun p hp => Heap.lt_size (N p hp).1

theorem off_of_off1 {D : Addr} : ∀ {l : List (Addr × Obj)}, LCg.Off1 D l → Off D l
  | [], _ => fun _ h => nomatch h
  | _ :: _, h => fun q hq => by
    rcases List.mem_cons.mp hq with rfl | hq
    · exact h.1
    · exact off_of_off1 h.2 q hq
theorem off_of_lt {D : Addr} : ∀ {l : List (Addr × Obj)}, AllLt D l → Off D l
  | [], _ => fun _ h => nomatch h
  | _ :: _, h => fun q hq => by
    rcases List.mem_cons.mp hq with rfl | hq
    · exact Nat.ne_of_lt h.1
    · exact off_of_lt h.2 q hq
def TestEnd (h₀ : Heap) (L : Addr) (m : Str → Option Value) (s₁ : Shared) (led : List (Addr × Obj)) (b : Bool) (ok : Bool) (s' : Shared) : Prop :=
  ok = b ∧ ∃ h' tk', s' = { s₁ with heap := h', toks := tk' } ∧ Fr h₀ L h' m ∧ News h₀ L h' led
theorem TestEnd.intro {h₀ : Heap} {L : Addr} {m : Str → Option Value} {s₁ : Shared} {led : List (Addr × Obj)} {b ok : Bool} {h' : Heap} {tk' : Nat} (e : ok = b) (F : Fr h₀ L h' m) (N : News h₀ L h' led) :
    TestEnd h₀ L m s₁ led b ok { s₁ with heap := h', toks := tk' } := ⟨e, h', tk', rfl, F, N⟩
/-- names the filter that a comprehension of the text's means -/
def FMark (_f : Int → Bool) : Prop := True
open LCg LCt in
theorem rest_filter {prog : Program} {w : World} {A : Around} {h₀ : Heap} {L : Addr} {m : Str → Option Value} {env : Env} {ct : Expr} {x : Str} {px : Pos} {scope : Scope} {cl : List (Str × Addr)} {s : Shared} {S : List (Addr × Obj) → Prop} {Fin : List Value → List (Addr × Obj) → Prop}
    {news : List (Addr × Obj)} {vs : List Value} {ns : List Int} (f : Int → Bool) (_hf : FMark f) (hi : IntsAre vs ns) (hS : S news)
    (turn : ∀ i t I oI C oC D ys m₂ h tk (E' : Value → Shared → Prop), i ∈ ns → NsObj oC m₂ → m₂ x = some (.int i t) → Fr h₀ L h m → News h₀ L h ((I, oI) :: (C, oC) :: (D, lst ys) :: news) → Off3 I C D news → ((@Ne Nat I C) ∧ (@Ne Nat I D) ∧ (@Ne Nat C D)) →
      wpAny (model prog w) A (isTrue ct (compEnvC scope cl C env) (eval ct (compEnvC scope cl C env))) (TestEnd h₀ L m { s with heap := h, toks := tk } ((I, oI) :: (C, oC) :: (D, lst ys) :: news) (f i)) E' { s with heap := h, toks := tk })
    (fin : ∀ ys, IntsAre ys (ns.filter f) → Fin ys news)
    (hk : ∀ C, (compEnvC scope cl C env).scope.kind = .function := by intro _; rfl) (hl : ∀ C, (compEnvC scope cl C env).kindOf x = some .local := by intro _; rfl) (hd : (x == ("__debug__" : Str)) = false := by decide) :
    CompRestT prog w A h₀ L m env ct (.Name x px) x scope cl s S (fun i v => vs.toArray[i]? = some v) Fin vs.toArray.size 0 [] news := by
  have main : ∀ (us : List Value) (ks : List Int) (pre : List Value) (pk : List Int) (ys : List Value), IntsAre us ks → vs = pre ++ us → ns = pk ++ ks → IntsAre ys (pk.filter f) →
      CompRestT prog w A h₀ L m env ct (.Name x px) x scope cl s S (fun i v => vs.toArray[i]? = some v) Fin us.length pre.length ys news := by
    intro us
    induction us with
    | nil =>
      intro ks pre pk ys hu e1 e2 hy
      cases hu
      rw [List.append_nil] at e2
      exact fin ys (e2 ▸ hy)
    | cons v us ih =>
      intro ks pre pk ys hu e1 e2 hy
      cases hu with
      | cons i t hr =>
      rename_i ks
      intro v' I oI C oC D m₂ h tk E' hv hC hx F N off ne
      have hv' : v' = .int i t := by
        have : vs.toArray[pre.length]? = some (.int i t) := by rw [e1]; simp
        rw [this] at hv
        exact (Option.some.inj hv).symm
      subst hv'
      refine wpAny_mono (turn i t I oI C oC D ys m₂ h tk E' (by rw [e2]; simp) hC hx F N off ne) ?_ fun _ _ e => e
      rintro ok s' ⟨rfl, h', tk', rfl, F', N'⟩
      have nxt := ih ks (pre ++ [.int i t]) (pk ++ [i])
      rw [List.length_append, List.length_singleton] at nxt
      by_cases hb : f i = true
      · rw [if_pos hb]
        refine LCgL.ld_own (s := { s with heap := h', toks := tk' }) N' (.tail _ (.head _)) hC hx ?_ (hk C) (hl C) hd
        exact CompEnd.intro F' N' news (fun _ h => h) off hS (nxt (ys ++ [.int i t]) hr (by rw [e1, List.append_assoc]; rfl) (by rw [e2, List.append_assoc]; rfl) (by
          rw [List.filter_append, List.filter_cons, if_pos hb]
          exact IntsAre.append hy (.cons _ _ .nil)))
      · rw [if_neg hb]
        exact CompEnd.intro F' N' news (fun _ h => h) off hS (nxt ys hr (by rw [e1, List.append_assoc]; rfl) (by rw [e2, List.append_assoc]; rfl) (by
          rw [List.filter_append, List.filter_cons, if_neg hb]
          simpa using hy))
  have := main vs ns [] [] [] hi rfl rfl .nil
  rwa [List.length_nil] at this

theorem len_filt {prog : Program} {w : World} {A : Around} {E : Value → Shared → Prop} {s : Shared} {h₀ : Heap} {L l : Addr} {news : List (Addr × Obj)} {vs us : List Value} {ns : List Int} {f : Int → Bool} {n : Nat} {Q : Value → Shared → Prop}
    (N : News h₀ L s.heap news) (hm : (l, listOf us.toArray n) ∈ news) (hu : IntsAre us (ns.filter f)) (hv : IntsAre vs ns) (hs : vs.length < 1000) (h : Q (.int ((ns.filter f).length : Int) (s.toks + 1)) { s with toks := s.toks + 1 + 1 }) :
    wpAny (model prog w) A (call (.builtin "len") [.ref l]) Q E s := by
  have e := hu.length
  refine len_at N hm ?_ (by rw [e]; exact h)
  rw [e]
  exact Nat.lt_of_le_of_lt (List.length_filter_le _ _) (hv.length ▸ hs)

theorem news_drop {h₀ h : Heap} {L : Addr} {news news' : List (Addr × Obj)} (N : News h₀ L h news') (hs : ∀ p ∈ news, p ∈ news') : News h₀ L h news := fun p hp => N p (hs p hp)
end Mine

namespace Mine
/-- the project's side of a port -/
structure PW where
  up : Bool
  there : Bool
  held : Option Int
  ups : List Int
def prtUp (now : Int) (most : Option Int) (span hold : Int) (x : PW) : PW × Res :=
  if x.up then (x, .same)
  else if heldAt x.held now then ({ x with there := true }, .held)
  else
    let ups1 := if most.isSome then x.ups.filter fun t => decide (now - t < span) else x.ups
    if full most ups1.length then ({ x with there := true, held := some (now + hold), ups := [] }, .held)
    else ({ up := true, there := true, held := none, ups := ups1 ++ [now] }, .up)
def prtDown (x : PW) : PW × Res := ({ x with up := false, there := false }, if x.up then .down else .same)
/-- hashes and tokens of a written dict's keys -/
structure Ks where
  h : Nat → Int
  t : Nat → Tok
@[reducible] def portD (k : Ks) (n : Int) (tn : Tok) (spd : Value) (up : Bool) (fv mv : Value) : Obj :=
  dictOf [⟨k.h 0, .str (Str.ofString "number") (k.t 0), .int n tn⟩, ⟨k.h 1, .str (Str.ofString "speed") (k.t 1), spd⟩, ⟨k.h 2, .str (Str.ofString "is_up") (k.t 2), .bool up⟩, ⟨k.h 3, .str (Str.ofString "is_full") (k.t 3), fv⟩, ⟨k.h 4, .str (Str.ofString "mtu") (k.t 4), mv⟩] 5
@[reducible] def watchD (k : Ks) (u : Addr) (hv : Value) (there : Bool) : Obj :=
  dictOf [⟨k.h 0, .str (Str.ofString "ups") (k.t 0), .ref u⟩, ⟨k.h 1, .str (Str.ofString "held_until") (k.t 1), hv⟩, ⟨k.h 2, .str (Str.ofString "is_there") (k.t 2), .bool there⟩] 3
@[reducible] def portsD (k : Ks) (mv : Value) (span : Int) (ts : Tok) (hold : Int) (th : Tok) (R W C : Addr) : Obj :=
  dictOf [⟨k.h 0, .str (Str.ofString "most") (k.t 0), mv⟩, ⟨k.h 1, .str (Str.ofString "span") (k.t 1), .int span ts⟩, ⟨k.h 2, .str (Str.ofString "hold") (k.t 2), .int hold th⟩, ⟨k.h 3, .str (Str.ofString "rows") (k.t 3), .ref R⟩, ⟨k.h 4, .str (Str.ofString "watches") (k.t 4), .ref W⟩, ⟨k.h 5, .str (Str.ofString "changed") (k.t 5), .ref C⟩] 6
/-- a dict under int keys -/
abbrev IntD (w : World) (o : Obj) (kvs : List (Int × Value)) : Prop := o.IsDictOf (intKind PySem.Challenge.rw_pb0539_01.prog w) kvs
abbrev tupOf (n : Int) (t : Tok) (b : Bool) : Obj := { cls := .type "tuple", data := .seq #[.int n t, .bool b] }
end Mine

namespace Mine
theorem upd_of_updF {d : Addr} {o : Obj} {l : List (Addr × Obj)} {g : Obj → List (Addr × Obj)} (U : UpdF d o l g) (o' : Obj) : Upd d o o' l (g o') := by
  induction U with
  | head h => exact .head h
  | tail h _ ih => exact .tail h ih
theorem append_at {prog : Program} {w : World} {A : Around} {E : Value → Shared → Prop} {s : Shared} {h₀ : Heap} {L D : Addr} {m : Str → Option Value} {news : List (Addr × Obj)} {g : Obj → List (Addr × Obj)} {vs : List Value} {x : Value} {n : Nat} {Q : Value → Shared → Prop}
    (F : Fr h₀ L s.heap m) (N : News h₀ L s.heap news) (U : UpdF D (listOf vs.toArray n) news g) (hs : vs.length < 1000) (h : ∀ h', Fr h₀ L h' m → News h₀ L h' (g (listOf (vs ++ [x]).toArray (n + 1))) → Q .none { s with heap := h' }) :
    wpAny (model prog w) A (call (.builtin "list.append") [.ref D, x]) Q E s := by
  refine append_K (its := vs.toArray) F N (upd_of_updF U _) (fun h' F' N' => h h' F' ?_) (by rw [List.size_toArray, sizeLine_eq]; omega)
  rw [List.push_toArray] at N'
  exact N'
theorem filt_len {vs us : List Value} {ns : List Int} {f : Int → Bool} (hu : IntsAre us (ns.filter f)) (hv : IntsAre vs ns) (hs : vs.length < 1000) : us.length < 1000 := by
  have e := hu.length
  have e2 := hv.length
  have e3 := List.length_filter_le f ns
  omega
theorem off_sub {D : Addr} {l r : List (Addr × Obj)} (h : Off D l) (hs : ∀ q ∈ r, q ∈ l) : Off D r := fun q hq => h q (hs q hq)
end Mine

namespace Mine
inductive Added (n : Int) (b : Bool) (old : List (Addr × Obj)) (u : Addr) (cs : List Value) : Bool → List Value → List (Addr × Obj) → Prop
  | no : Added n b old u cs false cs []
  | yes (a : Addr) (t : Tok) : Off a old → u ≠ a → Added n b old u cs true (cs ++ [.ref a]) [(a, tupOf n t b)]
def Res.isUp : Res → Bool
  | .up => true
  | _ => false
def Res.isDown : Res → Bool
  | .down => true
  | _ => false
end Mine

namespace Mine
theorem filt_le {vs us : List Value} {ns : List Int} {f : Int → Bool} (hu : IntsAre us (ns.filter f)) (hv : IntsAre vs ns) : us.length ≤ vs.length := by
  have e := hu.length
  have e2 := hv.length
  have e3 := List.length_filter_le f ns
  omega
end Mine

namespace Mine
end Mine

namespace Mine
theorem isInt_inv {k : Int} {v : Value} (h : Value.isInt k v = true) : ∃ t, v = .int k t := by
  cases v with
  | int i t => exact ⟨t, by have : i = k := by simpa [Value.isInt] using h
                            rw [this]⟩
  | _ => simp [Value.isInt] at h
theorem sorted_at {w : World} {A : Around} {E : Value → Shared → Prop} {s : Shared} {h₀ : Heap} {L R : Addr} {oR : Obj} {m : Str → Option Value} {news : List (Addr × Obj)} {v1 v2 v3 : Value} {Q : Value → Shared → Prop}
    (hh : A.handled = none) (F : Fr h₀ L s.heap m) (N : News h₀ L s.heap news) (hm : (R, oR) ∈ news) (hR : IntD w oR [(3, v3), (1, v1), (2, v2)]) (lo : (R == sysModules) = false)
    (h : ∀ (B : Addr) h' tk t3 t1 t2, Fr h₀ L h' m → News h₀ L h' ((B, listOf #[.int 3 t3, .int 1 t1, .int 2 t2] 0) :: news) → (∀ q ∈ news, q.1 < B) →
      wpAny (model PySem.Challenge.rw_pb0539_01.prog w) A.in1 (call (.builtin "list.sort") [.ref B]) (fun _ s' => Q (.ref B) s') E { s with heap := h', toks := tk }) :
    wpAny (model PySem.Challenge.rw_pb0539_01.prog w) A (call (.builtin "sorted") [.ref R]) Q E s := by
  have hD := kda_dict N hm hR
  obtain ⟨ep, hat⟩ := hD.dictAt
  refine kdu_sorted (kdl_dict (knd := intKind _ _) (kvs := [(3, v3), (1, v1), (2, v2)]) (ep := ep) lo) hh F N hat (by rw [sizeLine_eq]; show 3 ≤ 16777216; omega) fun B h' tk vs F' N' l1 hl hv => ?_
  have key : ∀ (j : Nat) (i : Int) (x : Value), ([(3, v3), (1, v1), (2, v2)] : List (Int × Value))[j]? = some (i, x) → j < vs.length → ∃ t, vs[j]? = some (.int i t) := by
    intro j i x hj hlt
    have e : vs[j]? = some vs[j] := List.getElem?_eq_getElem hlt
    obtain ⟨k, y, hk, hi⟩ := hv j _ e
    rw [hj] at hk
    cases hk
    obtain ⟨t, ht⟩ := isInt_inv (k := i) (v := vs[j]) hi
    exact ⟨t, by rw [e, ht]⟩
  have hl3 : vs.length = 3 := hl
  obtain ⟨a, v', rfl⟩ := List.exists_cons_of_length_eq_add_one (n := 2) hl3
  obtain ⟨b, v'', rfl⟩ := List.exists_cons_of_length_eq_add_one (n := 1) (Nat.succ.inj hl3)
  obtain ⟨c, v3', rfl⟩ := List.exists_cons_of_length_eq_add_one (n := 0) (Nat.succ.inj (Nat.succ.inj hl3))
  obtain rfl := List.eq_nil_of_length_eq_zero (Nat.succ.inj (Nat.succ.inj (Nat.succ.inj hl3)))
  obtain ⟨t3, e3⟩ := key 0 3 v3 rfl (by show 0 < 3; omega)
  obtain ⟨t1, e1⟩ := key 1 1 v1 rfl (by show 1 < 3; omega)
  obtain ⟨t2, e2⟩ := key 2 2 v2 rfl (by show 2 < 3; omega)
  cases e3; cases e1; cases e2
  exact h B h' tk t3 t1 t2 F' N' l1
end Mine

namespace Mine
section
variable {a d : Addr} {o : Obj} {l r : List (Addr × Obj)}
theorem lt_ne (h : ∀ p ∈ l, p.1 < d) (m : (a, o) ∈ l) : a ≠ d := Nat.ne_of_lt (h _ m)
theorem lt_ne' (h : ∀ p ∈ l, p.1 < d) (m : (a, o) ∈ l) : d ≠ a := (Nat.ne_of_lt (h _ m)).symm
theorem lt_ne1 (h : ∀ p ∈ l, p.1 < d) (m : (a, o) ∈ l) : a ≠ d + 1 := Nat.ne_of_lt (Nat.lt_succ_of_lt (h _ m))
theorem lt_ne1' (h : ∀ p ∈ l, p.1 < d) (m : (a, o) ∈ l) : d + 1 ≠ a := (lt_ne1 h m).symm
theorem lt_ne2 (h : ∀ p ∈ l, p.1 < d) (m : (a, o) ∈ l) : a ≠ d + 1 + 1 := Nat.ne_of_lt (Nat.lt_succ_of_lt (Nat.lt_succ_of_lt (h _ m)))
theorem lt_ne2' (h : ∀ p ∈ l, p.1 < d) (m : (a, o) ∈ l) : d + 1 + 1 ≠ a := (lt_ne2 h m).symm
theorem lt_ne3 (h : ∀ p ∈ l, p.1 < d) (m : (a, o) ∈ l) : a ≠ d + 1 + 1 + 1 := Nat.ne_of_lt (Nat.lt_succ_of_lt (Nat.lt_succ_of_lt (Nat.lt_succ_of_lt (h _ m))))
theorem lt_ne3' (h : ∀ p ∈ l, p.1 < d) (m : (a, o) ∈ l) : d + 1 + 1 + 1 ≠ a := (lt_ne3 h m).symm
theorem off_ne (h : ∀ q ∈ l, q.1 ≠ d) (m : (a, o) ∈ l) : a ≠ d := h _ m
theorem off_ne' (h : ∀ q ∈ l, q.1 ≠ d) (m : (a, o) ∈ l) : d ≠ a := (h _ m).symm
theorem lt_off (h : ∀ p ∈ l, p.1 < d) (s : ∀ q ∈ r, q ∈ l) : Off d r := fun q hq => Nat.ne_of_lt (h _ (s q hq))
end
end Mine

namespace Mine
/-- what of a Ports stays as it is -/
structure PC where
  (P dP R W : Addr)
  kP : Ks
  mv : Value
  (span hold : Int)
  (ts th : Tok)
@[reducible] def PC.d (c : PC) (C : Addr) : Obj := portsD c.kP c.mv c.span c.ts c.hold c.th c.R c.W C
theorem HeldV.handed {v : Value} {o : Option Int} (h : HeldV v o) : handedIn v = true := by cases h <;> rfl
end Mine

namespace Mine
theorem mem_in {α : Type} {x : α} {l : List α} (h : x ∈ l) : List.Mem x l := h
end Mine

namespace Mine
theorem heldV_inv {v : Value} {o : Option Int} (h : HeldV v o) : (v = .none ∧ o = none) ∨ ∃ i t, v = .int i t ∧ o = some i := by
  cases h with
  | none => exact .inl ⟨rfl, rfl⟩
  | int i t => exact .inr ⟨i, t, rfl, rfl⟩
end Mine

namespace Mine
section
universe u
variable {α : Type u} {x a1 a2 a3 a4 a5 a6 a7 a8 a9 a10 a11 a12 a13 a14 a15 : α} {l : List α}
theorem mm0 : x ∈ x :: l := .head _
theorem mm1 : x ∈ a1 :: x :: l := .tail _ mm0
theorem mm2 : x ∈ a1 :: a2 :: x :: l := .tail _ mm1
theorem mm3 : x ∈ a1 :: a2 :: a3 :: x :: l := .tail _ mm2
theorem mm4 : x ∈ a1 :: a2 :: a3 :: a4 :: x :: l := .tail _ mm3
theorem mm5 : x ∈ a1 :: a2 :: a3 :: a4 :: a5 :: x :: l := .tail _ mm4
theorem mm6 : x ∈ a1 :: a2 :: a3 :: a4 :: a5 :: a6 :: x :: l := .tail _ mm5
theorem mm7 : x ∈ a1 :: a2 :: a3 :: a4 :: a5 :: a6 :: a7 :: x :: l := .tail _ mm6
theorem mm8 : x ∈ a1 :: a2 :: a3 :: a4 :: a5 :: a6 :: a7 :: a8 :: x :: l := .tail _ mm7
theorem mm9 : x ∈ a1 :: a2 :: a3 :: a4 :: a5 :: a6 :: a7 :: a8 :: a9 :: x :: l := .tail _ mm8
theorem mm10 : x ∈ a1 :: a2 :: a3 :: a4 :: a5 :: a6 :: a7 :: a8 :: a9 :: a10 :: x :: l := .tail _ mm9
theorem mm11 : x ∈ a1 :: a2 :: a3 :: a4 :: a5 :: a6 :: a7 :: a8 :: a9 :: a10 :: a11 :: x :: l := .tail _ mm10
theorem mm12 : x ∈ a1 :: a2 :: a3 :: a4 :: a5 :: a6 :: a7 :: a8 :: a9 :: a10 :: a11 :: a12 :: x :: l := .tail _ mm11
theorem md1 (h : x ∈ l) : x ∈ a1 :: l := .tail _ h
theorem md2 (h : x ∈ l) : x ∈ a1 :: a2 :: l := .tail _ (md1 h)
theorem md3 (h : x ∈ l) : x ∈ a1 :: a2 :: a3 :: l := .tail _ (md2 h)
theorem md4 (h : x ∈ l) : x ∈ a1 :: a2 :: a3 :: a4 :: l := .tail _ (md3 h)
theorem md5 (h : x ∈ l) : x ∈ a1 :: a2 :: a3 :: a4 :: a5 :: l := .tail _ (md4 h)
theorem md6 (h : x ∈ l) : x ∈ a1 :: a2 :: a3 :: a4 :: a5 :: a6 :: l := .tail _ (md5 h)
theorem md7 (h : x ∈ l) : x ∈ a1 :: a2 :: a3 :: a4 :: a5 :: a6 :: a7 :: l := .tail _ (md6 h)
theorem md8 (h : x ∈ l) : x ∈ a1 :: a2 :: a3 :: a4 :: a5 :: a6 :: a7 :: a8 :: l := .tail _ (md7 h)
theorem md9 (h : x ∈ l) : x ∈ a1 :: a2 :: a3 :: a4 :: a5 :: a6 :: a7 :: a8 :: a9 :: l := .tail _ (md8 h)
theorem md10 (h : x ∈ l) : x ∈ a1 :: a2 :: a3 :: a4 :: a5 :: a6 :: a7 :: a8 :: a9 :: a10 :: l := .tail _ (md9 h)
theorem md11 (h : x ∈ l) : x ∈ a1 :: a2 :: a3 :: a4 :: a5 :: a6 :: a7 :: a8 :: a9 :: a10 :: a11 :: l := .tail _ (md10 h)
theorem md12 (h : x ∈ l) : x ∈ a1 :: a2 :: a3 :: a4 :: a5 :: a6 :: a7 :: a8 :: a9 :: a10 :: a11 :: a12 :: l := .tail _ (md11 h)
theorem md13 (h : x ∈ l) : x ∈ a1 :: a2 :: a3 :: a4 :: a5 :: a6 :: a7 :: a8 :: a9 :: a10 :: a11 :: a12 :: a13 :: l := .tail _ (md12 h)
theorem md14 (h : x ∈ l) : x ∈ a1 :: a2 :: a3 :: a4 :: a5 :: a6 :: a7 :: a8 :: a9 :: a10 :: a11 :: a12 :: a13 :: a14 :: l := .tail _ (md13 h)
theorem sub_cons {l' : List α} (h : x ∈ l') (k : ∀ q ∈ l, q ∈ l') : ∀ q ∈ x :: l, q ∈ l' := List.forall_mem_cons.mpr ⟨h, k⟩
end
section
variable {a b d : Addr} {o : Obj} {l r : List (Addr × Obj)}
theorem off_c (h : b ≠ a) (k : ∀ q ∈ l, q.1 ≠ a) : ∀ q ∈ (b, o) :: l, q.1 ≠ a := List.forall_mem_cons.mpr ⟨h, k⟩
theorem off_as (i : Nat) (h : ∀ p ∈ l, p.1 ≠ d) (e : r.map (·.1) = (l.drop i).map (·.1)) : ∀ q ∈ r, q.1 ≠ d := fun q hq => by
  obtain ⟨p, hp, ep⟩ := List.mem_map.mp (e ▸ List.mem_map.mpr ⟨q, hq, rfl⟩ : q.1 ∈ (l.drop i).map (·.1))
  exact ep ▸ h p (List.mem_of_mem_drop hp)
theorem lt_as (i : Nat) (h : ∀ p ∈ l, p.1 < d) (e : r.map (·.1) = (l.drop i).map (·.1)) : ∀ q ∈ r, q.1 ≠ d := off_as i (fun p hp => Nat.ne_of_lt (h p hp)) e
end
theorem room_0 {dp K : Nat} (h : dp + K < recursionLimit) : dp < recursionLimit := Nat.lt_of_le_of_lt (Nat.le_add_right dp K) h
theorem room_of {dp K : Nat} (k : Nat) (h : dp + K < recursionLimit) (hk : k ≤ K := by decide) : dp + k < recursionLimit := Nat.lt_of_le_of_lt (Nat.add_le_add_left hk dp) h
theorem units_of {un K : Nat} (k : Nat) (h : un + K < cLine) (hk : k ≤ K := by decide) : un + k < cLine := Nat.lt_of_le_of_lt (Nat.add_le_add_left hk un) h
end Mine
set_option genInjectivity false
set_option genSizeOf false
namespace Mine
theorem loop_made {prog : Program} {w : World} {A : Around} {E : Value → Shared → Prop} {s : Shared} {env : Env} {h₀ : Heap} {x : Str} {body : List Stmt} {Q : Flow → Shared → Prop} {l : Addr} {vs : List Value} {nn : Nat} {m₀ : Str → Option Value} {news : List (Addr × Obj)}
    (J : Nat → (Str → Option Value) → List (Addr × Obj) → Prop) (hh : A.handled = none) (F : Fr h₀ env.locals s.heap m₀) (N : News h₀ env.locals s.heap ((l, listOf vs.toArray nn) :: news)) (hoff : Off l news) (hj : J 0 m₀ news)
    (turn : ∀ i v m₁ nx h tk own, vs[i]? = some v → OwnOff own (nx.map (·.1)) → J i m₁ nx → Fr h₀ env.locals h (fun y => if y = x then some v else m₁ y) → News h₀ env.locals h (nx ++ own) →
      wpAny (model prog w) A (execs body env) (InvPostG h₀ env.locals (J (i + 1)) own { s with heap := h, toks := tk } Q) E { s with heap := h, toks := tk })
    (done : ∀ m₁ nx h tk, J vs.length m₁ nx → Fr h₀ env.locals h m₁ → News h₀ env.locals h nx → Q .next { s with heap := h, toks := tk }) :
    wpAny (model prog w) A (pyIter (.ref l)) (fun it s₂ => LoopAtV prog w A h₀ env x body Q E it s₂) E s := by
  have hl : s.heap.IsList l vs.toArray := News.isList N (.head _)
  have hml := N _ (List.Mem.head _)
  have hlt : l < s.heap.objs.size := Heap.lt_size hml.1
  have hne : l ≠ s.heap.objs.size := Nat.ne_of_lt hlt
  refine wpAny_pyIter_list hl ?_
  have W := Walks.list (prog := prog) (w := w) hh s.heap.objs.size l hne vs.toArray
  rw [List.size_toArray] at W
  let J' : Nat → (Str → Option Value) → List (Addr × Obj) → Prop := fun i m₁ nx => Off l nx ∧ J i m₁ nx
  refine ⟨_, _, _, vs.length, _, _, m₀, news, J', rfl, W, ?_, ?_, ?_, ⟨⟨_, Heap.get?_push_size _ rfl, rfl, rfl⟩, hl.at fun o e => Heap.get?_push_of_some _ e⟩, F.push _, (fun p hp => ⟨Heap.get?_push_of_some _ (N p (.tail _ hp)).1, (N p (.tail _ hp)).2⟩), ⟨hoff, hj⟩, ?_, ?_⟩
  · intro hm
    rcases List.mem_cons.mp hm with e | hm
    · exact absurd F.ns.lt (e ▸ Nat.lt_irrefl _)
    · exact hml.2.1 (List.mem_singleton.mp hm).symm
  · intro b hb
    rw [List.mem_singleton.mp hb]
    exact next_is_new F
  · intro p hp hI
    exact absurd (Heap.lt_size (N p (.tail _ hp)).1) ((List.mem_singleton.mp hI) ▸ Nat.lt_irrefl _)
  · rintro i v m₁ nx s₁ own ⟨hh', tk', rfl⟩ hin hP ⟨ho, hJ⟩ hwr hown _ hfp hst F₁ N₁
    have hI0 : h₀.get? s.heap.objs.size = none := next_is_new F
    obtain ⟨⟨oI, hoI, _⟩, ⟨ol, hol, _⟩⟩ := id hst
    have hIown : (s.heap.objs.size, oI) ∈ own := hfp _ (List.mem_cons.mpr (.inl rfl)) hI0 _ hoI
    have hlown : (l, ol) ∈ own := hfp _ (List.mem_cons.mpr (.inr (List.mem_singleton.mpr rfl))) hml.2.2 _ hol
    have hsep : OwnOff own (nx.map (·.1)) := by
      intro p hp b hb e
      obtain ⟨q, hq, rfl⟩ := List.mem_map.mp hb
      rcases List.mem_cons.mp (hown p hp) with h1 | h1
      · exact hwr q hq (List.mem_singleton.mpr (e ▸ h1))
      · exact ho q hq (e ▸ List.mem_singleton.mp h1)
    have N₂ : News h₀ env.locals hh' (nx ++ own) := fun p hp => N₁ p ((List.mem_append.mp hp).elim (fun h => List.mem_append.mpr (.inr h)) fun h => List.mem_append.mpr (.inl h))
    have hv : vs[i]? = some v := by simpa using hP
    refine wpAny_mono (turn i v m₁ nx hh' tk' own hv hsep hJ F₁ N₂) (fun f s₂ p => ?_) fun _ _ e => e
    have fin : InvEndG h₀ env.locals (J (i + 1)) own { s with heap := hh', toks := tk' } s₂ → LoopStepU h₀ env.locals [s.heap.objs.size] own (J' (i + 1)) { s with heap := hh', toks := tk' } .next s₂ := by
      rintro ⟨h', tk, m', news', nx', e, F', N', hn, ho', ha, hm⟩
      refine ⟨rfl, h', tk, m', nx', e, F', fun p hp => N' p ((List.mem_append.mp hp).elim (ho' p) (hn p)), fun p hp hq => ?_, ⟨fun q hq e => ?_, hm⟩⟩
      · exact ha _ hIown p.1 (List.mem_map.mpr ⟨p, hp, rfl⟩) (List.mem_singleton.mp hq).symm
      · exact ha _ hlown q.1 (List.mem_map.mpr ⟨q, hq, rfl⟩) e.symm
    cases f with
    | ret v => exact .ret p
    | brk => exact .brk p
    | next => exact .next (fin p)
    | cont => exact .cont (fin p)
  · rintro h' tk m' news' F' N' _ ⟨_, hJ⟩
    exact done m' news' h' tk hJ F' N'

/-- the loop over a list of the call's own, with a state of letters `c`; `ps c` are the frame's names that it keeps -/
theorem loop_S {σ : Type} {prog : Program} {w : World} {A : Around} {E : Value → Shared → Prop} {s : Shared} {env : Env} {h₀ : Heap} {x : Str} {body : List Stmt} {Q : Flow → Shared → Prop} {l : Addr} {vs : List Value} {nn : Nat} {m₀ : Str → Option Value} {news : List (Addr × Obj)}
    (ps : σ → List (Str × Value)) (J : Nat → σ → List (Addr × Obj) → Prop) (c₀ : σ) (hh : A.handled = none) (F : Fr h₀ env.locals s.heap m₀) (N : News h₀ env.locals s.heap ((l, listOf vs.toArray nn) :: news)) (hoff : Off l news)
    (hp : ∀ p ∈ ps c₀, m₀ p.1 = some p.2) (hj : J 0 c₀ news)
    (turn : ∀ i v c nx (u : Str → Option Value) h tk own, vs[i]? = some v → OwnOff own (nx.map (·.1)) → J i c nx → Fr h₀ env.locals h (fun y => if y = x then some v else kstB u (ps c) y) → News h₀ env.locals h (nx ++ own) →
      wpAny (model prog w) A (execs body env) (InvPostG h₀ env.locals (fun m' nx' => ∃ c', (∀ p ∈ ps c', m' p.1 = some p.2) ∧ J (i + 1) c' nx') own { s with heap := h, toks := tk } Q) E { s with heap := h, toks := tk })
    (done : ∀ c nx (u : Str → Option Value) h tk, J vs.length c nx → Fr h₀ env.locals h (fun y => kstB u (ps c) y) → News h₀ env.locals h nx → Q .next { s with heap := h, toks := tk }) :
    wpAny (model prog w) A (pyIter (.ref l)) (fun it s₂ => LoopAtV prog w A h₀ env x body Q E it s₂) E s := by
  have em : ∀ {m : Str → Option Value} {c : σ}, (∀ p ∈ ps c, m p.1 = some p.2) → ∀ y, kstB m (ps c) y = m y := fun h y => kstB_eq h fun _ => rfl
  refine loop_made (fun i m nx => ∃ c, (∀ p ∈ ps c, m p.1 = some p.2) ∧ J i c nx) hh F N hoff ⟨c₀, hp, hj⟩ ?_ ?_
  · rintro i v m₁ nx h tk own hv hsep ⟨c, hc, hJ⟩ F₁ N₁
    refine turn i v c nx m₁ h tk own hv hsep hJ ?_ N₁
    have e : (fun y => if y = x then some v else kstB m₁ (ps c) y) = fun y => if y = x then some v else m₁ y := by
      funext y
      rw [em hc y]
    rw [e]
    exact F₁
  · rintro m₁ nx h tk ⟨c, hc, hJ⟩ F₁ N₁
    refine done c nx m₁ h tk hJ ?_ N₁
    have e : (fun y => kstB m₁ (ps c) y) = m₁ := funext fun y => em hc y
    rw [e]
    exact F₁

def Apart (l : List (Addr × Obj)) : Prop := (l.map (·.1)).Nodup
theorem apart_nil : Apart [] := List.nodup_nil
theorem apart_cons {a : Addr} {o : Obj} {l : List (Addr × Obj)} : Apart ((a, o) :: l) ↔ Off a l ∧ Apart l := by
  unfold Apart
  rw [List.map_cons, List.nodup_cons]
  refine and_congr ⟨fun h q hq e => h (List.mem_map.mpr ⟨q, hq, e⟩), fun h hm => ?_⟩ Iff.rfl
  obtain ⟨q, hq, e⟩ := List.mem_map.mp hm
  exact h q hq e
theorem Apart.perm {l l' : List (Addr × Obj)} (h : Apart l) (p : l.Perm l') : Apart l' := (p.map _).nodup_iff.mp h
theorem off_cons {a b : Addr} {o : Obj} {l : List (Addr × Obj)} : Off a ((b, o) :: l) ↔ b ≠ a ∧ Off a l := by
  constructor
  · intro h
    exact ⟨h _ (.head _), fun q hq => h q (.tail _ hq)⟩
  · rintro ⟨h1, h2⟩ q hq
    rcases List.mem_cons.mp hq with rfl | hq
    · exact h1
    · exact h2 q hq
theorem off_append {a : Addr} {l l' : List (Addr × Obj)} : Off a (l ++ l') ↔ Off a l ∧ Off a l' := List.forall_mem_append
theorem off_nil {a : Addr} : Off a [] := fun _ h => nomatch h
theorem off_nil_iff {a : Addr} : Off a [] ↔ True := iff_of_true off_nil trivial
theorem Off.perm {a : Addr} {l l' : List (Addr × Obj)} (h : Off a l) (p : l.Perm l') : Off a l' := fun q hq => h q (p.mem_iff.mpr hq)

structure RBlk where
  r : Addr
  t : Addr
  o : Obj
  hv : Value
  ts : List Value
  nt : Nat
  y : Row
@[reducible] def RBlk.led (b : RBlk) : List (Addr × Obj) := [(b.r, b.o), (b.t, listOf b.ts.toArray b.nt)]
structure RBlk.Ok (w : World) (K : Nat) (b : RBlk) : Prop where
  row : RowObj w b.o b.y b.t b.hv
  itsI : IntsAre b.ts b.y.times
  len : b.ts.length ≤ K
def upd {α : Type} (B : Int → α) (n : Int) (b : α) : Int → α := fun k => if k = n then b else B k
theorem upd_same {α : Type} (B : Int → α) (n : Int) (b : α) : upd B n b n = b := if_pos rfl
theorem upd_other {α : Type} (B : Int → α) {n k : Int} (b : α) (h : k ≠ n) : upd B n b k = B k := if_neg h
/-- three blocks, one behind the other -/
def led3 (L : Int → List (Addr × Obj)) : List (Addr × Obj) := L 1 ++ (L 2 ++ L 3)
def others3 (L : Int → List (Addr × Obj)) (n : Int) : List (Addr × Obj) := if n = 1 then L 2 ++ L 3 else if n = 2 then L 1 ++ L 3 else L 1 ++ L 2
def In3 (n : Int) : Prop := n = 1 ∨ n = 2 ∨ n = 3
theorem led3_perm (L : Int → List (Addr × Obj)) {n : Int} (h : In3 n) : (led3 L).Perm (L n ++ others3 L n) := by
  rcases h with rfl | rfl | rfl
  · exact .refl _
  · exact List.perm_append_comm_assoc _ _ _
  · show (L 1 ++ (L 2 ++ L 3)).Perm (L 3 ++ (L 1 ++ L 2))
    rw [← List.append_assoc]
    exact List.perm_append_comm
theorem others3_upd (L : Int → List (Addr × Obj)) (L' : Int → List (Addr × Obj)) {n : Int} (h : ∀ k, k ≠ n → L' k = L k) (hn : In3 n) : others3 L' n = others3 L n := by
  rcases hn with rfl | rfl | rfl
  · show L' 2 ++ L' 3 = L 2 ++ L 3
    rw [h 2 (by decide), h 3 (by decide)]
  · show L' 1 ++ L' 3 = L 1 ++ L 3
    rw [h 1 (by decide), h 3 (by decide)]
  · show L' 1 ++ L' 2 = L 1 ++ L 2
    rw [h 1 (by decide), h 2 (by decide)]

/-- the addresses of `f` differ from one another and from those of `R` -/
def Sep (f R : List (Addr × Obj)) : Prop := Apart f ∧ ∀ q ∈ f, Off q.1 R
theorem sep_nil {R : List (Addr × Obj)} : Sep [] R := ⟨apart_nil, fun _ h => nomatch h⟩
theorem sep_nil_iff {R : List (Addr × Obj)} : Sep [] R ↔ True := iff_of_true sep_nil trivial
theorem sep_cons {a : Addr} {o : Obj} {f R : List (Addr × Obj)} : Sep ((a, o) :: f) R ↔ (Off a f ∧ Off a R) ∧ Sep f R := by
  unfold Sep
  rw [apart_cons, List.forall_mem_cons]
  exact ⟨fun ⟨⟨h1, h2⟩, h3, h4⟩ => ⟨⟨h1, h3⟩, h2, h4⟩, fun ⟨⟨h1, h3⟩, h2, h4⟩ => ⟨⟨h1, h2⟩, h3, h4⟩⟩
theorem sep_append {f g R : List (Addr × Obj)} : Sep (f ++ g) R ↔ Sep f (g ++ R) ∧ Sep g R := by
  induction f with
  | nil => exact ⟨fun h => ⟨sep_nil, h⟩, fun h => h.2⟩
  | cons p f ih =>
    obtain ⟨a, o⟩ := p
    rw [List.cons_append, sep_cons, sep_cons, ih, off_append, off_append]
    exact ⟨fun ⟨⟨⟨h1, h2⟩, h3⟩, h4, h5⟩ => ⟨⟨⟨h1, h2, h3⟩, h4⟩, h5⟩, fun ⟨⟨⟨h1, h2, h3⟩, h4⟩, h5⟩ => ⟨⟨⟨h1, h2⟩, h3⟩, h4, h5⟩⟩
theorem Sep.mono {f R R' : List (Addr × Obj)} (h : Sep f R) (hs : ∀ q ∈ R', q ∈ R) : Sep f R' := ⟨h.1, fun q hq p hp => h.2 q hq p (hs p hp)⟩
theorem Sep.perm {f f' R : List (Addr × Obj)} (h : Sep f R) (p : f.Perm f') : Sep f' R := ⟨h.1.perm p, fun q hq => h.2 q (p.mem_iff.mpr hq)⟩
theorem Sep.own {f R own : List (Addr × Obj)} (h : Sep f R) (ho : OwnOff own (f.map (·.1))) : Sep f (R ++ own) :=
  ⟨h.1, fun q hq => off_append.mpr ⟨h.2 q hq, fun p hp => ho p hp _ (List.mem_map.mpr ⟨q, hq, rfl⟩)⟩⟩

/-- what a turn of a loop over three blocks leaves -/
def Turn3 {α β : Type} (La : α → List (Addr × Obj)) (Lb : Int → β → List (Addr × Obj)) (ps : List (Str × Value)) (h₀ : Heap) (L : Addr) (n : Int) (R : List (Addr × Obj)) (Next : α → β → Prop) (s₁ : Shared) (f : Flow) (s₂ : Shared) : Prop :=
  (match f with | .next => True | .cont => True | _ => False) ∧ ∃ a b h' tk' m', s₂ = { s₁ with heap := h', toks := tk' } ∧ Fr h₀ L h' m' ∧ (∀ p ∈ ps, m' p.1 = some p.2) ∧ News h₀ L h' (La a ++ (Lb n b ++ R)) ∧ Sep (La a ++ Lb n b) R ∧ Next a b
theorem Turn3.intro {α β : Type} {La : α → List (Addr × Obj)} {Lb : Int → β → List (Addr × Obj)} {ps : List (Str × Value)} {h₀ : Heap} {L : Addr} {n : Int} {R news : List (Addr × Obj)} {Next : α → β → Prop} {s₁ : Shared} {h' : Heap} {tk' : Nat} {m' : Str → Option Value}
    (a : α) (b : β) (F : Fr h₀ L h' m') (hp : ∀ p ∈ ps, m' p.1 = some p.2) (N : News h₀ L h' news) (sub : ∀ q ∈ La a ++ (Lb n b ++ R), q ∈ news) (S : Sep (La a ++ Lb n b) R) (H : Next a b) :
    Turn3 La Lb ps h₀ L n R Next s₁ .next { s₁ with heap := h', toks := tk' } := ⟨trivial, a, b, h', tk', m', rfl, F, hp, fun q hq => N q (sub q hq), S, H⟩
/-- the ledger of a loop over three blocks -/
def led3b {β : Type} (Lb : Int → β → List (Addr × Obj)) (B : Int → β) : List (Addr × Obj) := led3 fun n => Lb n (B n)

theorem loop3 {α β : Type} {prog : Program} {w : World} {A : Around} {E : Value → Shared → Prop} {s : Shared} {env : Env} {h₀ : Heap} {x : Str} {body : List Stmt} {Q : Flow → Shared → Prop} {l : Addr} {nn : Nat} {t1 t2 t3 : Tok} {m₀ : Str → Option Value} {news rest : List (Addr × Obj)}
    (La : α → List (Addr × Obj)) (Lb : Int → β → List (Addr × Obj)) (ps : List (Str × Value)) (Inv : Int → α → (Int → β) → Prop) (a₀ : α) (B₀ : Int → β) (hh : A.handled = none) (F : Fr h₀ env.locals s.heap m₀)
    (N : News h₀ env.locals s.heap news) (sub : ∀ q ∈ (l, listOf #[.int 1 t1, .int 2 t2, .int 3 t3] nn) :: (La a₀ ++ (led3b Lb B₀ ++ rest)), q ∈ news) (hoff : Off l (La a₀ ++ (led3b Lb B₀ ++ rest)))
    (hp : ∀ p ∈ ps, m₀ p.1 = some p.2) (hs : Sep (La a₀ ++ led3b Lb B₀) rest) (hi : Inv 0 a₀ B₀)
    (turn : ∀ n t a B R (u : Str → Option Value) h tk, In3 n → Inv (n - 1) a B → Sep (La a ++ Lb n (B n)) R → Fr h₀ env.locals h (fun y => if y = x then some (.int n t) else kstB u ps y) → News h₀ env.locals h (La a ++ (Lb n (B n) ++ R)) →
      wpAny (model prog w) A (execs body env) (Turn3 La Lb ps h₀ env.locals n R (fun a' b' => Inv n a' (upd B n b')) { s with heap := h, toks := tk }) E { s with heap := h, toks := tk })
    (done : ∀ a B (u : Str → Option Value) h tk, Inv 3 a B → Sep (La a ++ led3b Lb B) rest → Fr h₀ env.locals h (fun y => kstB u ps y) → News h₀ env.locals h (La a ++ (led3b Lb B ++ rest)) → Q .next { s with heap := h, toks := tk }) :
    wpAny (model prog w) A (pyIter (.ref l)) (fun it s₂ => LoopAtV prog w A h₀ env x body Q E it s₂) E s := by
  have h3 : ∀ (i : Nat) (v : Value), ([Value.int 1 t1, .int 2 t2, .int 3 t3] : List Value)[i]? = some v → ∃ t, v = .int ((i : Int) + 1) t ∧ In3 ((i : Int) + 1) := by
    intro i v hv
    match i, hv with
    | 0, hv => exact ⟨t1, (Option.some.inj hv).symm, .inl rfl⟩
    | 1, hv => exact ⟨t2, (Option.some.inj hv).symm, .inr (.inl rfl)⟩
    | 2, hv => exact ⟨t3, (Option.some.inj hv).symm, .inr (.inr rfl)⟩
  refine loop_S (vs := [.int 1 t1, .int 2 t2, .int 3 t3]) (nn := nn) (news := La a₀ ++ (led3b Lb B₀ ++ rest)) (σ := α × (Int → β)) (fun _ => ps) (fun i c nx => nx = La c.1 ++ (led3b Lb c.2 ++ rest) ∧ Sep (La c.1 ++ led3b Lb c.2) rest ∧ Inv (i : Int) c.1 c.2) (a₀, B₀) hh F (fun q hq => N q (sub q hq)) hoff hp ⟨rfl, hs, hi⟩ ?_ ?_
  · rintro i v ⟨a, B⟩ nx u h tk own hv hsep ⟨rfl, hS, hI⟩ F₁ N₁
    obtain ⟨t, rfl, hn⟩ := h3 i v hv
    have e1 : ((i : Int) + 1) - 1 = (i : Int) := by omega
    have P := led3_perm (fun n => Lb n (B n)) hn
    have hSo : Sep (La a ++ led3b Lb B) (rest ++ own) := hS.own fun p hp b hb => hsep p hp b (by
      rw [← List.append_assoc, List.map_append]
      exact List.mem_append_left _ hb)
    have hS2 : Sep (La a ++ (Lb ((i : Int) + 1) (B ((i : Int) + 1)) ++ others3 (fun n => Lb n (B n)) ((i : Int) + 1))) (rest ++ own) := hSo.perm (List.Perm.append_left _ P)
    rw [← List.append_assoc] at hS2
    obtain ⟨hS3, hS4⟩ := sep_append.mp hS2
    refine wpAny_mono (turn ((i : Int) + 1) t a B (others3 (fun n => Lb n (B n)) ((i : Int) + 1) ++ (rest ++ own)) u h tk hn (by rw [e1]; exact hI) hS3 F₁ fun q hq => N₁ q ?_) (fun f s₂ p => ?_) fun _ _ e => e
    · simp only [List.mem_append] at hq ⊢
      have := (P.mem_iff (a := q)).mpr
      rw [List.mem_append] at this
      rcases hq with hq | hq | hq | hq | hq
      · exact .inl (.inl hq)
      · exact .inl (.inr (.inl (this (.inl hq))))
      · exact .inl (.inr (.inl (this (.inr hq))))
      · exact .inl (.inr (.inr hq))
      · exact .inr hq
    · obtain ⟨hf, a', b', h', tk', m', rfl, F', hp', N', S', I'⟩ := p
      have up : ∀ k, k ≠ (i : Int) + 1 → Lb k (upd B ((i : Int) + 1) b' k) = Lb k (B k) := fun k hk => by rw [upd_other B b' hk]
      have eo := others3_upd (fun n => Lb n (B n)) (fun n => Lb n (upd B ((i : Int) + 1) b' n)) up hn
      have P' := led3_perm (fun n => Lb n (upd B ((i : Int) + 1) b' n)) hn
      rw [eo] at P'
      simp only [upd_same] at P'
      have S2 : Sep (La a' ++ led3b Lb (upd B ((i : Int) + 1) b')) (rest ++ own) := by
        have := sep_append.mpr ⟨S', hS4⟩
        rw [List.append_assoc] at this
        exact this.perm (List.Perm.append_left _ P'.symm)
      have fin : InvEndG h₀ env.locals (fun m' nx' => ∃ c' : α × (Int → β), (∀ p ∈ ps, m' p.1 = some p.2) ∧ nx' = La c'.1 ++ (led3b Lb c'.2 ++ rest) ∧ Sep (La c'.1 ++ led3b Lb c'.2) rest ∧ Inv ((i + 1 : Nat) : Int) c'.1 c'.2) own { s with heap := h, toks := tk } { s with heap := h', toks := tk' } := by
        refine InvEndG.intro F' N' ⟨(a', upd B ((i : Int) + 1) b'), hp', rfl, S2.mono fun q hq => List.mem_append_left _ hq, ?_⟩ ?_ ?_ ?_
        · have : ((i + 1 : Nat) : Int) = (i : Int) + 1 := by omega
          rw [this]
          exact I'
        · intro p hp b hb
          obtain ⟨q, hq, rfl⟩ := List.mem_map.mp hb
          rw [← List.append_assoc] at hq
          rcases List.mem_append.mp hq with hq | hq
          · exact S2.2 q hq p (List.mem_append_right _ hp)
          · exact hsep p hp _ (by
              rw [← List.append_assoc, List.map_append]
              exact List.mem_append_right _ (List.mem_map.mpr ⟨q, hq, rfl⟩))
        · intro q hq
          have := (P'.mem_iff (a := q)).mp
          rw [List.mem_append] at this
          simp only [List.mem_append] at hq ⊢
          rcases hq with hq | hq | hq
          · exact .inl hq
          · rcases this hq with hq | hq
            · exact .inr (.inl hq)
            · exact .inr (.inr (.inl hq))
          · exact .inr (.inr (.inr (.inl hq)))
        · intro q hq
          simp only [List.mem_append]
          exact .inr (.inr (.inr (.inr hq)))
      cases f with
      | ret v => exact hf.elim
      | brk => exact hf.elim
      | next => exact fin
      | cont => exact fin
  · rintro ⟨a, B⟩ nx u h tk ⟨rfl, hS, hI⟩ F₁ N₁
    exact done a B u h tk hI hS F₁ N₁

inductive TupsAre (tl : List (Addr × Obj)) : List Value → List (Int × Bool) → Prop
  | nil : TupsAre tl [] []
  | cons {a : Addr} {n : Int} {t : Tok} {b : Bool} {vs : List Value} {ps : List (Int × Bool)} : (a, tupOf n t b) ∈ tl → TupsAre tl vs ps → TupsAre tl (.ref a :: vs) ((n, b) :: ps)
theorem TupsAre.mono {tl tl' : List (Addr × Obj)} (hs : ∀ q ∈ tl, q ∈ tl') : ∀ {vs : List Value} {ps : List (Int × Bool)}, TupsAre tl vs ps → TupsAre tl' vs ps
  | _, _, .nil => .nil
  | _, _, .cons h r => .cons (hs _ h) (r.mono hs)
theorem TupsAre.append {tl : List (Addr × Obj)} : ∀ {vs us : List Value} {ps qs : List (Int × Bool)}, TupsAre tl vs ps → TupsAre tl us qs → TupsAre tl (vs ++ us) (ps ++ qs)
  | _, _, _, _, .nil, h => h
  | _, _, _, _, .cons h r, k => .cons h (r.append k)
theorem TupsAre.length {tl : List (Addr × Obj)} : ∀ {vs : List Value} {ps : List (Int × Bool)}, TupsAre tl vs ps → vs.length = ps.length
  | _, _, .nil => rfl
  | _, _, .cons _ r => congrArg (· + 1) r.length
structure PBlk where
  p : Addr
  dp : Addr
  w0 : Addr
  dw : Addr
  u : Addr
  kp : Ks
  kw : Ks
  tn : Tok
  spd : Value
  fv : Value
  mtu : Value
  hv : Value
  vs : List Value
  nu : Nat
  x : PW
@[reducible] def PBlk.led (n : Int) (b : PBlk) : List (Addr × Obj) :=
  [(b.p, instObj 76 b.dp), (b.dp, portD b.kp n b.tn b.spd b.x.up b.fv b.mtu), (b.w0, instObj 109 b.dw), (b.dw, watchD b.kw b.u b.hv b.x.there), (b.u, listOf b.vs.toArray b.nu)]
structure PBlk.Ok (K : Nat) (b : PBlk) : Prop where
  held : HeldV b.hv b.x.held
  itsI : IntsAre b.vs b.x.ups
  len : b.vs.length ≤ K
def prtGo (now : Int) (x : PW) : PW × Bool :=
  if dueAt x.held now then (if x.there then ({ x with up := true, held := none, ups := x.ups ++ [now] }, true) else ({ x with held := none }, false)) else (x, false)
/-- those of the three, up to i, that g takes -/
def goneG (g : Int → Bool) (i : Int) : List Int := ([1, 2, 3] : List Int).filter fun n => decide (n ≤ i) && g n
theorem goneG_step (g : Int → Bool) {n : Int} (h : In3 n) : goneG g n = goneG g (n - 1) ++ (if g n then [n] else []) := by
  rcases h with rfl | rfl | rfl
  · cases h1 : g 1 <;> simp [goneG, List.filter_cons, h1]
  · cases h1 : g 1 <;> cases h2 : g 2 <;> simp [goneG, List.filter_cons, h1, h2]
  · cases h1 : g 1 <;> cases h2 : g 2 <;> cases h3 : g 3 <;> simp [goneG, List.filter_cons, h1, h2, h3]
theorem goneG_len (g : Int → Bool) (i : Int) : (goneG g i).length ≤ 3 := Nat.le_trans (List.length_filter_le _ _) (by decide)
theorem goneG_zero (g : Int → Bool) : goneG g 0 = [] := rfl
def goRow (now : Int) (y : Row) : Row × Bool :=
  if dueAt y.held now then (if y.there then ({ y with up := true, held := none, times := y.times ++ [now] }, true) else ({ y with held := none }, false)) else (y, false)
def rowDown (x : Row) : Row × Res := ({ x with up := false, there := false }, if x.up then .down else .same)
structure FoundA where
  vs : List Value
  n : Nat

@[reducible] def goLb (_ : Int) (b : RBlk) : List (Addr × Obj) := b.led
section
variable {PB : Int → PBlk} {RB : Int → RBlk} {n : Int}
@[reducible] def oP (PB : Int → PBlk) (n : Int) : List (Addr × Obj) := others3 (fun k => (PB k).led k) n
@[reducible] def oR (RB : Int → RBlk) (n : Int) : List (Addr × Obj) := others3 (fun k => (RB k).led) n
theorem permP (hn : In3 n) : (led3b PBlk.led PB).Perm ((PB n).led n ++ oP PB n) := led3_perm (fun k => (PB k).led k) hn
theorem permR (hn : In3 n) : (led3b goLb RB).Perm ((RB n).led ++ oR RB n) := led3_perm (fun k => (RB k).led) hn
theorem perm_open (hn : In3 n) (X : List (Addr × Obj)) : (led3b PBlk.led PB ++ (led3b goLb RB ++ X)).Perm ((PB n).led n ++ ((RB n).led ++ (oP PB n ++ (oR RB n ++ X)))) := by
  have h1 : (led3b PBlk.led PB ++ (led3b goLb RB ++ X)).Perm (((PB n).led n ++ oP PB n) ++ (((RB n).led ++ oR RB n) ++ X)) := (permP hn).append ((permR hn).append (.refl X))
  refine h1.trans ?_
  simp only [List.append_assoc]
  refine List.Perm.append_left _ ?_
  exact List.perm_append_comm_assoc _ _ _
theorem permP' {b : PBlk} (hn : In3 n) : (led3b PBlk.led (upd PB n b)).Perm (b.led n ++ oP PB n) := by
  have h := permP (PB := upd PB n b) hn
  rw [upd_same] at h
  rw [show oP PB n = oP (upd PB n b) n from (others3_upd (fun k => (PB k).led k) (fun k => (upd PB n b k).led k) (fun k hk => by rw [upd_other PB b hk]) hn).symm]
  exact h
theorem permR' {b : RBlk} (hn : In3 n) : (led3b goLb (upd RB n b)).Perm (b.led ++ oR RB n) := by
  have h := permR (RB := upd RB n b) hn
  rw [upd_same] at h
  rw [show oR RB n = oR (upd RB n b) n from (others3_upd (fun k => (RB k).led) (fun k => (upd RB n b k).led) (fun k hk => by rw [upd_other RB b hk]) hn).symm]
  exact h
theorem perm_close {pb : PBlk} {rb : RBlk} (hn : In3 n) (X : List (Addr × Obj)) : (led3b PBlk.led (upd PB n pb) ++ (led3b goLb (upd RB n rb) ++ X)).Perm (pb.led n ++ (rb.led ++ (oP PB n ++ (oR RB n ++ X)))) := by
  have h1 : (led3b PBlk.led (upd PB n pb) ++ (led3b goLb (upd RB n rb) ++ X)).Perm ((pb.led n ++ oP PB n) ++ ((rb.led ++ oR RB n) ++ X)) := (permP' hn).append ((permR' hn).append (.refl X))
  refine h1.trans ?_
  simp only [List.append_assoc]
  refine List.Perm.append_left _ ?_
  exact List.perm_append_comm_assoc _ _ _
theorem open_sep {head tl rest : List (Addr × Obj)} (hn : In3 n) (h : Sep (head ++ (led3b PBlk.led PB ++ (led3b goLb RB ++ tl))) rest) :
    Sep (head ++ ((PB n).led n ++ (RB n).led)) (oP PB n ++ (oR RB n ++ (tl ++ rest))) ∧ Sep (oP PB n ++ (oR RB n ++ tl)) rest := by
  have h2 : Sep ((head ++ ((PB n).led n ++ (RB n).led)) ++ (oP PB n ++ (oR RB n ++ tl))) rest := h.perm (by
    simp only [List.append_assoc]
    exact List.Perm.append_left _ (perm_open hn tl))
  obtain ⟨h3, h4⟩ := sep_append.mp h2
  refine ⟨?_, h4⟩
  simpa only [List.append_assoc] using h3
theorem close_sep {head nt tl rest : List (Addr × Obj)} {pb : PBlk} {rb : RBlk} (hn : In3 n) (h : Sep (head ++ (pb.led n ++ (rb.led ++ nt))) (oP PB n ++ (oR RB n ++ (tl ++ rest)))) (h4 : Sep (oP PB n ++ (oR RB n ++ tl)) rest) :
    Sep (head ++ (led3b PBlk.led (upd PB n pb) ++ (led3b goLb (upd RB n rb) ++ (nt ++ tl)))) rest := by
  have h2 : Sep ((head ++ (pb.led n ++ (rb.led ++ nt))) ++ (oP PB n ++ (oR RB n ++ tl))) rest := sep_append.mpr ⟨by simpa only [List.append_assoc] using h, h4⟩
  refine h2.perm ?_
  simp only [List.append_assoc]
  refine List.Perm.append_left _ ((perm_close hn (nt ++ tl)).trans ?_).symm
  refine List.Perm.append_left _ (List.Perm.append_left _ ?_)
  -- oP ++ (oR ++ (nt ++ tl)) ~ nt ++ (oP ++ (oR ++ tl))
  refine (List.Perm.append_left _ (List.perm_append_comm_assoc _ _ _)).trans ?_
  exact List.perm_append_comm_assoc _ _ _
end

theorem sep_addr {f f' R : List (Addr × Obj)} (h : Sep f R) (e : f'.map (·.1) = f.map (·.1)) : Sep f' R := by
  refine ⟨show (f'.map (·.1)).Nodup from e ▸ h.1, fun q hq => ?_⟩
  obtain ⟨p, hp, ep⟩ := List.mem_map.mp (e ▸ List.mem_map.mpr ⟨q, hq, rfl⟩ : q.1 ∈ f.map (·.1))
  exact ep ▸ h.2 p hp
theorem sep_ins {f g R : List (Addr × Obj)} {a : Addr} {o : Obj} (h : Sep (f ++ g) R) (h1 : Off a (f ++ (g ++ R))) : Sep (f ++ (a, o) :: g) R := by
  have h2 : Off a (f ++ g) := fun q hq => h1 q (by rw [← List.append_assoc]; exact List.mem_append_left _ hq)
  have h3 : Off a R := fun q hq => h1 q (by rw [← List.append_assoc]; exact List.mem_append_right _ hq)
  have h4 : Sep ((a, o) :: (f ++ g)) R := sep_cons.mpr ⟨⟨h2, h3⟩, h⟩
  exact h4.perm List.perm_middle.symm
/-- one address in the place of another -/
theorem sep_swap {f g R : List (Addr × Obj)} {a b : Addr} {o p : Obj} (h : Sep (f ++ (b, p) :: g) R) (h1 : Off a (f ++ (g ++ R))) : Sep (f ++ (a, o) :: g) R := by
  refine sep_ins ?_ h1
  have := (h.perm List.perm_middle)
  exact (sep_cons.mp this).2

theorem test_cut {prog : Program} {w : World} {A : Around} {E : Value → Shared → Prop} {s : Shared} {h₀ : Heap} {L : Addr} {m : Str → Option Value} {led : List (Addr × Obj)} {t : Sem Bool} {Q : Bool → Shared → Prop} (b : Bool)
    (F : Fr h₀ L s.heap m) (N : News h₀ L s.heap led) (h1 : wpAny (model prog w) A t (TestEnd h₀ L m s led b) E s) (h2 : ∀ h' tk', Fr h₀ L h' m → News h₀ L h' led → Q b { s with heap := h', toks := tk' }) :
    wpAny (model prog w) A t Q E s := wpAny_mono h1 (fun _ _ ⟨e, h', tk', e2, F', N'⟩ => by subst e e2; exact h2 h' tk' F' N') fun _ _ e => e
section
variable {a1 a2 a3 a4 a5 a6 a7 a8 a9 a10 a11 : Addr} {o1 o2 o3 o4 o5 o6 o7 o8 o9 o10 o11 : Obj} {f R : List (Addr × Obj)}
theorem sep_c (h : Sep ((a1, o1) :: f) R) : Off a1 (f ++ R) ∧ Sep f R := ⟨off_append.mpr (sep_cons.mp h).1, (sep_cons.mp h).2⟩
theorem sep_mk {a : Addr} {o : Obj} {f R : List (Addr × Obj)} (h : Off a (f ++ R)) (S : Sep f R) : Sep ((a, o) :: f) R := sep_cons.mpr ⟨off_append.mp h, S⟩
theorem sep4 (h : Sep ((a1, o1) :: (a2, o2) :: (a3, o3) :: (a4, o4) :: f) R) : Off a1 ((a2, o2) :: (a3, o3) :: (a4, o4) :: (f ++ R)) ∧ Off a2 ((a3, o3) :: (a4, o4) :: (f ++ R)) ∧ Off a3 ((a4, o4) :: (f ++ R)) ∧ Off a4 (f ++ R) ∧ Sep f R :=
  have h1 := sep_c h; have h2 := sep_c h1.2; have h3 := sep_c h2.2; have h4 := sep_c h3.2; ⟨h1.1, h2.1, h3.1, h4.1, h4.2⟩
theorem sep10 (h : Sep [(a1, o1), (a2, o2), (a3, o3), (a4, o4), (a5, o5), (a6, o6), (a7, o7), (a8, o8), (a9, o9), (a10, o10)] R) :
    Off a1 ((a2, o2) :: (a3, o3) :: (a4, o4) :: (a5, o5) :: (a6, o6) :: (a7, o7) :: (a8, o8) :: (a9, o9) :: (a10, o10) :: R) ∧ Off a2 ((a3, o3) :: (a4, o4) :: (a5, o5) :: (a6, o6) :: (a7, o7) :: (a8, o8) :: (a9, o9) :: (a10, o10) :: R) ∧
    Off a3 ((a4, o4) :: (a5, o5) :: (a6, o6) :: (a7, o7) :: (a8, o8) :: (a9, o9) :: (a10, o10) :: R) ∧ Off a4 ((a5, o5) :: (a6, o6) :: (a7, o7) :: (a8, o8) :: (a9, o9) :: (a10, o10) :: R) ∧ Off a5 ((a6, o6) :: (a7, o7) :: (a8, o8) :: (a9, o9) :: (a10, o10) :: R) ∧
    Off a6 ((a7, o7) :: (a8, o8) :: (a9, o9) :: (a10, o10) :: R) ∧ Off a7 ((a8, o8) :: (a9, o9) :: (a10, o10) :: R) ∧ Off a8 ((a9, o9) :: (a10, o10) :: R) ∧ Off a9 ((a10, o10) :: R) ∧ Off a10 R :=
  have h1 := sep4 h; have h2 := sep4 h1.2.2.2.2; have h3 := sep_c h2.2.2.2.2; have h4 := sep_c h3.2; ⟨h1.1, h1.2.1, h1.2.2.1, h1.2.2.2.1, h2.1, h2.2.1, h2.2.2.1, h2.2.2.2.1, h3.1, h4.1⟩
theorem sep11 (h : Sep [(a11, o11), (a1, o1), (a2, o2), (a3, o3), (a4, o4), (a5, o5), (a6, o6), (a7, o7), (a8, o8), (a9, o9), (a10, o10)] R) :
    Off a11 ((a1, o1) :: (a2, o2) :: (a3, o3) :: (a4, o4) :: (a5, o5) :: (a6, o6) :: (a7, o7) :: (a8, o8) :: (a9, o9) :: (a10, o10) :: R) ∧ Sep [(a1, o1), (a2, o2), (a3, o3), (a4, o4), (a5, o5), (a6, o6), (a7, o7), (a8, o8), (a9, o9), (a10, o10)] R := sep_c h
end
theorem hp3 {α : Type} {P : α → Prop} {a b c : α} (h1 : P a) (h2 : P b) (h3 : P c) : ∀ p ∈ [a, b, c], P p :=
  List.forall_mem_cons.mpr ⟨h1, List.forall_mem_cons.mpr ⟨h2, List.forall_mem_cons.mpr ⟨h3, fun _ h => nomatch h⟩⟩⟩
end Mine
namespace Mine
/-- how often from now on, on either side -/
def cntP (span t : Int) (us : List Int) : Nat := (us.filter fun u => decide (t - u < span)).length
def cntR (span t : Int) (us : List Int) : Nat := (us.filter fun u => decide (t - span < u)).length
structure Sync (span now : Int) (x : PW) (y : Row) : Prop where
  up : x.up = y.up
  there : x.there = y.there
  held : x.held = y.held
  cnt : ∀ t, now ≤ t → cntP span t x.ups = cntR span t y.times
theorem Sync.later {span now now' : Int} {x : PW} {y : Row} (h : Sync span now x y) (hn : now ≤ now') : Sync span now' x y :=
  ⟨h.up, h.there, h.held, fun t ht => h.cnt t (Int.le_trans hn ht)⟩
theorem cntP_append (span t : Int) (us : List Int) (u : Int) : cntP span t (us ++ [u]) = cntP span t us + if t - u < span then 1 else 0 := by
  unfold cntP
  rw [List.filter_append, List.length_append, List.filter_cons]
  by_cases h : t - u < span <;> simp [h]
theorem cntR_append (span t : Int) (us : List Int) (u : Int) : cntR span t (us ++ [u]) = cntR span t us + if t - u < span then 1 else 0 := by
  unfold cntR
  rw [List.filter_append, List.length_append, List.filter_cons]
  have e : (t - span < u) ↔ (t - u < span) := by omega
  by_cases h : t - u < span <;> simp [e, h]
theorem cntP_filter {span now t : Int} (ht : now ≤ t) (us : List Int) : cntP span t (us.filter fun u => decide (now - u < span)) = cntP span t us := by
  unfold cntP
  rw [List.filter_filter]
  congr 1
  refine List.filter_congr fun u _ => ?_
  by_cases h : t - u < span
  · have : now - u < span := by omega
    simp [h, this]
  · simp [h]
theorem cnt_app {span now : Int} {us ts : List Int} (h : ∀ t, now ≤ t → cntP span t us = cntR span t ts) (u : Int) : ∀ t, now ≤ t → cntP span t (us ++ [u]) = cntR span t (ts ++ [u]) := fun t ht => by
  rw [cntP_append, cntR_append, h t ht]
theorem sync_up {span now hold : Int} {most : Option Int} {x : PW} {y : Row} (h : Sync span now x y) :
    (prtUp now most span hold x).2 = (rowUp now most span hold y).2 ∧ Sync span now (prtUp now most span hold x).1 (rowUp now most span hold y).1 := by
  obtain ⟨xu, xt, xh, us⟩ := x
  obtain ⟨yu, yt, yh, ts⟩ := y
  obtain ⟨h1, h2, h3, h4⟩ := h
  dsimp only at h1 h2 h3 h4
  subst h1 h2 h3
  cases xu with
  | true => exact ⟨rfl, rfl, rfl, rfl, h4⟩
  | false =>
    cases hb : heldAt xh now with
    | true =>
      simp only [prtUp, rowUp, hb, Bool.false_eq_true, if_false, if_true]
      exact ⟨trivial, rfl, rfl, rfl, h4⟩
    | false =>
      cases most with
      | none =>
        simp only [prtUp, rowUp, hb, Bool.false_eq_true, if_false, full, Option.isSome_none]
        exact ⟨trivial, rfl, rfl, rfl, cnt_app h4 now⟩
      | some k =>
        have e : (us.filter fun u => decide (now - u < span)).length = (ts.filter fun u => decide (now - span < u)).length := h4 now (Int.le_refl _)
        simp only [prtUp, rowUp, hb, Bool.false_eq_true, if_false, full, Option.isSome_some, if_true, e]
        by_cases hf : k ≤ ((ts.filter fun u => decide (now - span < u)).length : Int)
        · simp only [hf, decide_true, if_true]
          exact ⟨trivial, rfl, rfl, rfl, fun t _ => rfl⟩
        · simp only [hf, decide_false, Bool.false_eq_true, if_false]
          exact ⟨trivial, rfl, rfl, rfl, cnt_app (fun t ht => by rw [cntP_filter ht]; exact h4 t ht) now⟩
theorem sync_down {span now : Int} {x : PW} {y : Row} (h : Sync span now x y) : (prtDown x).2 = (rowDown y).2 ∧ Sync span now (prtDown x).1 (rowDown y).1 := by
  refine ⟨?_, rfl, rfl, h.held, h.cnt⟩
  show (if x.up = true then Res.down else Res.same) = if y.up = true then Res.down else Res.same
  rw [h.up]
theorem sync_go {span now : Int} {x : PW} {y : Row} (h : Sync span now x y) : (prtGo now x).2 = (goRow now y).2 ∧ Sync span now (prtGo now x).1 (goRow now y).1 := by
  obtain ⟨xu, xt, xh, us⟩ := x
  obtain ⟨yu, yt, yh, ts⟩ := y
  obtain ⟨h1, h2, h3, h4⟩ := h
  dsimp only at h1 h2 h3 h4
  subst h1 h2 h3
  cases hd : dueAt xh now with
  | false =>
    simp only [prtGo, goRow, hd, Bool.false_eq_true, if_false]
    exact ⟨trivial, rfl, rfl, rfl, h4⟩
  | true =>
    cases xt with
    | true =>
      simp only [prtGo, goRow, hd, if_true]
      exact ⟨trivial, rfl, rfl, rfl, cnt_app h4 now⟩
    | false =>
      simp only [prtGo, goRow, hd, if_true, Bool.false_eq_true, if_false]
      exact ⟨trivial, rfl, rfl, rfl, h4⟩
theorem rowUp_res {now span hold : Int} {most : Option Int} (y : Row) : (rowUp now most span hold y).2 = .same ∨ (rowUp now most span hold y).2 = .held ∨ (rowUp now most span hold y).2 = .up := by
  unfold rowUp
  split
  · exact .inl rfl
  · split
    · exact .inr (.inl rfl)
    · split
      · exact .inr (.inl rfl)
      · exact .inr (.inr rfl)
end Mine
namespace Mine
local macro_rules | `(tactic| k_all) => `(tactic| k_extra "K_ALL")
local macro_rules | `(tactic| k_lt $_h:ident) => `(tactic| skip)
local macro_rules | `(tactic| k_ne) => `(tactic| k_extra "K_NE")
local macro_rules | `(tactic| cell_enter) => `(tactic| k_extra "ENTER")
local macro_rules | `(tactic| k_room) => `(tactic| k_extra "K_ROOM")
local macro_rules | `(tactic| k_units) => `(tactic| k_extra "K_UNITS")
local macro_rules | `(tactic| walk_at "FinE") => `(tactic| k_extra "X FinE")
local macro_rules | `(tactic| walk_at "exec Assign cons ListComp") => `(tactic| k_extra "X ALC")
local macro_rules | `(tactic| k_mem) => `(tactic| k_extra "K_MEM")
local macro_rules | `(tactic| k_handed) => `(tactic| exact HeldV.handed (by assumption))
local macro_rules | `(tactic| walk_at "CompSrcT") => `(tactic| k_extra "X CST")
local macro_rules | `(tactic| walk_at "FinA") => `(tactic| k_extra "X FinA")
local macro_rules | `(tactic| walk_at "call ref") => `(tactic| k_extra "X CALL")
local macro_rules | `(tactic| walk_at "exec For Name List cons nil") => `(tactic| k_extra "X FOR")
local macro_rules | `(tactic| walk_at "exec For Name Call cons nil") => `(tactic| k_extra "X FOR")
example : hd.heap_39 = hd.heap_39 ∧ PySem.Challenge.rw_pb0539_01 = PySem.Challenge.rw_pb0539_01 := by
  k_fill
  k_with_none
  k_with "K_ALL" => (first | assumption | exact List.forall_mem_nil _ | (refine' off_as 0 ?h8 ?m8; (case h8 => assumption); (case m8 => k_dflt (exact rfl))) | (refine' lt_as 0 ?h7 ?m7; (case h7 => assumption); (case m7 => k_dflt (exact rfl))) | (refine' off_c ?a9 ?b9; (case a9 => k_ne); (case b9 => k_all)) | (refine' List.forall_mem_cons.mpr ⟨?a, ?b⟩; (case a => k_ne); (case b => k_all)) | (refine' lt_off ?h9 ?m9; (case h9 => assumption); (case m9 => intro q9 hq9; (repeat (first | exact hq9 | refine List.Mem.tail _ ?_)))) | (refine' off_sub ?h9 ?m9; (case h9 => assumption); (case m9 => intro q9 hq9; (repeat (first | exact hq9 | refine List.Mem.tail _ ?_)))))
  k_with "K_NE" => (first | assumption | exact Ne.symm (by assumption) | (refine' lt_ne ?h9 ?m9; (case h9 => assumption); (case m9 => k_mem)) | (refine' lt_ne' ?h9 ?m9; (case h9 => assumption); (case m9 => k_mem)) | (refine' off_ne ?h9 ?m9; (case h9 => assumption); (case m9 => k_mem)) | (refine' off_ne' ?h9 ?m9; (case h9 => assumption); (case m9 => k_mem)) | (refine' lt_ne1 ?h9 ?m9; (case h9 => assumption); (case m9 => k_mem)) | (refine' lt_ne1' ?h9 ?m9; (case h9 => assumption); (case m9 => k_mem)) | (refine' lt_ne2 ?h9 ?m9; (case h9 => assumption); (case m9 => k_mem)) | (refine' lt_ne2' ?h9 ?m9; (case h9 => assumption); (case m9 => k_mem)) | (refine' lt_ne3 ?h9 ?m9; (case h9 => assumption); (case m9 => k_mem)) | (refine' lt_ne3' ?h9 ?m9; (case h9 => assumption); (case m9 => k_mem)) | (refine neN ?_; (try dsimp only); omega))
  k_with "K_MEM" => (first | with_reducible assumption | exact mm0 | exact mm1 | exact mm2 | exact mm3 | exact mm4 | exact mm5 | exact mm6 | exact mm7 | exact mm8 | exact mm9 | exact mm10 | exact mm11 | exact mm12 | ((repeat (first | with_reducible assumption | exact List.Mem.head _ | (refine mem_in ?_; with_reducible assumption) | refine' List.Mem.tail _ ?_)); done))
  k_with "K_SUB" => (first | exact hq | exact md1 hq | exact md2 hq | exact md3 hq | exact md4 hq | exact md5 hq | exact md6 hq | exact md7 hq | exact md8 hq | exact md9 hq | exact md10 hq | exact md11 hq | exact md12 hq | exact md13 hq | exact md14 hq | (repeat (first | exact hq | refine List.Mem.tail _ ?_)))
  k_with "ENTER" => (first | (refine' code_def ?k1 ?k2 ?k3 ?k4 ?k5 ?kA ?kF ?kK ?k6 ?k7 ?k8 ?k9 ?kB ?_ ?c2 ?c3 ?c4 ?c5; (case kA => exact rfl); (case kF => exact rfl); (case kK => first | assumption | exact rfl); (case k1 => k_asm); (case k2 => k_asm); (case k3 => k_asm); (case k4 => k_asm); (case k5 => k_asm); (case k6 => k_is); (case k7 => k_is); (case k8 => k_room); (case k9 => first | exact BindsTo.of_eq rfl | exact binds_K (by k_in) rfl (by k_is) rfl rfl rfl); (case c5 => decide); (case kB => exact locs rfl); (case c2 => exact rfl); (case c3 => exact rfl); (case c4 => exact rfl); k_whole; intro g' L' h' FG' F' N' B' X' T'; (try dsimp only); (try k_lift B'); (try k_fold)) | (refine' code_defC ?k1 ?k2 ?k3 ?k4 ?k5 ?kA ?kF ?kK ?k6 ?k7 ?k8 ?k9 ?kB ?kD ?_ ?c2 ?c3 ?c4; (case kA => exact rfl); (case kF => exact rfl); (case kK => first | assumption | exact rfl); (case k1 => k_asm); (case k2 => k_asm); (case k3 => k_asm); (case k4 => k_asm); (case k5 => k_asm); (case k6 => k_is); (case k7 => k_is); (case k8 => k_room); (case k9 => first | exact BindsTo.of_eq rfl | exact binds_K (by k_in) rfl (by k_is) rfl rfl rfl); (case kB => exact rfl); (case kD => decide +kernel); (case c2 => exact rfl); (case c3 => exact rfl); (case c4 => exact rfl); k_whole; intro g' L' h' tk' cells' FG' F' N' Y' B' X' T' l1; (try k_lt l1); k_cells Y'; (try simp only [List.cons_append, List.nil_append] at N'); (try dsimp only); (try k_lift B'); (try k_fold)))
  k_with "X FinE" => (((unfold LCg.FinE); intro D' h' tk' F' N' o1'; (have oD' := off_of_off1 o1'); (clear o1'); (try simp only [List.nil_append, List.cons_append] at N'); (try dsimp only)))
  k_with "X ALC" => ((k_here; with_reducible refine plainObj_wpAny_Assign_Attribute ?_ ?_; rotate_left; with_unfolding_all rfl))
  k_with "X FinA" => ((unfold LCg.FinA); intro upsA h' tk' F' N' o1'; (have oU := off_of_off1 o1'); (clear o1'); (try simp only [List.nil_append, List.cons_append] at N'); (try dsimp only))
  k_with "X FOR" => ((k_here; (rename Fr _ _ _ _ => lF'); (with_unfolding_all refine' For_invVF lF' ?k1 ?k2 ?_; (case k1 => exact rfl); (case k2 => exact rfl); k_whole)))
  k_with "K_ROOM" => (first | k_dflt (first | exact room_0 hd | exact room_of 1 hd | exact room_of 2 hd | exact room_of 3 hd | exact room_of 4 hd | exact room_of 5 hd | exact room_of 6 hd | exact room_of 7 hd | exact room_of 8 hd) | ktr_room)
  k_with "K_UNITS" => (first | k_dflt (first | exact units_of 103 hu | exact units_of 303 hu | exact units_of 203 hu | exact units_of 67 hu | exact units_of 503 hu | exact units_of 403 hu) | ktr_units)
  k_with "binaryOp Add ref ref" => (k_here; (with_reducible show wpAny _ _ (binaryOp _ (Value.ref _) (Value.ref _)) _ _ _); k_dflt (refine' addl_at ?k1 ?k2 ?k3 ?k4 ?k5 ?k6 ?_; (case k1 => k_asm); (case k2 => k_asm); (case k3 => k_mem); (case k4 => k_mem); (case k5 => first | assumption | decide | (simp only [List.length_cons, List.length_nil]; omega)); (case k6 => first | assumption | decide | (simp only [List.length_cons, List.length_nil]; omega)); k_whole); intro l' h' F' N' l1; (try k_lt l1); (try k_sweep))
  k_with "CompSrcT" => (k_here; k_dflt (refine LCt.CompSrcT.ledger (by rfl) (by k_asm) (by k_asm) (by k_mem) (by rw [sizeLine_eq, List.size_toArray]; omega) ?_); intro g'; k_dflt (refine' rest_filter _ ?hf ?hi ?hS (fun i9 t9 I9 oI9 C9 oC9 D9 ys9 m9 h' tk9 E9 hi9 hC9 hx9 F' N' off9 ne9 => ?_) (fun ys9 hys9 => ?_); (case hf => assumption); (case hi => assumption); (case hS => exact Or.inr ⟨_, by k_mem, rfl, _, rfl⟩)); (try k_fold))
  k_with "TestEnd" => (refine TestEnd.intro ?_ (by k_asm) (by k_asm); rfl)
  k_with "call builtin:len cons nil" => (k_here; (with_reducible show wpAny _ _ (call (Value.builtin "len") [Value.ref _]) _ _ _); k_dflt (refine' len_filt ?k1 ?k2 ?k3 ?k4 ?k5 ?_; (case k1 => k_asm); (case k2 => k_mem); (case k3 => assumption); (case k4 => assumption); (case k5 => assumption); k_whole))
  k_with "subscriptTail Attribute Name Name ref int" => (k_here; (with_reducible show wpAny _ _ (subscriptTail _ _ (Value.ref _) (Value.int _ _)) _ _ _); (try (k_dflt (refine kba_turn (value' := PySem.Expr.Name (PySem.Str.ofString "_") ⟨0, 0, 0, 0⟩) (fun _ => rfl) ?_))); k_dflt (refine' kda_item (knd := PySem.intKind _ _) ?N ?m ?d (intKind_is _ _ _ _) ?l ?_; (case N => k_asm); (case m => k_mem); (case d => assumption); (case l => assumption); k_whole))
  k_with "subscriptTail Name Name ref int" => (k_here; (with_reducible show wpAny _ _ (subscriptTail _ _ (Value.ref _) (Value.int _ _)) _ _ _); (try (k_dflt (refine kba_turn (value' := PySem.Expr.Name (PySem.Str.ofString "_") ⟨0, 0, 0, 0⟩) (fun _ => rfl) ?_))); k_dflt (refine' kda_item (knd := PySem.intKind _ _) ?N ?m ?d (intKind_is _ _ _ _) ?l ?_; (case N => k_asm); (case m => k_mem); (case d => assumption); (case l => assumption); k_whole))
  k_with "compareOp NotIn int ref" => (k_here; k_dflt (refine' kdg_notin (knd := PySem.intKind _ _) ?N ?m ?d ?lo (intKind_is _ _ _ _) true ?hb ?_; (case N => k_asm); (case m => k_mem); (case d => assumption); (case lo => assumption); (case hb => assumption); k_whole))
  k_with "call builtin:list.append nil" => (k_here; k_dflt (refine' append_at ?k1 ?k2 ?k3 ?k4 ?_; (case k1 => k_asm); (case k2 => k_asm); (case k3 => k_updF); (case k4 => first | assumption | exact filt_len (by assumption) (by assumption) (by assumption)); k_whole); intro h' F' N'; (try dsimp only at N'); (try k_sweep))
  k_with "call builtin:list.append cons nil" => (k_here; k_dflt (refine' append_at ?k1 ?k2 ?k3 ?k4 ?_; (case k1 => k_asm); (case k2 => k_asm); (case k3 => k_updF); (case k4 => first | assumption | exact filt_len (by assumption) (by assumption) (by assumption)); k_whole); intro h' F' N'; (try dsimp only at N'); (try k_sweep))
  k_with "call builtin:sorted cons nil" => (k_here; (with_reducible show wpAny _ _ (call (Value.builtin "sorted") [Value.ref _]) _ _ _); k_dflt (refine' sorted_at rfl ?k1 ?k2 ?k3 ?k4 ?k5 ?_; (case k1 => k_asm); (case k2 => k_asm); (case k3 => k_mem); (case k4 => assumption); (case k5 => assumption); k_whole); intro B' h' tk9 t3' t1' t2' F' N' l1; (try k_lt l1))
  exact ⟨rfl, rfl⟩
section
example : True := by
  k_with_none
  k_with "K_ALL" => (first | assumption | exact List.forall_mem_nil _ | (refine' off_as 0 ?h8 ?m8; (case h8 => assumption); (case m8 => k_dflt (exact rfl))) | (refine' lt_as 0 ?h7 ?m7; (case h7 => assumption); (case m7 => k_dflt (exact rfl))) | (refine' off_c ?a9 ?b9; (case a9 => k_ne); (case b9 => k_all)) | (refine' List.forall_mem_cons.mpr ⟨?a, ?b⟩; (case a => k_ne); (case b => k_all)) | (refine' lt_off ?h9 ?m9; (case h9 => assumption); (case m9 => intro q9 hq9; (repeat (first | exact hq9 | refine List.Mem.tail _ ?_)))) | (refine' off_sub ?h9 ?m9; (case h9 => assumption); (case m9 => intro q9 hq9; (repeat (first | exact hq9 | refine List.Mem.tail _ ?_)))))
  k_with "K_NE" => (first | assumption | exact Ne.symm (by assumption) | (refine' lt_ne ?h9 ?m9; (case h9 => assumption); (case m9 => k_mem)) | (refine' lt_ne' ?h9 ?m9; (case h9 => assumption); (case m9 => k_mem)) | (refine' off_ne ?h9 ?m9; (case h9 => assumption); (case m9 => k_mem)) | (refine' off_ne' ?h9 ?m9; (case h9 => assumption); (case m9 => k_mem)) | (refine' lt_ne1 ?h9 ?m9; (case h9 => assumption); (case m9 => k_mem)) | (refine' lt_ne1' ?h9 ?m9; (case h9 => assumption); (case m9 => k_mem)) | (refine' lt_ne2 ?h9 ?m9; (case h9 => assumption); (case m9 => k_mem)) | (refine' lt_ne2' ?h9 ?m9; (case h9 => assumption); (case m9 => k_mem)) | (refine' lt_ne3 ?h9 ?m9; (case h9 => assumption); (case m9 => k_mem)) | (refine' lt_ne3' ?h9 ?m9; (case h9 => assumption); (case m9 => k_mem)) | (refine neN ?_; (try dsimp only); omega))
  k_with "K_MEM" => (first | with_reducible assumption | exact mm0 | exact mm1 | exact mm2 | exact mm3 | exact mm4 | exact mm5 | exact mm6 | exact mm7 | exact mm8 | exact mm9 | exact mm10 | exact mm11 | exact mm12 | ((repeat (first | with_reducible assumption | exact List.Mem.head _ | (refine mem_in ?_; with_reducible assumption) | refine' List.Mem.tail _ ?_)); done))
  k_with "K_SUB" => (first | exact hq | exact md1 hq | exact md2 hq | exact md3 hq | exact md4 hq | exact md5 hq | exact md6 hq | exact md7 hq | exact md8 hq | exact md9 hq | exact md10 hq | exact md11 hq | exact md12 hq | exact md13 hq | exact md14 hq | (repeat (first | exact hq | refine List.Mem.tail _ ?_)))
  k_with "ENTER" => (first | (refine' code_def ?k1 ?k2 ?k3 ?k4 ?k5 ?kA ?kF ?kK ?k6 ?k7 ?k8 ?k9 ?kB ?_ ?c2 ?c3 ?c4 ?c5; (case kA => exact rfl); (case kF => exact rfl); (case kK => first | assumption | exact rfl); (case k1 => k_asm); (case k2 => k_asm); (case k3 => k_asm); (case k4 => k_asm); (case k5 => k_asm); (case k6 => k_is); (case k7 => k_is); (case k8 => k_room); (case k9 => first | exact BindsTo.of_eq rfl | exact binds_K (by k_in) rfl (by k_is) rfl rfl rfl); (case c5 => decide); (case kB => exact locs rfl); (case c2 => exact rfl); (case c3 => exact rfl); (case c4 => exact rfl); k_whole; intro g' L' h' FG' F' N' B' X' T'; (try dsimp only); (try k_lift B'); (try k_fold)) | (refine' code_defC ?k1 ?k2 ?k3 ?k4 ?k5 ?kA ?kF ?kK ?k6 ?k7 ?k8 ?k9 ?kB ?kD ?_ ?c2 ?c3 ?c4; (case kA => exact rfl); (case kF => exact rfl); (case kK => first | assumption | exact rfl); (case k1 => k_asm); (case k2 => k_asm); (case k3 => k_asm); (case k4 => k_asm); (case k5 => k_asm); (case k6 => k_is); (case k7 => k_is); (case k8 => k_room); (case k9 => first | exact BindsTo.of_eq rfl | exact binds_K (by k_in) rfl (by k_is) rfl rfl rfl); (case kB => exact rfl); (case kD => decide +kernel); (case c2 => exact rfl); (case c3 => exact rfl); (case c4 => exact rfl); k_whole; intro g' L' h' tk' cells' FG' F' N' Y' B' X' T' l1; (try k_lt l1); k_cells Y'; (try simp only [List.cons_append, List.nil_append] at N'); (try dsimp only); (try k_lift B'); (try k_fold)))
  k_with "X FinE" => (((unfold LCg.FinE); intro D' h' tk' F' N' o1'; (have oD' := off_of_off1 o1'); (clear o1'); (try simp only [List.nil_append, List.cons_append] at N'); (try dsimp only)))
  k_with "X ALC" => ((k_here; with_reducible refine plainObj_wpAny_Assign_Attribute ?_ ?_; rotate_left; with_unfolding_all rfl))
  k_with "X FinA" => ((unfold LCg.FinA); intro upsA h' tk' F' N' o1'; (have oU := off_of_off1 o1'); (clear o1'); (try simp only [List.nil_append, List.cons_append] at N'); (try dsimp only))
  k_with "X FOR" => ((k_here; (rename Fr _ _ _ _ => lF'); (with_unfolding_all refine' For_invVF lF' ?k1 ?k2 ?_; (case k1 => exact rfl); (case k2 => exact rfl); k_whole)))
  k_with "K_ROOM" => (first | k_dflt (first | exact room_0 hd | exact room_of 1 hd | exact room_of 2 hd | exact room_of 3 hd | exact room_of 4 hd | exact room_of 5 hd | exact room_of 6 hd | exact room_of 7 hd | exact room_of 8 hd) | ktr_room)
  k_with "K_UNITS" => (first | k_dflt (first | exact units_of 103 hu | exact units_of 303 hu | exact units_of 203 hu | exact units_of 67 hu | exact units_of 503 hu | exact units_of 403 hu) | ktr_units)
  k_with "binaryOp Add ref ref" => (k_here; (with_reducible show wpAny _ _ (binaryOp _ (Value.ref _) (Value.ref _)) _ _ _); k_dflt (refine' addl_at ?k1 ?k2 ?k3 ?k4 ?k5 ?k6 ?_; (case k1 => k_asm); (case k2 => k_asm); (case k3 => k_mem); (case k4 => k_mem); (case k5 => first | assumption | decide | (simp only [List.length_cons, List.length_nil]; omega)); (case k6 => first | assumption | decide | (simp only [List.length_cons, List.length_nil]; omega)); k_whole); intro l' h' F' N' l1; (try k_lt l1); (try k_sweep))
  k_with "CompSrcT" => (k_here; k_dflt (refine LCt.CompSrcT.ledger (by rfl) (by k_asm) (by k_asm) (by k_mem) (by rw [sizeLine_eq, List.size_toArray]; omega) ?_); intro g'; k_dflt (refine' rest_filter _ ?hf ?hi ?hS (fun i9 t9 I9 oI9 C9 oC9 D9 ys9 m9 h' tk9 E9 hi9 hC9 hx9 F' N' off9 ne9 => ?_) (fun ys9 hys9 => ?_); (case hf => assumption); (case hi => assumption); (case hS => exact Or.inr ⟨_, by k_mem, rfl, _, rfl⟩)); (try k_fold))
  k_with "TestEnd" => (refine TestEnd.intro ?_ (by k_asm) (by k_asm); rfl)
  k_with "call builtin:len cons nil" => (k_here; (with_reducible show wpAny _ _ (call (Value.builtin "len") [Value.ref _]) _ _ _); k_dflt (refine' len_filt ?k1 ?k2 ?k3 ?k4 ?k5 ?_; (case k1 => k_asm); (case k2 => k_mem); (case k3 => assumption); (case k4 => assumption); (case k5 => assumption); k_whole))
  k_with "subscriptTail Attribute Name Name ref int" => (k_here; (with_reducible show wpAny _ _ (subscriptTail _ _ (Value.ref _) (Value.int _ _)) _ _ _); (try (k_dflt (refine kba_turn (value' := PySem.Expr.Name (PySem.Str.ofString "_") ⟨0, 0, 0, 0⟩) (fun _ => rfl) ?_))); k_dflt (refine' kda_item (knd := PySem.intKind _ _) ?N ?m ?d (intKind_is _ _ _ _) ?l ?_; (case N => k_asm); (case m => k_mem); (case d => assumption); (case l => assumption); k_whole))
  k_with "subscriptTail Name Name ref int" => (k_here; (with_reducible show wpAny _ _ (subscriptTail _ _ (Value.ref _) (Value.int _ _)) _ _ _); (try (k_dflt (refine kba_turn (value' := PySem.Expr.Name (PySem.Str.ofString "_") ⟨0, 0, 0, 0⟩) (fun _ => rfl) ?_))); k_dflt (refine' kda_item (knd := PySem.intKind _ _) ?N ?m ?d (intKind_is _ _ _ _) ?l ?_; (case N => k_asm); (case m => k_mem); (case d => assumption); (case l => assumption); k_whole))
  k_with "compareOp NotIn int ref" => (k_here; k_dflt (refine' kdg_notin (knd := PySem.intKind _ _) ?N ?m ?d ?lo (intKind_is _ _ _ _) true ?hb ?_; (case N => k_asm); (case m => k_mem); (case d => assumption); (case lo => assumption); (case hb => assumption); k_whole))
  k_with "call builtin:list.append nil" => (k_here; k_dflt (refine' append_at ?k1 ?k2 ?k3 ?k4 ?_; (case k1 => k_asm); (case k2 => k_asm); (case k3 => k_updF); (case k4 => first | assumption | exact filt_len (by assumption) (by assumption) (by assumption)); k_whole); intro h' F' N'; (try dsimp only at N'); (try k_sweep))
  k_with "call builtin:list.append cons nil" => (k_here; k_dflt (refine' append_at ?k1 ?k2 ?k3 ?k4 ?_; (case k1 => k_asm); (case k2 => k_asm); (case k3 => k_updF); (case k4 => first | assumption | exact filt_len (by assumption) (by assumption) (by assumption)); k_whole); intro h' F' N'; (try dsimp only at N'); (try k_sweep))
  k_with "call builtin:sorted cons nil" => (k_here; (with_reducible show wpAny _ _ (call (Value.builtin "sorted") [Value.ref _]) _ _ _); k_dflt (refine' sorted_at rfl ?k1 ?k2 ?k3 ?k4 ?k5 ?_; (case k1 => k_asm); (case k2 => k_asm); (case k3 => k_mem); (case k4 => assumption); (case k5 => assumption); k_whole); intro B' h' tk9 t3' t1' t2' F' N' l1; (try k_lt l1))
  exact trivial
theorem port_spec (w : World) (c : PC) (C p : Addr) (n : Int) (tn : Tok) (oR : Obj) (kR : List (Int × Value)) (news : List (Addr × Obj))
   (m1 : (c.P, instObj 187 c.dP) ∈ news) (m2 : (c.dP, c.d C) ∈ news) (m3 : (c.R, oR) ∈ news) (hR : IntD w oR kR) (hRl : valueAt kR n = some (.ref p)) (hRs : (valueAt kR n).isSome = true) (hRn : (c.R == sysModules) = false) :
   Spec 1 w 142 [.ref c.P, .int n tn] news (fun r nx => r = .ref p ∧ nx = news) := by
  intro dp' un gd cn cs' a ccd cl outer A₀ base h₀ L m p' loose mean mg mb s Q E B F X N T hk hd hu hret
  refine wpAny_call ?_
  k_dflt cell_enter
  k_steps
  exact hret _ _ _ _ ⟨rfl, rfl⟩ (by assumption) (by assumption)
theorem held_spec (w : World) (w0 dw u : Addr) (kw : Ks) (hv : Value) (held : Option Int) (there : Bool) (now : Int) (tn : Tok) (news : List (Addr × Obj))
   (m1 : (w0, instObj 109 dw) ∈ news) (m2 : (dw, watchD kw u hv there) ∈ news) (hh : HeldV hv held) :
   Spec 1 w 101 [.ref w0, .int now tn] news (fun r nx => r = .bool (heldAt held now) ∧ nx = news) := by
  intro dp' un gd cn cs' a ccd cl outer A₀ base h₀ L m p' loose mean mg mb s Q E B F X N T hk hd hu hret
  refine wpAny_call ?_
  cases hh
  all_goals (k_dflt cell_enter)
  all_goals k_steps
  all_goals (exact hret _ _ _ _ ⟨rfl, rfl⟩ (by assumption) (by assumption))
theorem turn_spec (w : World) (c : PC) (C p dp : Addr) (kp : Ks) (n : Int) (tn tn2 : Tok) (spd fv mtu : Value) (up b : Bool) (oR : Obj) (kR : List (Int × Value)) (cs : List Value) (nc : Nat) (rest : List (Addr × Obj))
   (m1 : (c.P, instObj 187 c.dP) ∈ rest) (m2 : (c.dP, c.d C) ∈ rest) (m3 : (c.R, oR) ∈ rest) (m4 : (p, instObj 76 dp) ∈ rest) (o1 : Off dp rest) (o2 : Off C rest) (o3 : C ≠ dp) (hc : cs.length < 1000)
   (hR : IntD w oR kR) (hRl : valueAt kR n = some (.ref p)) :
   Spec 1 w 156 [.ref c.P, .int n tn, .bool b] ((dp, portD kp n tn2 spd up fv mtu) :: (C, listOf cs.toArray nc) :: rest)
     (fun _ nx => ∃ a, Off a ((dp, portD kp n tn2 spd up fv mtu) :: (C, listOf cs.toArray nc) :: rest) ∧ nx = (a, tupOf n tn b) :: (dp, portD kp n tn2 spd b fv mtu) :: (C, listOf (cs ++ [Value.ref a]).toArray (nc + 1)) :: rest) := by
  intro dp' un gd cn cs' a ccd cl outer A₀ base h₀ L m p' loose mean mg mb s Q E B F X N T hk hd hu hret
  refine wpAny_call ?_
  k_dflt cell_enter
  k_steps
  refine' hret _ _ _ _ ⟨_, ?ho, rfl⟩ (by assumption) ?hN
  case hN => assumption
  case ho => k_all
theorem rec_spec (w : World) (w0 dw u : Addr) (kw : Ks) (hv : Value) (there : Bool) (ups : List Int) (vs : List Value) (nu : Nat) (now span : Int) (tn ts : Tok) (rest : List (Addr × Obj))
   (m1 : (w0, instObj 109 dw) ∈ rest) (m2 : (u, listOf vs.toArray nu) ∈ rest) (o1 : Off dw rest) (hi : IntsAre vs ups) (hl : vs.length < 1000) :
   Spec 1 w 106 [.ref w0, .int now tn, .int span ts] ((dw, watchD kw u hv there) :: rest)
     (fun r nx => ∃ t D us k, r = .int ((ups.filter fun t => decide (now - t < span)).length : Int) t ∧ IntsAre us (ups.filter fun t => decide (now - t < span)) ∧ Off D ((dw, watchD kw u hv there) :: rest) ∧ nx = (D, listOf us.toArray k) :: (dw, watchD kw D hv there) :: rest) := by
  intro dp' un gd cn cs' a ccd cl outer A₀ base h₀ L m p' loose mean mg mb s Q E B F X N T hk hd hu hret
  have hF : FMark (fun t => decide (now - t < span)) := trivial
  refine wpAny_call ?_
  k_dflt cell_enter
  k_steps
  refine' hret _ _ _ _ ⟨_, _, _, _, rfl, ?hi, ?ho, rfl⟩ (by assumption) ?hN
  case hi => assumption
  case hN =>
    refine news_drop (by assumption) (List.forall_mem_cons.mpr ⟨by k_mem, List.forall_mem_cons.mpr ⟨by k_mem, fun q hq => ?_⟩⟩)
    k_extra "K_SUB"
  case ho => k_all
/-- ways to apply the contracts at a call -/
theorem UpdF.mem {d : Addr} {o : Obj} {l : List (Addr × Obj)} {g : Obj → List (Addr × Obj)} (U : UpdF d o l g) : (d, o) ∈ l := by
  obtain ⟨pre, post, rfl, _⟩ := U.split
  exact List.mem_append_right _ (.head _)
theorem UpdF.pair {d1 d2 : Addr} {o1 o2 : Obj} {l : List (Addr × Obj)} {g1 : Obj → List (Addr × Obj)} {g2 : Obj → Obj → List (Addr × Obj)} (U1 : UpdF d1 o1 l g1) (U2 : ∀ o, UpdF d2 o2 (g1 o) (g2 o)) (hd : d2 ≠ d1) :
    ∃ rest, Off d1 rest ∧ Off d2 rest ∧ (∀ q ∈ (d1, o1) :: (d2, o2) :: rest, q ∈ l) ∧ (∀ p1 p2, ∀ q ∈ g2 p1 p2, q ∈ (d1, p1) :: (d2, p2) :: rest) ∧ ∀ q ∈ l, q.1 ≠ d1 → q.1 ≠ d2 → q ∈ rest := by
  obtain ⟨r1, a1, a2, a3, a4⟩ := UpdF.two U1
  have back : ∀ p, ∀ q ∈ g1 p, q = (d1, p) ∨ q ∈ r1 := fun p q hq => List.mem_cons.mp (a3 p q hq)
  have m2 : (d2, o2) ∈ r1 := by
    rcases back o1 _ (UpdF.mem (U2 o1)) with e | h
    · exact (hd (congrArg Prod.fst e)).elim
    · exact h
  refine ⟨r1.filter fun q => q.1 != d2, fun q hq => a1 q (List.mem_filter.mp hq).1, fun q hq => by simpa using (List.mem_filter.mp hq).2, fun q hq => ?_, fun p1 p2 q hq => ?_, fun q hq e1 e2 => ?_⟩
  · rcases List.mem_cons.mp hq with rfl | hq
    · exact a2 _ (.head _)
    · rcases List.mem_cons.mp hq with rfl | hq
      · exact a2 _ (.tail _ m2)
      · exact a2 _ (.tail _ (List.mem_filter.mp hq).1)
  · obtain ⟨r2, b1, b2, b3, _⟩ := UpdF.two (U2 p1)
    rcases List.mem_cons.mp (b3 p2 q hq) with rfl | hq
    · exact .tail _ (.head _)
    · rcases back p1 q (b2 q (.tail _ hq)) with rfl | h
      · exact .head _
      · exact .tail _ (.tail _ (List.mem_filter.mpr ⟨h, by simpa using b1 q hq⟩))
  · exact List.mem_filter.mpr ⟨a4 q hq e1, by simpa using e2⟩
section
variable {k : Nat} {w : World} {dp un : Nat} {gd : Option (List Code)} {cn : Str} {cs : Scope} {a : Addr} {ccd : Value} {cl : List (Str × Addr)} {outer : List Env} {A₀ : Around} {base h₀ : Heap} {L : Addr} {m : Str → Option Value}
  {p : Program} {loose : List Str} {mean : ExcName → Option Value} {mg mb : Str → Option Value} {s : Shared} {Q E : Value → Shared → Prop} {news : List (Addr × Obj)}
theorem port_use {c : PC} {C q : Addr} {n : Int} {tn : Tok} {oR : Obj} {kR : List (Int × Value)}
    (B : Below A₀ base outer h₀) (F : Fr h₀ L s.heap m) (X : (hd.heap_39 w.params).In h₀) (N : News h₀ L s.heap news) (T : Top p loose mean mg mb h₀) (hk : cs.kind = .function) (hd : dp + 1 < recursionLimit) (hu : un + 100 * 1 < cLine)
    (m1 : (c.P, instObj 187 c.dP) ∈ news) (m2 : (c.dP, c.d C) ∈ news) (m3 : (c.R, oR) ∈ news) (hR : IntD w oR kR) (hRl : valueAt kR n = some (.ref q)) (hRs : (valueAt kR n).isSome = true) (hRn : (c.R == sysModules) = false)
    (hret : ∀ h' tk', Fr h₀ L h' m → News h₀ L h' news → Q (.ref q) { s with heap := h', toks := tk' }) :
    wpAny (model PySem.Challenge.rw_pb0539_01.prog w) (ktrTop dp un gd cn cs L a ccd cl outer) (call (.ref 142) [.ref c.P, .int n tn]) Q E s :=
  (port_spec w c C q n tn oR kR news m1 m2 m3 hR hRl hRs hRn).use B F X N (fun _ h => h) T hk hd hu fun _ _ h' tk' ⟨e1, e2⟩ F' N' => by
    subst e1 e2
    exact hret h' tk' F' N'
theorem held_use {w0 dw u : Addr} {kw : Ks} {hv : Value} {held : Option Int} {there : Bool} {now : Int} {tn : Tok}
    (B : Below A₀ base outer h₀) (F : Fr h₀ L s.heap m) (X : (hd.heap_39 w.params).In h₀) (N : News h₀ L s.heap news) (T : Top p loose mean mg mb h₀) (hk : cs.kind = .function) (hd : dp + 1 < recursionLimit) (hu : un + 100 * 1 < cLine)
    (m1 : (w0, instObj 109 dw) ∈ news) (m2 : (dw, watchD kw u hv there) ∈ news) (hh : HeldV hv held)
    (hret : ∀ h' tk', Fr h₀ L h' m → News h₀ L h' news → Q (.bool (heldAt held now)) { s with heap := h', toks := tk' }) :
    wpAny (model PySem.Challenge.rw_pb0539_01.prog w) (ktrTop dp un gd cn cs L a ccd cl outer) (call (.ref 101) [.ref w0, .int now tn]) Q E s :=
  (held_spec w w0 dw u kw hv held there now tn news m1 m2 hh).use B F X N (fun _ h => h) T hk hd hu fun _ _ h' tk' ⟨e1, e2⟩ F' N' => by
    subst e1 e2
    exact hret h' tk' F' N'
theorem rec_use {w0 dw u : Addr} {kw : Ks} {hv : Value} {there : Bool} {ups : List Int} {vs : List Value} {nu : Nat} {now span : Int} {tn ts : Tok} {g : Obj → List (Addr × Obj)}
    (B : Below A₀ base outer h₀) (F : Fr h₀ L s.heap m) (X : (hd.heap_39 w.params).In h₀) (N : News h₀ L s.heap news) (T : Top p loose mean mg mb h₀) (hk : cs.kind = .function) (hd : dp + 1 < recursionLimit) (hu : un + 100 * 1 < cLine)
    (U : UpdF dw (watchD kw u hv there) news g) (m1 : (w0, instObj 109 dw) ∈ news) (n1 : w0 ≠ dw) (m2 : (u, listOf vs.toArray nu) ∈ news) (n2 : u ≠ dw) (hi : IntsAre vs ups) (hl : vs.length < 1000)
    (hret : ∀ t D us k h' tk', IntsAre us (ups.filter fun t => decide (now - t < span)) → us.length ≤ vs.length → Off D news → Fr h₀ L h' m → News h₀ L h' ((D, listOf us.toArray k) :: g (watchD kw D hv there)) → Q (.int ((ups.filter fun t => decide (now - t < span)).length : Int) t) { s with heap := h', toks := tk' }) :
    wpAny (model PySem.Challenge.rw_pb0539_01.prog w) (ktrTop dp un gd cn cs L a ccd cl outer) (call (.ref 106) [.ref w0, .int now tn, .int span ts]) Q E s := by
  obtain ⟨rest, a1, a2, a3, a4⟩ := UpdF.two U
  have a5 : ∀ q ∈ news, q.1 ≠ dw → q ∈ rest := a4
  refine (rec_spec w w0 dw u kw hv there ups vs nu now span tn ts rest (a4 _ m1 n1) (a4 _ m2 n2) a1 hi hl).use B F X N a2 T hk hd hu ?_
  rintro r nx h' tk' ⟨t, D, us, k, rfl, c1, c2, rfl⟩ F' N'
  refine hret t D us k h' tk' c1 (filt_le c1 hi) (fun q hq => ?_) F' fun q hq => N' q ?_
  · by_cases e : q.1 = dw
    · rw [e]; exact c2 _ (.head _)
    · exact c2 q (.tail _ (a4 q hq e))
  · rcases List.mem_cons.mp hq with rfl | hq
    · exact .head _
    · exact .tail _ (a3 _ q hq)
theorem turn_use {c : PC} {C q dq : Addr} {kp : Ks} {n : Int} {tn tn2 : Tok} {spd fv mtu : Value} {up b : Bool} {oR : Obj} {kR : List (Int × Value)} {vs : List Value} {nc : Nat} {g1 : Obj → List (Addr × Obj)} {g2 : Obj → Obj → List (Addr × Obj)}
    (B : Below A₀ base outer h₀) (F : Fr h₀ L s.heap m) (X : (hd.heap_39 w.params).In h₀) (N : News h₀ L s.heap news) (T : Top p loose mean mg mb h₀) (hk : cs.kind = .function) (hd : dp + 1 < recursionLimit) (hu : un + 100 * 1 < cLine)
    (U1 : UpdF dq (portD kp n tn2 spd up fv mtu) news g1) (U2 : ∀ o, UpdF C (listOf vs.toArray nc) (g1 o) (g2 o)) (n0 : C ≠ dq)
    (m1 : (c.P, instObj 187 c.dP) ∈ news) (m2 : (c.dP, c.d C) ∈ news) (m3 : (c.R, oR) ∈ news) (m4 : (q, instObj 76 dq) ∈ news) (n1 : c.P ≠ dq ∧ c.P ≠ C) (n2 : c.dP ≠ dq ∧ c.dP ≠ C) (n3 : c.R ≠ dq ∧ c.R ≠ C) (n4 : q ≠ dq ∧ q ≠ C)
    (hc : vs.length < 1000) (hR : IntD w oR kR) (hRl : valueAt kR n = some (.ref q))
    (hret : ∀ r t h' tk', Off t news → Fr h₀ L h' m → News h₀ L h' ((t, tupOf n tn b) :: g2 (portD kp n tn2 spd b fv mtu) (listOf (vs ++ [Value.ref t]).toArray (nc + 1))) → Q r { s with heap := h', toks := tk' }) :
    wpAny (model PySem.Challenge.rw_pb0539_01.prog w) (ktrTop dp un gd cn cs L a ccd cl outer) (call (.ref 156) [.ref c.P, .int n tn, .bool b]) Q E s := by
  obtain ⟨rest, a1, a2, a3, a4, a5⟩ := UpdF.pair U1 U2 n0
  refine (turn_spec w c C q dq kp n tn tn2 spd fv mtu up b oR kR vs nc rest (a5 _ m1 n1.1 n1.2) (a5 _ m2 n2.1 n2.2) (a5 _ m3 n3.1 n3.2) (a5 _ m4 n4.1 n4.2) a1 a2 n0 hc hR hRl).use B F X N a3 T hk hd hu ?_
  rintro r nx h' tk' ⟨t, c1, rfl⟩ F' N'
  refine hret r t h' tk' (fun y hy => ?_) F' fun y hy => N' y ?_
  · by_cases e1 : y.1 = dq
    · rw [e1]; exact c1 _ (.head _)
    · by_cases e2 : y.1 = C
      · rw [e2]; exact c1 _ (.tail _ (.head _))
      · exact c1 y (.tail _ (.tail _ (a5 y hy e1 e2)))
  · rcases List.mem_cons.mp hy with rfl | hy
    · exact .head _
    · exact .tail _ (a4 _ _ y hy)
end
end
section
example : True := by
  k_with_none
  k_with "K_ALL" => (first | assumption | exact List.forall_mem_nil _ | (refine' off_as 0 ?h8 ?m8; (case h8 => assumption); (case m8 => k_dflt (exact rfl))) | (refine' lt_as 0 ?h7 ?m7; (case h7 => assumption); (case m7 => k_dflt (exact rfl))) | (refine' off_c ?a9 ?b9; (case a9 => k_ne); (case b9 => k_all)) | (refine' List.forall_mem_cons.mpr ⟨?a, ?b⟩; (case a => k_ne); (case b => k_all)) | (refine' lt_off ?h9 ?m9; (case h9 => assumption); (case m9 => intro q9 hq9; (repeat (first | exact hq9 | refine List.Mem.tail _ ?_)))) | (refine' off_sub ?h9 ?m9; (case h9 => assumption); (case m9 => intro q9 hq9; (repeat (first | exact hq9 | refine List.Mem.tail _ ?_)))))
  k_with "K_NE" => (first | assumption | exact Ne.symm (by assumption) | (refine' lt_ne ?h9 ?m9; (case h9 => assumption); (case m9 => k_mem)) | (refine' lt_ne' ?h9 ?m9; (case h9 => assumption); (case m9 => k_mem)) | (refine' off_ne ?h9 ?m9; (case h9 => assumption); (case m9 => k_mem)) | (refine' off_ne' ?h9 ?m9; (case h9 => assumption); (case m9 => k_mem)) | (refine' lt_ne1 ?h9 ?m9; (case h9 => assumption); (case m9 => k_mem)) | (refine' lt_ne1' ?h9 ?m9; (case h9 => assumption); (case m9 => k_mem)) | (refine' lt_ne2 ?h9 ?m9; (case h9 => assumption); (case m9 => k_mem)) | (refine' lt_ne2' ?h9 ?m9; (case h9 => assumption); (case m9 => k_mem)) | (refine' lt_ne3 ?h9 ?m9; (case h9 => assumption); (case m9 => k_mem)) | (refine' lt_ne3' ?h9 ?m9; (case h9 => assumption); (case m9 => k_mem)) | (refine neN ?_; (try dsimp only); omega))
  k_with "K_MEM" => (first | with_reducible assumption | exact mm0 | exact mm1 | exact mm2 | exact mm3 | exact mm4 | exact mm5 | exact mm6 | exact mm7 | exact mm8 | exact mm9 | exact mm10 | exact mm11 | exact mm12 | ((repeat (first | with_reducible assumption | exact List.Mem.head _ | (refine mem_in ?_; with_reducible assumption) | refine' List.Mem.tail _ ?_)); done))
  k_with "K_SUB" => (first | exact hq | exact md1 hq | exact md2 hq | exact md3 hq | exact md4 hq | exact md5 hq | exact md6 hq | exact md7 hq | exact md8 hq | exact md9 hq | exact md10 hq | exact md11 hq | exact md12 hq | exact md13 hq | exact md14 hq | (repeat (first | exact hq | refine List.Mem.tail _ ?_)))
  k_with "ENTER" => (first | (refine' code_def ?k1 ?k2 ?k3 ?k4 ?k5 ?kA ?kF ?kK ?k6 ?k7 ?k8 ?k9 ?kB ?_ ?c2 ?c3 ?c4 ?c5; (case kA => exact rfl); (case kF => exact rfl); (case kK => first | assumption | exact rfl); (case k1 => k_asm); (case k2 => k_asm); (case k3 => k_asm); (case k4 => k_asm); (case k5 => k_asm); (case k6 => k_is); (case k7 => k_is); (case k8 => k_room); (case k9 => first | exact BindsTo.of_eq rfl | exact binds_K (by k_in) rfl (by k_is) rfl rfl rfl); (case c5 => decide); (case kB => exact locs rfl); (case c2 => exact rfl); (case c3 => exact rfl); (case c4 => exact rfl); k_whole; intro g' L' h' FG' F' N' B' X' T'; (try dsimp only); (try k_lift B'); (try k_fold)) | (refine' code_defC ?k1 ?k2 ?k3 ?k4 ?k5 ?kA ?kF ?kK ?k6 ?k7 ?k8 ?k9 ?kB ?kD ?_ ?c2 ?c3 ?c4; (case kA => exact rfl); (case kF => exact rfl); (case kK => first | assumption | exact rfl); (case k1 => k_asm); (case k2 => k_asm); (case k3 => k_asm); (case k4 => k_asm); (case k5 => k_asm); (case k6 => k_is); (case k7 => k_is); (case k8 => k_room); (case k9 => first | exact BindsTo.of_eq rfl | exact binds_K (by k_in) rfl (by k_is) rfl rfl rfl); (case kB => exact rfl); (case kD => decide +kernel); (case c2 => exact rfl); (case c3 => exact rfl); (case c4 => exact rfl); k_whole; intro g' L' h' tk' cells' FG' F' N' Y' B' X' T' l1; (try k_lt l1); k_cells Y'; (try simp only [List.cons_append, List.nil_append] at N'); (try dsimp only); (try k_lift B'); (try k_fold)))
  k_with "X FinE" => (((unfold LCg.FinE); intro D' h' tk' F' N' o1'; (have oD' := off_of_off1 o1'); (clear o1'); (try simp only [List.nil_append, List.cons_append] at N'); (try dsimp only)))
  k_with "X ALC" => ((k_here; with_reducible refine plainObj_wpAny_Assign_Attribute ?_ ?_; rotate_left; with_unfolding_all rfl))
  k_with "X FinA" => ((unfold LCg.FinA); intro upsA h' tk' F' N' o1'; (have oU := off_of_off1 o1'); (clear o1'); (try simp only [List.nil_append, List.cons_append] at N'); (try dsimp only))
  k_with "X FOR" => ((k_here; (rename Fr _ _ _ _ => lF'); (with_unfolding_all refine' For_invVF lF' ?k1 ?k2 ?_; (case k1 => exact rfl); (case k2 => exact rfl); k_whole)))
  k_with "K_ROOM" => (first | k_dflt (first | exact room_0 hd | exact room_of 1 hd | exact room_of 2 hd | exact room_of 3 hd | exact room_of 4 hd | exact room_of 5 hd | exact room_of 6 hd | exact room_of 7 hd | exact room_of 8 hd) | ktr_room)
  k_with "K_UNITS" => (first | k_dflt (first | exact units_of 103 hu | exact units_of 303 hu | exact units_of 203 hu | exact units_of 67 hu | exact units_of 503 hu | exact units_of 403 hu) | ktr_units)
  k_with "binaryOp Add ref ref" => (k_here; (with_reducible show wpAny _ _ (binaryOp _ (Value.ref _) (Value.ref _)) _ _ _); k_dflt (refine' addl_at ?k1 ?k2 ?k3 ?k4 ?k5 ?k6 ?_; (case k1 => k_asm); (case k2 => k_asm); (case k3 => k_mem); (case k4 => k_mem); (case k5 => first | assumption | decide | (simp only [List.length_cons, List.length_nil]; omega)); (case k6 => first | assumption | decide | (simp only [List.length_cons, List.length_nil]; omega)); k_whole); intro l' h' F' N' l1; (try k_lt l1); (try k_sweep))
  k_with "CompSrcT" => (k_here; k_dflt (refine LCt.CompSrcT.ledger (by rfl) (by k_asm) (by k_asm) (by k_mem) (by rw [sizeLine_eq, List.size_toArray]; omega) ?_); intro g'; k_dflt (refine' rest_filter _ ?hf ?hi ?hS (fun i9 t9 I9 oI9 C9 oC9 D9 ys9 m9 h' tk9 E9 hi9 hC9 hx9 F' N' off9 ne9 => ?_) (fun ys9 hys9 => ?_); (case hf => assumption); (case hi => assumption); (case hS => exact Or.inr ⟨_, by k_mem, rfl, _, rfl⟩)); (try k_fold))
  k_with "TestEnd" => (refine TestEnd.intro ?_ (by k_asm) (by k_asm); rfl)
  k_with "call builtin:len cons nil" => (k_here; (with_reducible show wpAny _ _ (call (Value.builtin "len") [Value.ref _]) _ _ _); k_dflt (refine' len_filt ?k1 ?k2 ?k3 ?k4 ?k5 ?_; (case k1 => k_asm); (case k2 => k_mem); (case k3 => assumption); (case k4 => assumption); (case k5 => assumption); k_whole))
  k_with "subscriptTail Attribute Name Name ref int" => (k_here; (with_reducible show wpAny _ _ (subscriptTail _ _ (Value.ref _) (Value.int _ _)) _ _ _); (try (k_dflt (refine kba_turn (value' := PySem.Expr.Name (PySem.Str.ofString "_") ⟨0, 0, 0, 0⟩) (fun _ => rfl) ?_))); k_dflt (refine' kda_item (knd := PySem.intKind _ _) ?N ?m ?d (intKind_is _ _ _ _) ?l ?_; (case N => k_asm); (case m => k_mem); (case d => assumption); (case l => assumption); k_whole))
  k_with "subscriptTail Name Name ref int" => (k_here; (with_reducible show wpAny _ _ (subscriptTail _ _ (Value.ref _) (Value.int _ _)) _ _ _); (try (k_dflt (refine kba_turn (value' := PySem.Expr.Name (PySem.Str.ofString "_") ⟨0, 0, 0, 0⟩) (fun _ => rfl) ?_))); k_dflt (refine' kda_item (knd := PySem.intKind _ _) ?N ?m ?d (intKind_is _ _ _ _) ?l ?_; (case N => k_asm); (case m => k_mem); (case d => assumption); (case l => assumption); k_whole))
  k_with "compareOp NotIn int ref" => (k_here; k_dflt (refine' kdg_notin (knd := PySem.intKind _ _) ?N ?m ?d ?lo (intKind_is _ _ _ _) true ?hb ?_; (case N => k_asm); (case m => k_mem); (case d => assumption); (case lo => assumption); (case hb => assumption); k_whole))
  k_with "call builtin:list.append nil" => (k_here; k_dflt (refine' append_at ?k1 ?k2 ?k3 ?k4 ?_; (case k1 => k_asm); (case k2 => k_asm); (case k3 => k_updF); (case k4 => first | assumption | exact filt_len (by assumption) (by assumption) (by assumption)); k_whole); intro h' F' N'; (try dsimp only at N'); (try k_sweep))
  k_with "call builtin:list.append cons nil" => (k_here; k_dflt (refine' append_at ?k1 ?k2 ?k3 ?k4 ?_; (case k1 => k_asm); (case k2 => k_asm); (case k3 => k_updF); (case k4 => first | assumption | exact filt_len (by assumption) (by assumption) (by assumption)); k_whole); intro h' F' N'; (try dsimp only at N'); (try k_sweep))
  k_with "call builtin:sorted cons nil" => (k_here; (with_reducible show wpAny _ _ (call (Value.builtin "sorted") [Value.ref _]) _ _ _); k_dflt (refine' sorted_at rfl ?k1 ?k2 ?k3 ?k4 ?k5 ?_; (case k1 => k_asm); (case k2 => k_asm); (case k3 => k_mem); (case k4 => assumption); (case k5 => assumption); k_whole); intro B' h' tk9 t3' t1' t2' F' N' l1; (try k_lt l1))
  exact trivial
theorem rowUp_same {now span hold : Int} {most : Option Int} {x : Row} (h : x.up = true) : rowUp now most span hold x = (x, .same) := if_pos h
theorem rowUp_held {now span hold : Int} {most : Option Int} {x : Row} (h : x.up = false) (h2 : heldAt x.held now = true) : rowUp now most span hold x = (⟨x.up, true, x.held, x.times⟩, .held) := by
  unfold rowUp
  rw [if_neg (by rw [h]; exact Bool.false_ne_true), if_pos h2]
theorem rowUp_full {now span hold : Int} {most : Option Int} {x : Row} (h : x.up = false) (h2 : heldAt x.held now = false) (h3 : full most (x.times.filter fun t => decide (now - span < t)).length = true) :
    rowUp now most span hold x = (⟨x.up, true, some (now + hold), []⟩, .held) := by
  unfold rowUp
  rw [if_neg (by rw [h]; exact Bool.false_ne_true), if_neg (by rw [h2]; exact Bool.false_ne_true), if_pos h3]
theorem rowUp_up {now span hold : Int} {most : Option Int} {x : Row} (h : x.up = false) (h2 : heldAt x.held now = false) (h3 : full most (x.times.filter fun t => decide (now - span < t)).length = false) :
    rowUp now most span hold x = (⟨true, true, none, x.times ++ [now]⟩, .up) := by
  unfold rowUp
  rw [if_neg (by rw [h]; exact Bool.false_ne_true), if_neg (by rw [h2]; exact Bool.false_ne_true), if_neg (by rw [h3]; exact Bool.false_ne_true)]
def UpPost (w : World) (b : RBlk) (rest : List (Addr × Obj)) (now : Int) (most : Option Int) (span hold : Int) (K : Nat) (res : Value) (nx : List (Addr × Obj)) : Prop :=
  ∃ (b' : RBlk) (k : Res) (tk : Tok), rowUp now most span hold b.y = (b'.y, k) ∧ res = .str k.str tk ∧ b'.Ok w (K + 1) ∧ b'.r = b.r ∧ (b'.t = b.t ∨ Off b'.t (b.led ++ rest)) ∧ nx = b'.led ++ rest
theorem UpPost.intro {w : World} {b : RBlk} {rest : List (Addr × Obj)} {now : Int} {most : Option Int} {span hold : Int} {K : Nat} {t : Addr} {o : Obj} {hv : Value} {ts : List Value} {nt : Nat} {y : Row} {k : Res} {tk : Tok} (e : rowUp now most span hold b.y = (y, k))
    (ho : RowObj w o y t hv) (hi : IntsAre ts y.times) (hl : ts.length ≤ K + 1) (h : t = b.t ∨ Off t (b.led ++ rest)) : UpPost w b rest now most span hold K (.str k.str tk) ((b.r, o) :: (t, listOf ts.toArray nt) :: rest) :=
  ⟨⟨b.r, t, o, hv, ts, nt, y⟩, k, tk, e, rfl, ⟨ho, hi, hl⟩, rfl, h, rfl⟩
theorem lup_spec (w : World) (b : RBlk) (mv : Value) (now span hold : Int) (most : Option Int) (tn ts th : Tok) (K : Nat) (rest : List (Addr × Obj))
   (hr : Off b.r rest) (ht : Off b.t rest) (hrt : b.t ≠ b.r) (hb : b.Ok w K) (hK : K < 1000) (hm : HeldV mv most) :
   Spec 1 w 229 [.ref b.r, .int now tn, mv, .int span ts, .int hold th] ((b.r, b.o) :: (b.t, listOf b.ts.toArray b.nt) :: rest) (UpPost w b rest now most span hold K) := by
  intro dp un gd cn cs a ccd cl outer A₀ base h₀ L m p loose mean mg mb s Q E B F X N T hk hd hu hret
  obtain ⟨⟨hH, hO⟩, hi, hl⟩ := hb
  have hl' : b.ts.length < 1000 := Nat.lt_of_le_of_lt hl hK
  have hF : FMark (fun t => decide (now - span < t)) := trivial
  refine wpAny_call ?_
  k_dflt cell_enter
  repeat' ((fail_if_success (with_reducible show wpAny _ _ (truthy (Value.bool (Row.up _))) _ _ _)); first | (k_unfold; (try dsimp only)) | (k_end; wrow_close) | walk1 | (dsimp only; walk1) | (leave1; try dsimp only))
  cases hup : b.y.up
  all_goals repeat' ((fail_if_success (with_reducible show wpAny _ _ (isTrue (PySem.Expr.BoolOp _ _ _) _ _) _ _ _)); first | (k_unfold; (try dsimp only)) | (k_end; wrow_close) | walk1 | (dsimp only; walk1) | (leave1; try dsimp only))
  · refine test_cut (heldAt b.y.held now) (by assumption) (by assumption) ?_ ?_
    · rcases heldV_inv hH with ⟨e, e2⟩ | ⟨i, ti, e, e2⟩
      · rw [e2]
        repeat' ((fail_if_success (with_reducible show wpAny _ _ (compareOp _ _ (RBlk.hv _)) _ _ _)); (fail_if_success (with_reducible show wpAny _ _ (compareOp _ (RBlk.hv _) _) _ _ _)); first | (k_unfold; (try dsimp only)) | (k_end; wrow_close) | walk1 | (dsimp only; walk1) | (leave1; try dsimp only))
        show wpAny _ _ (compareOp CmpOp.IsNot b.hv Value.none) _ _ _
        rw [e]
        k_steps
      · rw [e2]
        repeat' ((fail_if_success (with_reducible show wpAny _ _ (compareOp _ _ (RBlk.hv _)) _ _ _)); (fail_if_success (with_reducible show wpAny _ _ (compareOp _ (RBlk.hv _) _) _ _ _)); first | (k_unfold; (try dsimp only)) | (k_end; wrow_close) | walk1 | (dsimp only; walk1) | (leave1; try dsimp only))
        show wpAny _ _ (compareOp CmpOp.IsNot b.hv Value.none) _ _ _
        rw [e]
        repeat' ((fail_if_success (with_reducible show wpAny _ _ (compareOp _ _ (RBlk.hv _)) _ _ _)); (fail_if_success (with_reducible show wpAny _ _ (compareOp _ (RBlk.hv _) _) _ _ _)); first | (k_unfold; (try dsimp only)) | (k_end; wrow_close) | walk1 | (dsimp only; walk1) | (leave1; try dsimp only))
        show wpAny _ _ (compareOp CmpOp.Lt _ b.hv) _ _ _
        rw [e]
        k_steps
        · exact TestEnd.intro (decide_eq_true (by assumption)).symm (by k_asm) (by k_asm)
        · exact TestEnd.intro (decide_eq_false (by assumption)).symm (by k_asm) (by k_asm)
    · intro h' tk' F' N'
      (try k_fold)
      repeat' ((fail_if_success (with_reducible show wpAny _ _ (isTrue (PySem.Expr.BoolOp _ _ _) _ _) _ _ _)); first | (k_unfold; (try dsimp only)) | (k_end; wrow_close) | walk1 | (dsimp only; walk1) | (leave1; try dsimp only))
      · refine' hret _ _ _ _ (UpPost.intro (rowUp_held hup (by assumption)) ⟨hH, by assumption⟩ hi (Nat.le_succ_of_le hl) (.inl rfl)) (by assumption) ?n0
        case n0 => (refine news_drop (by assumption) ?_; (iterate 2 (refine sub_cons (by k_mem) ?_)); intro q hq; k_extra "K_SUB")
      · refine test_cut (full most (b.y.times.filter fun t => decide (now - span < t)).length) (by assumption) (by assumption) ?_ ?_
        · rcases heldV_inv hm with ⟨rfl, rfl⟩ | ⟨i, ti, rfl, rfl⟩
          · k_steps
          · k_steps
            · refine TestEnd.intro (decide_eq_true (by assumption)).symm (by k_asm) (news_drop (by assumption) ?_)
              exact fun q hq => List.Mem.tail _ hq
            · refine TestEnd.intro (decide_eq_false (by assumption)).symm (by k_asm) (news_drop (by assumption) ?_)
              exact fun q hq => List.Mem.tail _ hq
        · intro h' tk' F' N'
          (try k_fold)
          k_steps
          · refine' hret _ _ _ _ (UpPost.intro (rowUp_full hup (by assumption) (by assumption)) ⟨.int _ _, by assumption⟩ .nil (Nat.zero_le _) (.inr ?o1)) (by assumption) ?n1
            case o1 => k_all
            case n1 => (refine news_drop (by assumption) ?_; (iterate 2 (refine sub_cons (by k_mem) ?_)); intro q hq; k_extra "K_SUB")
          · refine' hret _ _ _ _ (UpPost.intro (rowUp_up hup (by assumption) (by assumption)) ⟨.none, by assumption⟩ (IntsAre.append hi (.cons _ _ .nil)) ?len (.inr ?o2)) (by assumption) ?n2
            case len => rw [List.length_append]; exact Nat.succ_le_succ hl
            case o2 => k_all
            case n2 => (refine news_drop (by assumption) ?_; (iterate 2 (refine sub_cons (by k_mem) ?_)); intro q hq; k_extra "K_SUB")
  · refine' hret _ _ _ _ (UpPost.intro (rowUp_same hup) ⟨hH, by assumption⟩ hi (Nat.le_succ_of_le hl) (.inl rfl)) (by assumption) ?n3
    case n3 => (refine news_drop (by assumption) ?_; (iterate 2 (refine sub_cons (by k_mem) ?_)); intro q hq; k_extra "K_SUB")
end
section
example : True := by
  k_with_none
  k_with "K_ALL" => (first | assumption | exact List.forall_mem_nil _ | (refine' off_as 0 ?h8 ?m8; (case h8 => assumption); (case m8 => k_dflt (exact rfl))) | (refine' lt_as 0 ?h7 ?m7; (case h7 => assumption); (case m7 => k_dflt (exact rfl))) | (refine' off_c ?a9 ?b9; (case a9 => k_ne); (case b9 => k_all)) | (refine' List.forall_mem_cons.mpr ⟨?a, ?b⟩; (case a => k_ne); (case b => k_all)) | (refine' lt_off ?h9 ?m9; (case h9 => assumption); (case m9 => intro q9 hq9; (repeat (first | exact hq9 | refine List.Mem.tail _ ?_)))) | (refine' off_sub ?h9 ?m9; (case h9 => assumption); (case m9 => intro q9 hq9; (repeat (first | exact hq9 | refine List.Mem.tail _ ?_)))))
  k_with "K_NE" => (first | assumption | exact Ne.symm (by assumption) | (refine' lt_ne ?h9 ?m9; (case h9 => assumption); (case m9 => k_mem)) | (refine' lt_ne' ?h9 ?m9; (case h9 => assumption); (case m9 => k_mem)) | (refine' off_ne ?h9 ?m9; (case h9 => assumption); (case m9 => k_mem)) | (refine' off_ne' ?h9 ?m9; (case h9 => assumption); (case m9 => k_mem)) | (refine' lt_ne1 ?h9 ?m9; (case h9 => assumption); (case m9 => k_mem)) | (refine' lt_ne1' ?h9 ?m9; (case h9 => assumption); (case m9 => k_mem)) | (refine' lt_ne2 ?h9 ?m9; (case h9 => assumption); (case m9 => k_mem)) | (refine' lt_ne2' ?h9 ?m9; (case h9 => assumption); (case m9 => k_mem)) | (refine' lt_ne3 ?h9 ?m9; (case h9 => assumption); (case m9 => k_mem)) | (refine' lt_ne3' ?h9 ?m9; (case h9 => assumption); (case m9 => k_mem)) | (refine neN ?_; (try dsimp only); omega))
  k_with "K_MEM" => (first | with_reducible assumption | exact mm0 | exact mm1 | exact mm2 | exact mm3 | exact mm4 | exact mm5 | exact mm6 | exact mm7 | exact mm8 | exact mm9 | exact mm10 | exact mm11 | exact mm12 | ((repeat (first | with_reducible assumption | exact List.Mem.head _ | (refine mem_in ?_; with_reducible assumption) | refine' List.Mem.tail _ ?_)); done))
  k_with "K_SUB" => (first | exact hq | exact md1 hq | exact md2 hq | exact md3 hq | exact md4 hq | exact md5 hq | exact md6 hq | exact md7 hq | exact md8 hq | exact md9 hq | exact md10 hq | exact md11 hq | exact md12 hq | exact md13 hq | exact md14 hq | (repeat (first | exact hq | refine List.Mem.tail _ ?_)))
  k_with "ENTER" => (first | (refine' code_def ?k1 ?k2 ?k3 ?k4 ?k5 ?kA ?kF ?kK ?k6 ?k7 ?k8 ?k9 ?kB ?_ ?c2 ?c3 ?c4 ?c5; (case kA => exact rfl); (case kF => exact rfl); (case kK => first | assumption | exact rfl); (case k1 => k_asm); (case k2 => k_asm); (case k3 => k_asm); (case k4 => k_asm); (case k5 => k_asm); (case k6 => k_is); (case k7 => k_is); (case k8 => k_room); (case k9 => first | exact BindsTo.of_eq rfl | exact binds_K (by k_in) rfl (by k_is) rfl rfl rfl); (case c5 => decide); (case kB => exact locs rfl); (case c2 => exact rfl); (case c3 => exact rfl); (case c4 => exact rfl); k_whole; intro g' L' h' FG' F' N' B' X' T'; (try dsimp only); (try k_lift B'); (try k_fold)) | (refine' code_defC ?k1 ?k2 ?k3 ?k4 ?k5 ?kA ?kF ?kK ?k6 ?k7 ?k8 ?k9 ?kB ?kD ?_ ?c2 ?c3 ?c4; (case kA => exact rfl); (case kF => exact rfl); (case kK => first | assumption | exact rfl); (case k1 => k_asm); (case k2 => k_asm); (case k3 => k_asm); (case k4 => k_asm); (case k5 => k_asm); (case k6 => k_is); (case k7 => k_is); (case k8 => k_room); (case k9 => first | exact BindsTo.of_eq rfl | exact binds_K (by k_in) rfl (by k_is) rfl rfl rfl); (case kB => exact rfl); (case kD => decide +kernel); (case c2 => exact rfl); (case c3 => exact rfl); (case c4 => exact rfl); k_whole; intro g' L' h' tk' cells' FG' F' N' Y' B' X' T' l1; (try k_lt l1); k_cells Y'; (try simp only [List.cons_append, List.nil_append] at N'); (try dsimp only); (try k_lift B'); (try k_fold)))
  k_with "X FinE" => (((unfold LCg.FinE); intro D' h' tk' F' N' o1'; (have oD' := off_of_off1 o1'); (clear o1'); (try simp only [List.nil_append, List.cons_append] at N'); (try dsimp only)))
  k_with "X ALC" => ((k_here; with_reducible refine plainObj_wpAny_Assign_Attribute ?_ ?_; rotate_left; with_unfolding_all rfl))
  k_with "X FinA" => ((unfold LCg.FinA); intro upsA h' tk' F' N' o1'; (have oU := off_of_off1 o1'); (clear o1'); (try simp only [List.nil_append, List.cons_append] at N'); (try dsimp only))
  k_with "X FOR" => ((k_here; (rename Fr _ _ _ _ => lF'); (with_unfolding_all refine' For_invVF lF' ?k1 ?k2 ?_; (case k1 => exact rfl); (case k2 => exact rfl); k_whole)))
  k_with "K_ROOM" => (first | k_dflt (first | exact room_0 hd | exact room_of 1 hd | exact room_of 2 hd | exact room_of 3 hd | exact room_of 4 hd | exact room_of 5 hd | exact room_of 6 hd | exact room_of 7 hd | exact room_of 8 hd) | ktr_room)
  k_with "K_UNITS" => (first | k_dflt (first | exact units_of 103 hu | exact units_of 303 hu | exact units_of 203 hu | exact units_of 67 hu | exact units_of 503 hu | exact units_of 403 hu) | ktr_units)
  k_with "binaryOp Add ref ref" => (k_here; (with_reducible show wpAny _ _ (binaryOp _ (Value.ref _) (Value.ref _)) _ _ _); k_dflt (refine' addl_at ?k1 ?k2 ?k3 ?k4 ?k5 ?k6 ?_; (case k1 => k_asm); (case k2 => k_asm); (case k3 => k_mem); (case k4 => k_mem); (case k5 => first | assumption | decide | (simp only [List.length_cons, List.length_nil]; omega)); (case k6 => first | assumption | decide | (simp only [List.length_cons, List.length_nil]; omega)); k_whole); intro l' h' F' N' l1; (try k_lt l1); (try k_sweep))
  k_with "CompSrcT" => (k_here; k_dflt (refine LCt.CompSrcT.ledger (by rfl) (by k_asm) (by k_asm) (by k_mem) (by rw [sizeLine_eq, List.size_toArray]; omega) ?_); intro g'; k_dflt (refine' rest_filter _ ?hf ?hi ?hS (fun i9 t9 I9 oI9 C9 oC9 D9 ys9 m9 h' tk9 E9 hi9 hC9 hx9 F' N' off9 ne9 => ?_) (fun ys9 hys9 => ?_); (case hf => assumption); (case hi => assumption); (case hS => exact Or.inr ⟨_, by k_mem, rfl, _, rfl⟩)); (try k_fold))
  k_with "TestEnd" => (refine TestEnd.intro ?_ (by k_asm) (by k_asm); rfl)
  k_with "call builtin:len cons nil" => (k_here; (with_reducible show wpAny _ _ (call (Value.builtin "len") [Value.ref _]) _ _ _); k_dflt (refine' len_filt ?k1 ?k2 ?k3 ?k4 ?k5 ?_; (case k1 => k_asm); (case k2 => k_mem); (case k3 => assumption); (case k4 => assumption); (case k5 => assumption); k_whole))
  k_with "subscriptTail Attribute Name Name ref int" => (k_here; (with_reducible show wpAny _ _ (subscriptTail _ _ (Value.ref _) (Value.int _ _)) _ _ _); (try (k_dflt (refine kba_turn (value' := PySem.Expr.Name (PySem.Str.ofString "_") ⟨0, 0, 0, 0⟩) (fun _ => rfl) ?_))); k_dflt (refine' kda_item (knd := PySem.intKind _ _) ?N ?m ?d (intKind_is _ _ _ _) ?l ?_; (case N => k_asm); (case m => k_mem); (case d => assumption); (case l => assumption); k_whole))
  k_with "subscriptTail Name Name ref int" => (k_here; (with_reducible show wpAny _ _ (subscriptTail _ _ (Value.ref _) (Value.int _ _)) _ _ _); (try (k_dflt (refine kba_turn (value' := PySem.Expr.Name (PySem.Str.ofString "_") ⟨0, 0, 0, 0⟩) (fun _ => rfl) ?_))); k_dflt (refine' kda_item (knd := PySem.intKind _ _) ?N ?m ?d (intKind_is _ _ _ _) ?l ?_; (case N => k_asm); (case m => k_mem); (case d => assumption); (case l => assumption); k_whole))
  k_with "compareOp NotIn int ref" => (k_here; k_dflt (refine' kdg_notin (knd := PySem.intKind _ _) ?N ?m ?d ?lo (intKind_is _ _ _ _) true ?hb ?_; (case N => k_asm); (case m => k_mem); (case d => assumption); (case lo => assumption); (case hb => assumption); k_whole))
  k_with "call builtin:list.append nil" => (k_here; k_dflt (refine' append_at ?k1 ?k2 ?k3 ?k4 ?_; (case k1 => k_asm); (case k2 => k_asm); (case k3 => k_updF); (case k4 => first | assumption | exact filt_len (by assumption) (by assumption) (by assumption)); k_whole); intro h' F' N'; (try dsimp only at N'); (try k_sweep))
  k_with "call builtin:list.append cons nil" => (k_here; k_dflt (refine' append_at ?k1 ?k2 ?k3 ?k4 ?_; (case k1 => k_asm); (case k2 => k_asm); (case k3 => k_updF); (case k4 => first | assumption | exact filt_len (by assumption) (by assumption) (by assumption)); k_whole); intro h' F' N'; (try dsimp only at N'); (try k_sweep))
  k_with "call builtin:sorted cons nil" => (k_here; (with_reducible show wpAny _ _ (call (Value.builtin "sorted") [Value.ref _]) _ _ _); k_dflt (refine' sorted_at rfl ?k1 ?k2 ?k3 ?k4 ?k5 ?_; (case k1 => k_asm); (case k2 => k_asm); (case k3 => k_mem); (case k4 => assumption); (case k5 => assumption); k_whole); intro B' h' tk9 t3' t1' t2' F' N' l1; (try k_lt l1))
  exact trivial
def DownPost (w : World) (r t : Addr) (rest : List (Addr × Obj)) (hv : Value) (x : Row) (res : Value) (nx : List (Addr × Obj)) : Prop :=
  ∃ o' tk, res = .str (rowDown x).2.str tk ∧ RowObj w o' (rowDown x).1 t hv ∧ nx = (r, o') :: rest
theorem ldown_spec (w : World) (r t : Addr) (x : Row) (o : Obj) (hv : Value) (rest : List (Addr × Obj))
   (hr : Off r rest) (hx : RowObj w o x t hv) :
   Spec 1 w 236 [.ref r] ((r, o) :: rest) (DownPost w r t rest hv x) := by
  intro dp un gd cn cs a ccd cl outer A₀ base h₀ L m p loose mean mg mb s Q E B F X N T hk hd hu hret
  obtain ⟨hH, hO⟩ := hx
  obtain ⟨up, there, held, times⟩ := x
  dsimp only at hH hO
  cases up
  all_goals (refine wpAny_call ?_)
  all_goals (k_dflt cell_enter)
  all_goals k_steps
  all_goals (
    refine' hret _ _ _ _ ⟨_, _, rfl, ⟨hH, ?ho⟩, rfl⟩ (by assumption) ?N
    case ho => assumption
    case N => 
      refine news_drop (by assumption) (List.forall_mem_cons.mpr ⟨by k_mem, fun q hq => ?_⟩)
      k_extra "K_SUB")
end
section
example : True := by
  k_with_none
  k_with "K_ALL" => (first | assumption | exact List.forall_mem_nil _ | (refine' off_as 0 ?h8 ?m8; (case h8 => assumption); (case m8 => k_dflt (exact rfl))) | (refine' lt_as 0 ?h7 ?m7; (case h7 => assumption); (case m7 => k_dflt (exact rfl))) | (refine' off_c ?a9 ?b9; (case a9 => k_ne); (case b9 => k_all)) | (refine' List.forall_mem_cons.mpr ⟨?a, ?b⟩; (case a => k_ne); (case b => k_all)) | (refine' lt_off ?h9 ?m9; (case h9 => assumption); (case m9 => intro q9 hq9; (repeat (first | exact hq9 | refine List.Mem.tail _ ?_)))) | (refine' off_sub ?h9 ?m9; (case h9 => assumption); (case m9 => intro q9 hq9; (repeat (first | exact hq9 | refine List.Mem.tail _ ?_)))))
  k_with "K_NE" => (first | assumption | exact Ne.symm (by assumption) | (refine' lt_ne ?h9 ?m9; (case h9 => assumption); (case m9 => k_mem)) | (refine' lt_ne' ?h9 ?m9; (case h9 => assumption); (case m9 => k_mem)) | (refine' off_ne ?h9 ?m9; (case h9 => assumption); (case m9 => k_mem)) | (refine' off_ne' ?h9 ?m9; (case h9 => assumption); (case m9 => k_mem)) | (refine' lt_ne1 ?h9 ?m9; (case h9 => assumption); (case m9 => k_mem)) | (refine' lt_ne1' ?h9 ?m9; (case h9 => assumption); (case m9 => k_mem)) | (refine' lt_ne2 ?h9 ?m9; (case h9 => assumption); (case m9 => k_mem)) | (refine' lt_ne2' ?h9 ?m9; (case h9 => assumption); (case m9 => k_mem)) | (refine' lt_ne3 ?h9 ?m9; (case h9 => assumption); (case m9 => k_mem)) | (refine' lt_ne3' ?h9 ?m9; (case h9 => assumption); (case m9 => k_mem)) | (refine neN ?_; (try dsimp only); omega))
  k_with "K_MEM" => (first | with_reducible assumption | exact mm0 | exact mm1 | exact mm2 | exact mm3 | exact mm4 | exact mm5 | exact mm6 | exact mm7 | exact mm8 | exact mm9 | exact mm10 | exact mm11 | exact mm12 | ((repeat (first | with_reducible assumption | exact List.Mem.head _ | (refine mem_in ?_; with_reducible assumption) | refine' List.Mem.tail _ ?_)); done))
  k_with "K_SUB" => (first | exact hq | exact md1 hq | exact md2 hq | exact md3 hq | exact md4 hq | exact md5 hq | exact md6 hq | exact md7 hq | exact md8 hq | exact md9 hq | exact md10 hq | exact md11 hq | exact md12 hq | exact md13 hq | exact md14 hq | (repeat (first | exact hq | refine List.Mem.tail _ ?_)))
  k_with "ENTER" => (first | (refine' code_def ?k1 ?k2 ?k3 ?k4 ?k5 ?kA ?kF ?kK ?k6 ?k7 ?k8 ?k9 ?kB ?_ ?c2 ?c3 ?c4 ?c5; (case kA => exact rfl); (case kF => exact rfl); (case kK => first | assumption | exact rfl); (case k1 => k_asm); (case k2 => k_asm); (case k3 => k_asm); (case k4 => k_asm); (case k5 => k_asm); (case k6 => k_is); (case k7 => k_is); (case k8 => k_room); (case k9 => first | exact BindsTo.of_eq rfl | exact binds_K (by k_in) rfl (by k_is) rfl rfl rfl); (case c5 => decide); (case kB => exact locs rfl); (case c2 => exact rfl); (case c3 => exact rfl); (case c4 => exact rfl); k_whole; intro g' L' h' FG' F' N' B' X' T'; (try dsimp only); (try k_lift B'); (try k_fold)) | (refine' code_defC ?k1 ?k2 ?k3 ?k4 ?k5 ?kA ?kF ?kK ?k6 ?k7 ?k8 ?k9 ?kB ?kD ?_ ?c2 ?c3 ?c4; (case kA => exact rfl); (case kF => exact rfl); (case kK => first | assumption | exact rfl); (case k1 => k_asm); (case k2 => k_asm); (case k3 => k_asm); (case k4 => k_asm); (case k5 => k_asm); (case k6 => k_is); (case k7 => k_is); (case k8 => k_room); (case k9 => first | exact BindsTo.of_eq rfl | exact binds_K (by k_in) rfl (by k_is) rfl rfl rfl); (case kB => exact rfl); (case kD => decide +kernel); (case c2 => exact rfl); (case c3 => exact rfl); (case c4 => exact rfl); k_whole; intro g' L' h' tk' cells' FG' F' N' Y' B' X' T' l1; (try k_lt l1); k_cells Y'; (try simp only [List.cons_append, List.nil_append] at N'); (try dsimp only); (try k_lift B'); (try k_fold)))
  k_with "X FinE" => (((unfold LCg.FinE); intro D' h' tk' F' N' o1'; (have oD' := off_of_off1 o1'); (clear o1'); (try simp only [List.nil_append, List.cons_append] at N'); (try dsimp only)))
  k_with "X ALC" => ((k_here; with_reducible refine plainObj_wpAny_Assign_Attribute ?_ ?_; rotate_left; with_unfolding_all rfl))
  k_with "X FinA" => ((unfold LCg.FinA); intro upsA h' tk' F' N' o1'; (have oU := off_of_off1 o1'); (clear o1'); (try simp only [List.nil_append, List.cons_append] at N'); (try dsimp only))
  k_with "X FOR" => ((k_here; (rename Fr _ _ _ _ => lF'); (with_unfolding_all refine' For_invVF lF' ?k1 ?k2 ?_; (case k1 => exact rfl); (case k2 => exact rfl); k_whole)))
  k_with "K_ROOM" => (first | k_dflt (first | exact room_0 hd | exact room_of 1 hd | exact room_of 2 hd | exact room_of 3 hd | exact room_of 4 hd | exact room_of 5 hd | exact room_of 6 hd | exact room_of 7 hd | exact room_of 8 hd) | ktr_room)
  k_with "K_UNITS" => (first | k_dflt (first | exact units_of 103 hu | exact units_of 303 hu | exact units_of 203 hu | exact units_of 67 hu | exact units_of 503 hu | exact units_of 403 hu) | ktr_units)
  k_with "binaryOp Add ref ref" => (k_here; (with_reducible show wpAny _ _ (binaryOp _ (Value.ref _) (Value.ref _)) _ _ _); k_dflt (refine' addl_at ?k1 ?k2 ?k3 ?k4 ?k5 ?k6 ?_; (case k1 => k_asm); (case k2 => k_asm); (case k3 => k_mem); (case k4 => k_mem); (case k5 => first | assumption | decide | (simp only [List.length_cons, List.length_nil]; omega)); (case k6 => first | assumption | decide | (simp only [List.length_cons, List.length_nil]; omega)); k_whole); intro l' h' F' N' l1; (try k_lt l1); (try k_sweep))
  k_with "CompSrcT" => (k_here; k_dflt (refine LCt.CompSrcT.ledger (by rfl) (by k_asm) (by k_asm) (by k_mem) (by rw [sizeLine_eq, List.size_toArray]; omega) ?_); intro g'; k_dflt (refine' rest_filter _ ?hf ?hi ?hS (fun i9 t9 I9 oI9 C9 oC9 D9 ys9 m9 h' tk9 E9 hi9 hC9 hx9 F' N' off9 ne9 => ?_) (fun ys9 hys9 => ?_); (case hf => assumption); (case hi => assumption); (case hS => exact Or.inr ⟨_, by k_mem, rfl, _, rfl⟩)); (try k_fold))
  k_with "TestEnd" => (refine TestEnd.intro ?_ (by k_asm) (by k_asm); rfl)
  k_with "call builtin:len cons nil" => (k_here; (with_reducible show wpAny _ _ (call (Value.builtin "len") [Value.ref _]) _ _ _); k_dflt (refine' len_filt ?k1 ?k2 ?k3 ?k4 ?k5 ?_; (case k1 => k_asm); (case k2 => k_mem); (case k3 => assumption); (case k4 => assumption); (case k5 => assumption); k_whole))
  k_with "subscriptTail Attribute Name Name ref int" => (k_here; (with_reducible show wpAny _ _ (subscriptTail _ _ (Value.ref _) (Value.int _ _)) _ _ _); (try (k_dflt (refine kba_turn (value' := PySem.Expr.Name (PySem.Str.ofString "_") ⟨0, 0, 0, 0⟩) (fun _ => rfl) ?_))); k_dflt (refine' kda_item (knd := PySem.intKind _ _) ?N ?m ?d (intKind_is _ _ _ _) ?l ?_; (case N => k_asm); (case m => k_mem); (case d => assumption); (case l => assumption); k_whole))
  k_with "subscriptTail Name Name ref int" => (k_here; (with_reducible show wpAny _ _ (subscriptTail _ _ (Value.ref _) (Value.int _ _)) _ _ _); (try (k_dflt (refine kba_turn (value' := PySem.Expr.Name (PySem.Str.ofString "_") ⟨0, 0, 0, 0⟩) (fun _ => rfl) ?_))); k_dflt (refine' kda_item (knd := PySem.intKind _ _) ?N ?m ?d (intKind_is _ _ _ _) ?l ?_; (case N => k_asm); (case m => k_mem); (case d => assumption); (case l => assumption); k_whole))
  k_with "compareOp NotIn int ref" => (k_here; k_dflt (refine' kdg_notin (knd := PySem.intKind _ _) ?N ?m ?d ?lo (intKind_is _ _ _ _) true ?hb ?_; (case N => k_asm); (case m => k_mem); (case d => assumption); (case lo => assumption); (case hb => assumption); k_whole))
  k_with "call builtin:list.append nil" => (k_here; k_dflt (refine' append_at ?k1 ?k2 ?k3 ?k4 ?_; (case k1 => k_asm); (case k2 => k_asm); (case k3 => k_updF); (case k4 => first | assumption | exact filt_len (by assumption) (by assumption) (by assumption)); k_whole); intro h' F' N'; (try dsimp only at N'); (try k_sweep))
  k_with "call builtin:list.append cons nil" => (k_here; k_dflt (refine' append_at ?k1 ?k2 ?k3 ?k4 ?_; (case k1 => k_asm); (case k2 => k_asm); (case k3 => k_updF); (case k4 => first | assumption | exact filt_len (by assumption) (by assumption) (by assumption)); k_whole); intro h' F' N'; (try dsimp only at N'); (try k_sweep))
  k_with "call builtin:sorted cons nil" => (k_here; (with_reducible show wpAny _ _ (call (Value.builtin "sorted") [Value.ref _]) _ _ _); k_dflt (refine' sorted_at rfl ?k1 ?k2 ?k3 ?k4 ?k5 ?_; (case k1 => k_asm); (case k2 => k_asm); (case k3 => k_mem); (case k4 => assumption); (case k5 => assumption); k_whole); intro B' h' tk9 t3' t1' t2' F' N' l1; (try k_lt l1))
  exact trivial
example : True := by
  k_with "call ref cons nil" => (k_here; (with_reducible show wpAny _ _ (call (Value.ref 142) _) _ _ _); k_dflt (refine' port_use ?k1 ?k2 ?k3 ?k4 ?k5 ?k6 ?k7 ?k8 ?k9 ?k10 ?k11 ?k12 ?k13 ?k14 ?k15 ?_; (case k1 => k_asm); (case k2 => k_asm); (case k3 => k_asm); (case k4 => k_asm); (case k5 => k_asm); (case k6 => first | exact rfl | assumption); (case k7 => k_room); (case k8 => k_units); (case k9 => k_mem); (case k10 => k_mem); (case k11 => k_mem); (case k12 => assumption); (case k13 => assumption); (case k14 => assumption); (case k15 => assumption); k_whole); intro h' tk9 F' N'; (try dsimp only); (try k_fold))
  k_with "call ref cons nil" => (k_here; (with_reducible show wpAny _ _ (call (Value.ref 101) _) _ _ _); k_dflt (refine' held_use ?k1 ?k2 ?k3 ?k4 ?k5 ?k6 ?k7 ?k8 ?k9 ?k10 ?k11 ?_; (case k1 => k_asm); (case k2 => k_asm); (case k3 => k_asm); (case k4 => k_asm); (case k5 => k_asm); (case k6 => first | exact rfl | assumption); (case k7 => k_room); (case k8 => k_units); (case k9 => k_mem); (case k10 => k_mem); (case k11 => assumption); k_whole); intro h' tk9 F' N'; (try dsimp only); (try k_fold))
  k_with "call ref cons nil" => (k_here; (with_reducible show wpAny _ _ (call (Value.ref 106) _) _ _ _); k_dflt (refine' rec_use ?k1 ?k2 ?k3 ?k4 ?k5 ?k6 ?k7 ?k8 ?k9 ?k10 ?k11 ?k12 ?k13 ?k14 ?k15 ?_; (case k1 => k_asm); (case k2 => k_asm); (case k3 => k_asm); (case k4 => k_asm); (case k5 => k_asm); (case k6 => first | exact rfl | assumption); (case k7 => k_room); (case k8 => k_units); (case k10 => k_mem); (case k9 => k_updF); (case k11 => k_ne); (case k12 => k_mem); (case k13 => k_ne); (case k14 => assumption); (case k15 => assumption); k_whole); intro t9 D9 us9 k9 h' tk9 hI9 hL9 oD9 F' N'; (try dsimp only at N'); (try dsimp only); (try k_fold))
  k_with "call ref cons nil" => (k_here; (with_reducible show wpAny _ _ (call (Value.ref 156) _) _ _ _); k_dflt (refine' turn_use ?k1 ?k2 ?k3 ?k4 ?k5 ?k6 ?k7 ?k8 ?u1 ?u2 ?n0 ?k9 ?k10 ?k11 ?k12 ?n1 ?n2 ?n3 ?n4 ?k13 ?k14 ?k15 ?_; (case k1 => k_asm); (case k2 => k_asm); (case k3 => k_asm); (case k4 => k_asm); (case k5 => k_asm); (case k6 => first | exact rfl | assumption); (case k7 => k_room); (case k8 => k_units); (case k11 => k_mem); (case k14 => assumption); (case k15 => assumption); (case k12 => k_mem); (case u1 => k_updF); (case k9 => k_mem); (case k10 => k_mem); (case u2 => intro o9; (try dsimp only); k_updF); (case n0 => k_ne); (case n1 => exact ⟨by k_ne, by k_ne⟩); (case n2 => exact ⟨by k_ne, by k_ne⟩); (case n3 => exact ⟨by k_ne, by k_ne⟩); (case n4 => exact ⟨by k_ne, by k_ne⟩); (case k13 => assumption); k_whole); intro r9 t9 h' tk9 oD9 F' N'; (try dsimp only at N'); (try dsimp only); (try k_fold))
  exact trivial

@[reducible] def pupLed (c : PC) (C : Addr) (n : Int) (b : PBlk) (oR oW : Obj) (cs : List Value) (nc : Nat) (rest : List (Addr × Obj)) : List (Addr × Obj) :=
  (c.P, instObj 187 c.dP) :: (c.dP, c.d C) :: (c.R, oR) :: (c.W, oW) :: (C, listOf cs.toArray nc) :: (b.p, instObj 76 b.dp) :: (b.dp, portD b.kp n b.tn b.spd b.x.up b.fv b.mtu) :: (b.w0, instObj 109 b.dw) :: (b.dw, watchD b.kw b.u b.hv b.x.there) :: (b.u, listOf b.vs.toArray b.nu) :: rest
theorem prtUp_same {now span hold : Int} {most : Option Int} {x : PW} (h : x.up = true) : prtUp now most span hold x = (x, .same) := if_pos h
theorem prtUp_held {now span hold : Int} {most : Option Int} {x : PW} (h : x.up = false) (h2 : heldAt x.held now = true) : prtUp now most span hold x = ({ x with there := true }, .held) := by
  unfold prtUp
  rw [if_neg (by rw [h]; exact Bool.false_ne_true), if_pos h2]
theorem prtUp_none {now span hold : Int} {x : PW} (h : x.up = false) (h2 : heldAt x.held now = false) : prtUp now none span hold x = (⟨true, true, none, x.ups ++ [now]⟩, .up) := by
  unfold prtUp
  rw [if_neg (by rw [h]; exact Bool.false_ne_true), if_neg (by rw [h2]; exact Bool.false_ne_true)]
  rfl
theorem prtUp_full {now span hold k : Int} {x : PW} (h : x.up = false) (h2 : heldAt x.held now = false) (h3 : k ≤ ((x.ups.filter fun t => decide (now - t < span)).length : Int)) :
    prtUp now (some k) span hold x = (⟨x.up, true, some (now + hold), []⟩, .held) := by
  unfold prtUp
  rw [if_neg (by rw [h]; exact Bool.false_ne_true), if_neg (by rw [h2]; exact Bool.false_ne_true)]
  exact if_pos (decide_eq_true h3)
theorem prtUp_some {now span hold k : Int} {x : PW} (h : x.up = false) (h2 : heldAt x.held now = false) (h3 : ¬ k ≤ ((x.ups.filter fun t => decide (now - t < span)).length : Int)) :
    prtUp now (some k) span hold x = (⟨true, true, none, (x.ups.filter fun t => decide (now - t < span)) ++ [now]⟩, .up) := by
  unfold prtUp
  rw [if_neg (by rw [h]; exact Bool.false_ne_true), if_neg (by rw [h2]; exact Bool.false_ne_true)]
  exact if_neg (by show ¬ decide _ = true; rw [decide_eq_true_eq]; exact h3)
def PUpPost (c : PC) (C : Addr) (n now : Int) (b : PBlk) (oR oW : Obj) (most : Option Int) (cs : List Value) (nc K : Nat) (rest : List (Addr × Obj)) (res : Value) (nx : List (Addr × Obj)) : Prop :=
  ∃ b' k cs' nc' tl tk, prtUp now most c.span c.hold b.x = (b'.x, k) ∧ res = .str k.str tk ∧ b'.Ok (K + 1) ∧ (b'.p = b.p ∧ b'.dp = b.dp ∧ b'.w0 = b.w0 ∧ b'.dw = b.dw) ∧ (b'.u = b.u ∨ Off b'.u (pupLed c C n b oR oW cs nc rest)) ∧
    Added n true (pupLed c C n b oR oW cs nc rest) b'.u cs k.isUp cs' tl ∧ nx = pupLed c C n b' oR oW cs' nc' (tl ++ rest)
theorem PUpPost.intro {c : PC} {C : Addr} {n now : Int} {b : PBlk} {oR oW : Obj} {most : Option Int} {cs : List Value} {nc K : Nat} {rest : List (Addr × Obj)} {u : Addr} {hv : Value} {vs : List Value} {nu : Nat} {x : PW} {k : Res} {cs' : List Value} {nc' : Nat} {tl : List (Addr × Obj)} {tk : Tok}
   (e : prtUp now most c.span c.hold b.x = (x, k)) (h1 : HeldV hv x.held) (h2 : IntsAre vs x.ups) (h3 : vs.length ≤ K + 1) (h4 : u = b.u ∨ Off u (pupLed c C n b oR oW cs nc rest)) (h5 : Added n true (pupLed c C n b oR oW cs nc rest) u cs k.isUp cs' tl) :
   PUpPost c C n now b oR oW most cs nc K rest (.str k.str tk) (pupLed c C n ⟨b.p, b.dp, b.w0, b.dw, u, b.kp, b.kw, b.tn, b.spd, b.fv, b.mtu, hv, vs, nu, x⟩ oR oW cs' nc' (tl ++ rest)) :=
  ⟨⟨b.p, b.dp, b.w0, b.dw, u, b.kp, b.kw, b.tn, b.spd, b.fv, b.mtu, hv, vs, nu, x⟩, k, cs', nc', tl, tk, e, rfl, ⟨h1, h2, h3⟩, ⟨rfl, rfl, rfl, rfl⟩, h4, h5, rfl⟩
theorem pup_spec (w : World) (c : PC) (C : Addr) (n now : Int) (b : PBlk) (oR oW : Obj) (kR kW : List (Int × Value)) (most : Option Int) (tn tnw : Tok) (cs : List Value) (nc K : Nat) (rest : List (Addr × Obj))
   (hA : Sep (pupLed c C n b oR oW cs nc []) rest)
   (hm : HeldV c.mv most) (hb : b.Ok K) (hK : K < 1000) (hc : cs.length < 1000)
   (hR : IntD w oR kR) (hRl : valueAt kR n = some (.ref b.p)) (hRs : (valueAt kR n).isSome = true) (hRn : (c.R == sysModules) = false) (hW : IntD w oW kW) (hWl : valueAt kW n = some (.ref b.w0)) :
   Spec 3 w 163 [.ref c.P, .int n tn, .int now tnw] (pupLed c C n b oR oW cs nc rest) (PUpPost c C n now b oR oW most cs nc K rest) := by
  intro dp' un gd cn cs' a ccd cl outer A₀ base h₀ L m p' loose mean mg mb s Q E B F X N T hk hd hu hret
  obtain ⟨q_P, q_dP, q_R, q_W, q_C, q_p, q_dp, q_w0, q_dw, q_u⟩ := sep10 hA
  obtain ⟨hh, hi, hl⟩ := hb
  have hl' : b.vs.length < 1000 := Nat.lt_of_le_of_lt hl hK
  refine wpAny_call ?_
  k_dflt cell_enter
  repeat' ((fail_if_success (with_reducible show wpAny _ _ (truthy (Value.bool (PW.up _))) _ _ _)); first | (k_unfold; (try dsimp only)) | (k_end; wrow_close) | walk1 | (dsimp only; walk1) | (leave1; try dsimp only))
  cases hup : b.x.up
  all_goals repeat' ((fail_if_success (with_reducible show wpAny _ _ (compareOp CmpOp.IsNot _ _) _ _ _)); first | (k_unfold; (try dsimp only)) | (k_end; wrow_close) | walk1 | (dsimp only; walk1) | (leave1; try dsimp only))
  · refine' hret _ _ _ _ (PUpPost.intro (prtUp_held hup (by assumption)) hh hi (Nat.le_succ_of_le hl) (.inl rfl) .no) (by assumption) ?N
    case N =>
      refine news_drop (by assumption) ?_
      iterate 10 (refine sub_cons (by k_mem) ?_)
      (intro q hq; k_extra "K_SUB")
  · have hF : FMark (fun t => decide (now - t < c.span)) := trivial
    rcases heldV_inv hm with ⟨e, rfl⟩ | ⟨k, tk, e, rfl⟩
    · rw [e]
      k_steps
      refine' hret _ _ _ _ (PUpPost.intro (prtUp_none hup (by assumption)) .none ?kin ?len (.inl rfl) (.yes _ _ ?fa ?fb)) (by assumption) ?N
      case N =>
        refine news_drop (by assumption) ?_
        iterate 11 (refine sub_cons (by k_mem) ?_)
        (intro q hq; k_extra "K_SUB")
      case kin => exact IntsAre.append hi (.cons _ _ .nil)
      case len => rw [List.length_append]; exact Nat.succ_le_succ hl
      case fa => k_all
      case fb => k_ne
    · rw [e]
      repeat' ((fail_if_success (with_reducible show wpAny _ _ (compareOp CmpOp.GtE _ (PC.mv _)) _ _ _)); first | (k_unfold; (try dsimp only)) | (k_end; wrow_close) | walk1 | (dsimp only; walk1) | (leave1; try dsimp only))
      rw [e]
      k_steps
      · refine' hret _ _ _ _ (PUpPost.intro (prtUp_full hup (by assumption) (by assumption)) (.int _ _) .nil (Nat.zero_le _) (.inr ?fr) .no) (by assumption) ?N
        case N =>
          refine news_drop (by assumption) ?_
          iterate 10 (refine sub_cons (by k_mem) ?_)
          (intro q hq; k_extra "K_SUB")
        case fr => k_all
      · refine' hret _ _ _ _ (PUpPost.intro (prtUp_some hup (by assumption) (by assumption)) .none ?kin ?len (.inr ?fr) (.yes _ _ ?fa ?fb)) (by assumption) ?N
        case N =>
          refine news_drop (by assumption) ?_
          iterate 11 (refine sub_cons (by k_mem) ?_)
          (intro q hq; k_extra "K_SUB")
        case kin => exact IntsAre.append (by assumption) (.cons _ _ .nil)
        case len => rw [List.length_append]; exact Nat.succ_le_succ (Nat.le_trans (by assumption) hl)
        case fr => k_all
        case fa => k_all
        case fb => k_ne
  · refine' hret _ _ _ _ (PUpPost.intro (prtUp_same hup) hh hi (Nat.le_succ_of_le hl) (.inl rfl) .no) (by assumption) ?N
    case N =>
      refine news_drop (by assumption) ?_
      iterate 10 (refine sub_cons (by k_mem) ?_)
      (intro q hq; k_extra "K_SUB")
end
section
example : True := by
  k_with_none
  k_with "K_ALL" => (first | assumption | exact List.forall_mem_nil _ | (refine' off_as 0 ?h8 ?m8; (case h8 => assumption); (case m8 => k_dflt (exact rfl))) | (refine' lt_as 0 ?h7 ?m7; (case h7 => assumption); (case m7 => k_dflt (exact rfl))) | (refine' off_c ?a9 ?b9; (case a9 => k_ne); (case b9 => k_all)) | (refine' List.forall_mem_cons.mpr ⟨?a, ?b⟩; (case a => k_ne); (case b => k_all)) | (refine' lt_off ?h9 ?m9; (case h9 => assumption); (case m9 => intro q9 hq9; (repeat (first | exact hq9 | refine List.Mem.tail _ ?_)))) | (refine' off_sub ?h9 ?m9; (case h9 => assumption); (case m9 => intro q9 hq9; (repeat (first | exact hq9 | refine List.Mem.tail _ ?_)))))
  k_with "K_NE" => (first | assumption | exact Ne.symm (by assumption) | (refine' lt_ne ?h9 ?m9; (case h9 => assumption); (case m9 => k_mem)) | (refine' lt_ne' ?h9 ?m9; (case h9 => assumption); (case m9 => k_mem)) | (refine' off_ne ?h9 ?m9; (case h9 => assumption); (case m9 => k_mem)) | (refine' off_ne' ?h9 ?m9; (case h9 => assumption); (case m9 => k_mem)) | (refine' lt_ne1 ?h9 ?m9; (case h9 => assumption); (case m9 => k_mem)) | (refine' lt_ne1' ?h9 ?m9; (case h9 => assumption); (case m9 => k_mem)) | (refine' lt_ne2 ?h9 ?m9; (case h9 => assumption); (case m9 => k_mem)) | (refine' lt_ne2' ?h9 ?m9; (case h9 => assumption); (case m9 => k_mem)) | (refine' lt_ne3 ?h9 ?m9; (case h9 => assumption); (case m9 => k_mem)) | (refine' lt_ne3' ?h9 ?m9; (case h9 => assumption); (case m9 => k_mem)) | (refine neN ?_; (try dsimp only); omega))
  k_with "K_MEM" => (first | with_reducible assumption | exact mm0 | exact mm1 | exact mm2 | exact mm3 | exact mm4 | exact mm5 | exact mm6 | exact mm7 | exact mm8 | exact mm9 | exact mm10 | exact mm11 | exact mm12 | ((repeat (first | with_reducible assumption | exact List.Mem.head _ | (refine mem_in ?_; with_reducible assumption) | refine' List.Mem.tail _ ?_)); done))
  k_with "K_SUB" => (first | exact hq | exact md1 hq | exact md2 hq | exact md3 hq | exact md4 hq | exact md5 hq | exact md6 hq | exact md7 hq | exact md8 hq | exact md9 hq | exact md10 hq | exact md11 hq | exact md12 hq | exact md13 hq | exact md14 hq | (repeat (first | exact hq | refine List.Mem.tail _ ?_)))
  k_with "ENTER" => (first | (refine' code_def ?k1 ?k2 ?k3 ?k4 ?k5 ?kA ?kF ?kK ?k6 ?k7 ?k8 ?k9 ?kB ?_ ?c2 ?c3 ?c4 ?c5; (case kA => exact rfl); (case kF => exact rfl); (case kK => first | assumption | exact rfl); (case k1 => k_asm); (case k2 => k_asm); (case k3 => k_asm); (case k4 => k_asm); (case k5 => k_asm); (case k6 => k_is); (case k7 => k_is); (case k8 => k_room); (case k9 => first | exact BindsTo.of_eq rfl | exact binds_K (by k_in) rfl (by k_is) rfl rfl rfl); (case c5 => decide); (case kB => exact locs rfl); (case c2 => exact rfl); (case c3 => exact rfl); (case c4 => exact rfl); k_whole; intro g' L' h' FG' F' N' B' X' T'; (try dsimp only); (try k_lift B'); (try k_fold)) | (refine' code_defC ?k1 ?k2 ?k3 ?k4 ?k5 ?kA ?kF ?kK ?k6 ?k7 ?k8 ?k9 ?kB ?kD ?_ ?c2 ?c3 ?c4; (case kA => exact rfl); (case kF => exact rfl); (case kK => first | assumption | exact rfl); (case k1 => k_asm); (case k2 => k_asm); (case k3 => k_asm); (case k4 => k_asm); (case k5 => k_asm); (case k6 => k_is); (case k7 => k_is); (case k8 => k_room); (case k9 => first | exact BindsTo.of_eq rfl | exact binds_K (by k_in) rfl (by k_is) rfl rfl rfl); (case kB => exact rfl); (case kD => decide +kernel); (case c2 => exact rfl); (case c3 => exact rfl); (case c4 => exact rfl); k_whole; intro g' L' h' tk' cells' FG' F' N' Y' B' X' T' l1; (try k_lt l1); k_cells Y'; (try simp only [List.cons_append, List.nil_append] at N'); (try dsimp only); (try k_lift B'); (try k_fold)))
  k_with "X FinE" => (((unfold LCg.FinE); intro D' h' tk' F' N' o1'; (have oD' := off_of_off1 o1'); (clear o1'); (try simp only [List.nil_append, List.cons_append] at N'); (try dsimp only)))
  k_with "X ALC" => ((k_here; with_reducible refine plainObj_wpAny_Assign_Attribute ?_ ?_; rotate_left; with_unfolding_all rfl))
  k_with "X FinA" => ((unfold LCg.FinA); intro upsA h' tk' F' N' o1'; (have oU := off_of_off1 o1'); (clear o1'); (try simp only [List.nil_append, List.cons_append] at N'); (try dsimp only))
  k_with "X FOR" => ((k_here; (rename Fr _ _ _ _ => lF'); (with_unfolding_all refine' For_invVF lF' ?k1 ?k2 ?_; (case k1 => exact rfl); (case k2 => exact rfl); k_whole)))
  k_with "K_ROOM" => (first | k_dflt (first | exact room_0 hd | exact room_of 1 hd | exact room_of 2 hd | exact room_of 3 hd | exact room_of 4 hd | exact room_of 5 hd | exact room_of 6 hd | exact room_of 7 hd | exact room_of 8 hd) | ktr_room)
  k_with "K_UNITS" => (first | k_dflt (first | exact units_of 103 hu | exact units_of 303 hu | exact units_of 203 hu | exact units_of 67 hu | exact units_of 503 hu | exact units_of 403 hu) | ktr_units)
  k_with "binaryOp Add ref ref" => (k_here; (with_reducible show wpAny _ _ (binaryOp _ (Value.ref _) (Value.ref _)) _ _ _); k_dflt (refine' addl_at ?k1 ?k2 ?k3 ?k4 ?k5 ?k6 ?_; (case k1 => k_asm); (case k2 => k_asm); (case k3 => k_mem); (case k4 => k_mem); (case k5 => first | assumption | decide | (simp only [List.length_cons, List.length_nil]; omega)); (case k6 => first | assumption | decide | (simp only [List.length_cons, List.length_nil]; omega)); k_whole); intro l' h' F' N' l1; (try k_lt l1); (try k_sweep))
  k_with "CompSrcT" => (k_here; k_dflt (refine LCt.CompSrcT.ledger (by rfl) (by k_asm) (by k_asm) (by k_mem) (by rw [sizeLine_eq, List.size_toArray]; omega) ?_); intro g'; k_dflt (refine' rest_filter _ ?hf ?hi ?hS (fun i9 t9 I9 oI9 C9 oC9 D9 ys9 m9 h' tk9 E9 hi9 hC9 hx9 F' N' off9 ne9 => ?_) (fun ys9 hys9 => ?_); (case hf => assumption); (case hi => assumption); (case hS => exact Or.inr ⟨_, by k_mem, rfl, _, rfl⟩)); (try k_fold))
  k_with "TestEnd" => (refine TestEnd.intro ?_ (by k_asm) (by k_asm); rfl)
  k_with "call builtin:len cons nil" => (k_here; (with_reducible show wpAny _ _ (call (Value.builtin "len") [Value.ref _]) _ _ _); k_dflt (refine' len_filt ?k1 ?k2 ?k3 ?k4 ?k5 ?_; (case k1 => k_asm); (case k2 => k_mem); (case k3 => assumption); (case k4 => assumption); (case k5 => assumption); k_whole))
  k_with "subscriptTail Attribute Name Name ref int" => (k_here; (with_reducible show wpAny _ _ (subscriptTail _ _ (Value.ref _) (Value.int _ _)) _ _ _); (try (k_dflt (refine kba_turn (value' := PySem.Expr.Name (PySem.Str.ofString "_") ⟨0, 0, 0, 0⟩) (fun _ => rfl) ?_))); k_dflt (refine' kda_item (knd := PySem.intKind _ _) ?N ?m ?d (intKind_is _ _ _ _) ?l ?_; (case N => k_asm); (case m => k_mem); (case d => assumption); (case l => assumption); k_whole))
  k_with "subscriptTail Name Name ref int" => (k_here; (with_reducible show wpAny _ _ (subscriptTail _ _ (Value.ref _) (Value.int _ _)) _ _ _); (try (k_dflt (refine kba_turn (value' := PySem.Expr.Name (PySem.Str.ofString "_") ⟨0, 0, 0, 0⟩) (fun _ => rfl) ?_))); k_dflt (refine' kda_item (knd := PySem.intKind _ _) ?N ?m ?d (intKind_is _ _ _ _) ?l ?_; (case N => k_asm); (case m => k_mem); (case d => assumption); (case l => assumption); k_whole))
  k_with "compareOp NotIn int ref" => (k_here; k_dflt (refine' kdg_notin (knd := PySem.intKind _ _) ?N ?m ?d ?lo (intKind_is _ _ _ _) true ?hb ?_; (case N => k_asm); (case m => k_mem); (case d => assumption); (case lo => assumption); (case hb => assumption); k_whole))
  k_with "call builtin:list.append nil" => (k_here; k_dflt (refine' append_at ?k1 ?k2 ?k3 ?k4 ?_; (case k1 => k_asm); (case k2 => k_asm); (case k3 => k_updF); (case k4 => first | assumption | exact filt_len (by assumption) (by assumption) (by assumption)); k_whole); intro h' F' N'; (try dsimp only at N'); (try k_sweep))
  k_with "call builtin:list.append cons nil" => (k_here; k_dflt (refine' append_at ?k1 ?k2 ?k3 ?k4 ?_; (case k1 => k_asm); (case k2 => k_asm); (case k3 => k_updF); (case k4 => first | assumption | exact filt_len (by assumption) (by assumption) (by assumption)); k_whole); intro h' F' N'; (try dsimp only at N'); (try k_sweep))
  k_with "call builtin:sorted cons nil" => (k_here; (with_reducible show wpAny _ _ (call (Value.builtin "sorted") [Value.ref _]) _ _ _); k_dflt (refine' sorted_at rfl ?k1 ?k2 ?k3 ?k4 ?k5 ?_; (case k1 => k_asm); (case k2 => k_asm); (case k3 => k_mem); (case k4 => assumption); (case k5 => assumption); k_whole); intro B' h' tk9 t3' t1' t2' F' N' l1; (try k_lt l1))
  exact trivial
example : True := by
  k_with "call ref cons nil" => (k_here; (with_reducible show wpAny _ _ (call (Value.ref 142) _) _ _ _); k_dflt (refine' port_use ?k1 ?k2 ?k3 ?k4 ?k5 ?k6 ?k7 ?k8 ?k9 ?k10 ?k11 ?k12 ?k13 ?k14 ?k15 ?_; (case k1 => k_asm); (case k2 => k_asm); (case k3 => k_asm); (case k4 => k_asm); (case k5 => k_asm); (case k6 => first | exact rfl | assumption); (case k7 => k_room); (case k8 => k_units); (case k9 => k_mem); (case k10 => k_mem); (case k11 => k_mem); (case k12 => assumption); (case k13 => assumption); (case k14 => assumption); (case k15 => assumption); k_whole); intro h' tk9 F' N'; (try dsimp only); (try k_fold))
  k_with "call ref cons nil" => (k_here; (with_reducible show wpAny _ _ (call (Value.ref 101) _) _ _ _); k_dflt (refine' held_use ?k1 ?k2 ?k3 ?k4 ?k5 ?k6 ?k7 ?k8 ?k9 ?k10 ?k11 ?_; (case k1 => k_asm); (case k2 => k_asm); (case k3 => k_asm); (case k4 => k_asm); (case k5 => k_asm); (case k6 => first | exact rfl | assumption); (case k7 => k_room); (case k8 => k_units); (case k9 => k_mem); (case k10 => k_mem); (case k11 => assumption); k_whole); intro h' tk9 F' N'; (try dsimp only); (try k_fold))
  k_with "call ref cons nil" => (k_here; (with_reducible show wpAny _ _ (call (Value.ref 106) _) _ _ _); k_dflt (refine' rec_use ?k1 ?k2 ?k3 ?k4 ?k5 ?k6 ?k7 ?k8 ?k9 ?k10 ?k11 ?k12 ?k13 ?k14 ?k15 ?_; (case k1 => k_asm); (case k2 => k_asm); (case k3 => k_asm); (case k4 => k_asm); (case k5 => k_asm); (case k6 => first | exact rfl | assumption); (case k7 => k_room); (case k8 => k_units); (case k10 => k_mem); (case k9 => k_updF); (case k11 => k_ne); (case k12 => k_mem); (case k13 => k_ne); (case k14 => assumption); (case k15 => assumption); k_whole); intro t9 D9 us9 k9 h' tk9 hI9 hL9 oD9 F' N'; (try dsimp only at N'); (try dsimp only); (try k_fold))
  k_with "call ref cons nil" => (k_here; (with_reducible show wpAny _ _ (call (Value.ref 156) _) _ _ _); k_dflt (refine' turn_use ?k1 ?k2 ?k3 ?k4 ?k5 ?k6 ?k7 ?k8 ?u1 ?u2 ?n0 ?k9 ?k10 ?k11 ?k12 ?n1 ?n2 ?n3 ?n4 ?k13 ?k14 ?k15 ?_; (case k1 => k_asm); (case k2 => k_asm); (case k3 => k_asm); (case k4 => k_asm); (case k5 => k_asm); (case k6 => first | exact rfl | assumption); (case k7 => k_room); (case k8 => k_units); (case k11 => k_mem); (case k14 => assumption); (case k15 => assumption); (case k12 => k_mem); (case u1 => k_updF); (case k9 => k_mem); (case k10 => k_mem); (case u2 => intro o9; (try dsimp only); k_updF); (case n0 => k_ne); (case n1 => exact ⟨by k_ne, by k_ne⟩); (case n2 => exact ⟨by k_ne, by k_ne⟩); (case n3 => exact ⟨by k_ne, by k_ne⟩); (case n4 => exact ⟨by k_ne, by k_ne⟩); (case k13 => assumption); k_whole); intro r9 t9 h' tk9 oD9 F' N'; (try dsimp only at N'); (try dsimp only); (try k_fold))
  exact trivial

theorem prtDown_up {x : PW} (h : x.up = true) : prtDown x = (⟨false, false, x.held, x.ups⟩, .down) := by
  unfold prtDown
  rw [h]; rfl
theorem prtDown_same {x : PW} (h : x.up = false) : prtDown x = (⟨x.up, false, x.held, x.ups⟩, .same) := by
  unfold prtDown
  rw [h]; rfl
def PDownPost (c : PC) (C : Addr) (n : Int) (b : PBlk) (oR oW : Obj) (cs : List Value) (nc : Nat) (rest : List (Addr × Obj)) (res : Value) (nx : List (Addr × Obj)) : Prop :=
  ∃ up k cs' nc' tl tk, prtDown b.x = (⟨up, false, b.x.held, b.x.ups⟩, k) ∧ res = .str k.str tk ∧ Added n false (pupLed c C n b oR oW cs nc rest) b.u cs k.isDown cs' tl ∧
    nx = pupLed c C n { b with x := ⟨up, false, b.x.held, b.x.ups⟩ } oR oW cs' nc' (tl ++ rest)
theorem PDownPost.intro {c : PC} {C : Addr} {n : Int} {b : PBlk} {oR oW : Obj} {cs : List Value} {nc : Nat} {rest : List (Addr × Obj)} {up : Bool} {k : Res} {cs' : List Value} {nc' : Nat} {tl : List (Addr × Obj)} {tk : Tok}
   (e : prtDown b.x = (⟨up, false, b.x.held, b.x.ups⟩, k)) (h : Added n false (pupLed c C n b oR oW cs nc rest) b.u cs k.isDown cs' tl) :
   PDownPost c C n b oR oW cs nc rest (.str k.str tk) (pupLed c C n ⟨b.p, b.dp, b.w0, b.dw, b.u, b.kp, b.kw, b.tn, b.spd, b.fv, b.mtu, b.hv, b.vs, b.nu, ⟨up, false, b.x.held, b.x.ups⟩⟩ oR oW cs' nc' (tl ++ rest)) :=
  ⟨up, k, cs', nc', tl, tk, e, rfl, h, rfl⟩
theorem pdown_spec (w : World) (c : PC) (C : Addr) (n : Int) (b : PBlk) (oR oW : Obj) (kR kW : List (Int × Value)) (tn : Tok) (cs : List Value) (nc : Nat) (rest : List (Addr × Obj))
   (hA : Sep (pupLed c C n b oR oW cs nc []) rest) (hc : cs.length < 1000)
   (hR : IntD w oR kR) (hRl : valueAt kR n = some (.ref b.p)) (hRs : (valueAt kR n).isSome = true) (hRn : (c.R == sysModules) = false) (hW : IntD w oW kW) (hWl : valueAt kW n = some (.ref b.w0)) :
   Spec 3 w 170 [.ref c.P, .int n tn] (pupLed c C n b oR oW cs nc rest) (PDownPost c C n b oR oW cs nc rest) := by
  intro dp' un gd cn cs' a ccd cl outer A₀ base h₀ L m p' loose mean mg mb s Q E B F X N T hk hd hu hret
  obtain ⟨q_P, q_dP, q_R, q_W, q_C, q_p, q_dp, q_w0, q_dw, q_u⟩ := sep10 hA
  refine wpAny_call ?_
  k_dflt cell_enter
  repeat' ((fail_if_success (with_reducible show wpAny _ _ (truthy (Value.bool (PW.up _))) _ _ _)); first | (k_unfold; (try dsimp only)) | (k_end; wrow_close) | walk1 | (dsimp only; walk1) | (leave1; try dsimp only))
  cases hup : b.x.up
  all_goals k_steps
  · refine' hret _ _ _ _ (PDownPost.intro (prtDown_same hup) .no) (by assumption) ?N
    case N =>
      refine news_drop (by assumption) ?_
      iterate 10 (refine sub_cons (by k_mem) ?_)
      (intro q hq; k_extra "K_SUB")
  · refine' hret _ _ _ _ (PDownPost.intro (prtDown_up hup) (.yes _ _ ?fa ?fb)) (by assumption) ?N
    case N =>
      refine news_drop (by assumption) ?_
      iterate 11 (refine sub_cons (by k_mem) ?_)
      (intro q hq; k_extra "K_SUB")
    case fa => k_all
    case fb => k_ne
end
section
example : True := by
  k_with_none
  k_with "K_ALL" => (first | assumption | exact List.forall_mem_nil _ | (refine' off_as 0 ?h8 ?m8; (case h8 => assumption); (case m8 => k_dflt (exact rfl))) | (refine' lt_as 0 ?h7 ?m7; (case h7 => assumption); (case m7 => k_dflt (exact rfl))) | (refine' off_c ?a9 ?b9; (case a9 => k_ne); (case b9 => k_all)) | (refine' List.forall_mem_cons.mpr ⟨?a, ?b⟩; (case a => k_ne); (case b => k_all)) | (refine' lt_off ?h9 ?m9; (case h9 => assumption); (case m9 => intro q9 hq9; (repeat (first | exact hq9 | refine List.Mem.tail _ ?_)))) | (refine' off_sub ?h9 ?m9; (case h9 => assumption); (case m9 => intro q9 hq9; (repeat (first | exact hq9 | refine List.Mem.tail _ ?_)))))
  k_with "K_NE" => (first | assumption | exact Ne.symm (by assumption) | (refine' lt_ne ?h9 ?m9; (case h9 => assumption); (case m9 => k_mem)) | (refine' lt_ne' ?h9 ?m9; (case h9 => assumption); (case m9 => k_mem)) | (refine' off_ne ?h9 ?m9; (case h9 => assumption); (case m9 => k_mem)) | (refine' off_ne' ?h9 ?m9; (case h9 => assumption); (case m9 => k_mem)) | (refine' lt_ne1 ?h9 ?m9; (case h9 => assumption); (case m9 => k_mem)) | (refine' lt_ne1' ?h9 ?m9; (case h9 => assumption); (case m9 => k_mem)) | (refine' lt_ne2 ?h9 ?m9; (case h9 => assumption); (case m9 => k_mem)) | (refine' lt_ne2' ?h9 ?m9; (case h9 => assumption); (case m9 => k_mem)) | (refine' lt_ne3 ?h9 ?m9; (case h9 => assumption); (case m9 => k_mem)) | (refine' lt_ne3' ?h9 ?m9; (case h9 => assumption); (case m9 => k_mem)) | (refine neN ?_; (try dsimp only); omega))
  k_with "K_MEM" => (first | with_reducible assumption | exact mm0 | exact mm1 | exact mm2 | exact mm3 | exact mm4 | exact mm5 | exact mm6 | exact mm7 | exact mm8 | exact mm9 | exact mm10 | exact mm11 | exact mm12 | ((repeat (first | with_reducible assumption | exact List.Mem.head _ | (refine mem_in ?_; with_reducible assumption) | refine' List.Mem.tail _ ?_)); done))
  k_with "K_SUB" => (first | exact hq | exact md1 hq | exact md2 hq | exact md3 hq | exact md4 hq | exact md5 hq | exact md6 hq | exact md7 hq | exact md8 hq | exact md9 hq | exact md10 hq | exact md11 hq | exact md12 hq | exact md13 hq | exact md14 hq | (repeat (first | exact hq | refine List.Mem.tail _ ?_)))
  k_with "ENTER" => (first | (refine' code_def ?k1 ?k2 ?k3 ?k4 ?k5 ?kA ?kF ?kK ?k6 ?k7 ?k8 ?k9 ?kB ?_ ?c2 ?c3 ?c4 ?c5; (case kA => exact rfl); (case kF => exact rfl); (case kK => first | assumption | exact rfl); (case k1 => k_asm); (case k2 => k_asm); (case k3 => k_asm); (case k4 => k_asm); (case k5 => k_asm); (case k6 => k_is); (case k7 => k_is); (case k8 => k_room); (case k9 => first | exact BindsTo.of_eq rfl | exact binds_K (by k_in) rfl (by k_is) rfl rfl rfl); (case c5 => decide); (case kB => exact locs rfl); (case c2 => exact rfl); (case c3 => exact rfl); (case c4 => exact rfl); k_whole; intro g' L' h' FG' F' N' B' X' T'; (try dsimp only); (try k_lift B'); (try k_fold)) | (refine' code_defC ?k1 ?k2 ?k3 ?k4 ?k5 ?kA ?kF ?kK ?k6 ?k7 ?k8 ?k9 ?kB ?kD ?_ ?c2 ?c3 ?c4; (case kA => exact rfl); (case kF => exact rfl); (case kK => first | assumption | exact rfl); (case k1 => k_asm); (case k2 => k_asm); (case k3 => k_asm); (case k4 => k_asm); (case k5 => k_asm); (case k6 => k_is); (case k7 => k_is); (case k8 => k_room); (case k9 => first | exact BindsTo.of_eq rfl | exact binds_K (by k_in) rfl (by k_is) rfl rfl rfl); (case kB => exact rfl); (case kD => decide +kernel); (case c2 => exact rfl); (case c3 => exact rfl); (case c4 => exact rfl); k_whole; intro g' L' h' tk' cells' FG' F' N' Y' B' X' T' l1; (try k_lt l1); k_cells Y'; (try simp only [List.cons_append, List.nil_append] at N'); (try dsimp only); (try k_lift B'); (try k_fold)))
  k_with "X FinE" => (((unfold LCg.FinE); intro D' h' tk' F' N' o1'; (have oD' := off_of_off1 o1'); (clear o1'); (try simp only [List.nil_append, List.cons_append] at N'); (try dsimp only)))
  k_with "X ALC" => ((k_here; with_reducible refine plainObj_wpAny_Assign_Attribute ?_ ?_; rotate_left; with_unfolding_all rfl))
  k_with "X FinA" => ((unfold LCg.FinA); intro upsA h' tk' F' N' o1'; (have oU := off_of_off1 o1'); (clear o1'); (try simp only [List.nil_append, List.cons_append] at N'); (try dsimp only))
  k_with "X FOR" => ((k_here; (rename Fr _ _ _ _ => lF'); (with_unfolding_all refine' For_invVF lF' ?k1 ?k2 ?_; (case k1 => exact rfl); (case k2 => exact rfl); k_whole)))
  k_with "K_ROOM" => (first | k_dflt (first | exact room_0 hd | exact room_of 1 hd | exact room_of 2 hd | exact room_of 3 hd | exact room_of 4 hd | exact room_of 5 hd | exact room_of 6 hd | exact room_of 7 hd | exact room_of 8 hd) | ktr_room)
  k_with "K_UNITS" => (first | k_dflt (first | exact units_of 103 hu | exact units_of 303 hu | exact units_of 203 hu | exact units_of 67 hu | exact units_of 503 hu | exact units_of 403 hu) | ktr_units)
  k_with "binaryOp Add ref ref" => (k_here; (with_reducible show wpAny _ _ (binaryOp _ (Value.ref _) (Value.ref _)) _ _ _); k_dflt (refine' addl_at ?k1 ?k2 ?k3 ?k4 ?k5 ?k6 ?_; (case k1 => k_asm); (case k2 => k_asm); (case k3 => k_mem); (case k4 => k_mem); (case k5 => first | assumption | decide | (simp only [List.length_cons, List.length_nil]; omega)); (case k6 => first | assumption | decide | (simp only [List.length_cons, List.length_nil]; omega)); k_whole); intro l' h' F' N' l1; (try k_lt l1); (try k_sweep))
  k_with "CompSrcT" => (k_here; k_dflt (refine LCt.CompSrcT.ledger (by rfl) (by k_asm) (by k_asm) (by k_mem) (by rw [sizeLine_eq, List.size_toArray]; omega) ?_); intro g'; k_dflt (refine' rest_filter _ ?hf ?hi ?hS (fun i9 t9 I9 oI9 C9 oC9 D9 ys9 m9 h' tk9 E9 hi9 hC9 hx9 F' N' off9 ne9 => ?_) (fun ys9 hys9 => ?_); (case hf => assumption); (case hi => assumption); (case hS => exact Or.inr ⟨_, by k_mem, rfl, _, rfl⟩)); (try k_fold))
  k_with "TestEnd" => (refine TestEnd.intro ?_ (by k_asm) (by k_asm); rfl)
  k_with "call builtin:len cons nil" => (k_here; (with_reducible show wpAny _ _ (call (Value.builtin "len") [Value.ref _]) _ _ _); k_dflt (refine' len_filt ?k1 ?k2 ?k3 ?k4 ?k5 ?_; (case k1 => k_asm); (case k2 => k_mem); (case k3 => assumption); (case k4 => assumption); (case k5 => assumption); k_whole))
  k_with "subscriptTail Attribute Name Name ref int" => (k_here; (with_reducible show wpAny _ _ (subscriptTail _ _ (Value.ref _) (Value.int _ _)) _ _ _); (try (k_dflt (refine kba_turn (value' := PySem.Expr.Name (PySem.Str.ofString "_") ⟨0, 0, 0, 0⟩) (fun _ => rfl) ?_))); k_dflt (refine' kda_item (knd := PySem.intKind _ _) ?N ?m ?d (intKind_is _ _ _ _) ?l ?_; (case N => k_asm); (case m => k_mem); (case d => assumption); (case l => assumption); k_whole))
  k_with "subscriptTail Name Name ref int" => (k_here; (with_reducible show wpAny _ _ (subscriptTail _ _ (Value.ref _) (Value.int _ _)) _ _ _); (try (k_dflt (refine kba_turn (value' := PySem.Expr.Name (PySem.Str.ofString "_") ⟨0, 0, 0, 0⟩) (fun _ => rfl) ?_))); k_dflt (refine' kda_item (knd := PySem.intKind _ _) ?N ?m ?d (intKind_is _ _ _ _) ?l ?_; (case N => k_asm); (case m => k_mem); (case d => assumption); (case l => assumption); k_whole))
  k_with "compareOp NotIn int ref" => (k_here; k_dflt (refine' kdg_notin (knd := PySem.intKind _ _) ?N ?m ?d ?lo (intKind_is _ _ _ _) true ?hb ?_; (case N => k_asm); (case m => k_mem); (case d => assumption); (case lo => assumption); (case hb => assumption); k_whole))
  k_with "call builtin:list.append nil" => (k_here; k_dflt (refine' append_at ?k1 ?k2 ?k3 ?k4 ?_; (case k1 => k_asm); (case k2 => k_asm); (case k3 => k_updF); (case k4 => first | assumption | exact filt_len (by assumption) (by assumption) (by assumption)); k_whole); intro h' F' N'; (try dsimp only at N'); (try k_sweep))
  k_with "call builtin:list.append cons nil" => (k_here; k_dflt (refine' append_at ?k1 ?k2 ?k3 ?k4 ?_; (case k1 => k_asm); (case k2 => k_asm); (case k3 => k_updF); (case k4 => first | assumption | exact filt_len (by assumption) (by assumption) (by assumption)); k_whole); intro h' F' N'; (try dsimp only at N'); (try k_sweep))
  k_with "call builtin:sorted cons nil" => (k_here; (with_reducible show wpAny _ _ (call (Value.builtin "sorted") [Value.ref _]) _ _ _); k_dflt (refine' sorted_at rfl ?k1 ?k2 ?k3 ?k4 ?k5 ?_; (case k1 => k_asm); (case k2 => k_asm); (case k3 => k_mem); (case k4 => assumption); (case k5 => assumption); k_whole); intro B' h' tk9 t3' t1' t2' F' N' l1; (try k_lt l1))
  exact trivial
@[reducible] def goLa (rows fl : Addr) (oR : Obj) (a : FoundA) : List (Addr × Obj) := [(fl, listOf a.vs.toArray a.n), (rows, oR)]
structure GoInv (w : World) (B₀ : Int → RBlk) (now : Int) (K : Nat) (i : Int) (a : FoundA) (B : Int → RBlk) : Prop where
  ok : ∀ n, In3 n → (B n).Ok w (if n ≤ i then K + 1 else K)
  same : ∀ n, In3 n → (B n).r = (B₀ n).r
  row : ∀ n, In3 n → (B n).y = if n ≤ i then (goRow now (B₀ n).y).1 else (B₀ n).y
  found : IntsAre a.vs (goneG (fun n => (goRow now (B₀ n).y).2) i)
def GoPost (w : World) (rows : Addr) (oR : Obj) (B₀ : Int → RBlk) (rest : List (Addr × Obj)) (now : Int) (K : Nat) (res : Value) (nx : List (Addr × Obj)) : Prop :=
  ∃ fl a B, res = .ref fl ∧ nx = goLa rows fl oR a ++ (led3b goLb B ++ rest) ∧ Sep (goLa rows fl oR a ++ led3b goLb B) rest ∧ GoInv w B₀ now K 3 a B
theorem GoInv.start {w : World} {B₀ : Int → RBlk} {now : Int} {K nf : Nat} (hok : ∀ n, In3 n → (B₀ n).Ok w K) : GoInv w B₀ now K 0 ⟨[], nf⟩ B₀ where
  ok := fun n hn => by rw [if_neg (by rcases hn with rfl | rfl | rfl <;> decide)]; exact hok n hn
  same := fun _ _ => rfl
  row := fun n hn => by rw [if_neg (by rcases hn with rfl | rfl | rfl <;> decide)]
  found := by
    have : goneG (fun n => (goRow now (B₀ n).y).2) 0 = [] := rfl
    rw [this]; exact .nil
theorem GoInv.step {w : World} {B₀ : Int → RBlk} {now : Int} {K nf' : Nat} {n : Int} {a : FoundA} {B : Int → RBlk} {b' : RBlk} {vs' : List Value} {t : Tok} (I : GoInv w B₀ now K (n - 1) a B) (hn : In3 n) (hr : b'.r = (B n).r) (hok : b'.Ok w (K + 1)) (hy : b'.y = (goRow now (B n).y).1)
    (hf : vs' = if (goRow now (B n).y).2 then a.vs ++ [.int n t] else a.vs) : GoInv w B₀ now K n ⟨vs', nf'⟩ (upd B n b') := by
  have hyn : (B n).y = (B₀ n).y := by rw [I.row n hn, if_neg (by omega)]
  refine ⟨fun k hk => ?_, fun k hk => ?_, fun k hk => ?_, ?_⟩
  · by_cases e : k = n
    · subst e; rw [upd_same, if_pos (Int.le_refl _)]; exact hok
    · rw [upd_other B b' e]
      have := I.ok k hk
      have e2 : (k ≤ n) ↔ (k ≤ n - 1) := by omega
      simp only [e2]; exact this
  · by_cases e : k = n
    · subst e; rw [upd_same, hr]; exact I.same _ hk
    · rw [upd_other B b' e]; exact I.same k hk
  · by_cases e : k = n
    · subst e; rw [upd_same, hy, if_pos (Int.le_refl _), hyn]
    · rw [upd_other B b' e, I.row k hk]
      have e2 : (k ≤ n) ↔ (k ≤ n - 1) := by omega
      simp only [e2]
  · rw [goneG_step _ hn]
    rw [hyn] at hf
    subst hf
    show IntsAre (if _ then _ else _) _
    cases (goRow now (B₀ n).y).2
    · simpa using I.found
    · exact IntsAre.append I.found (.cons _ _ .nil)

theorem lgo_loop {prog : Program} {w : World} {A : Around} {E : Value → Shared → Prop} {s : Shared} {env : Env} {h₀ : Heap} {x : Str} {body : List Stmt} {Q : Flow → Shared → Prop} {l fl rows : Addr} {nn nf : Nat} {t1 t2 t3 tn : Tok} {m₀ : Str → Option Value} {rest : List (Addr × Obj)} {oR : Obj} {kR : List (Int × Value)} {now : Int} {K : Nat} {B₀ : Int → RBlk}
    (hh : A.handled = none) (F : Fr h₀ env.locals s.heap m₀)
    (N : News h₀ env.locals s.heap ((l, listOf #[.int 1 t1, .int 2 t2, .int 3 t3] nn) :: (fl, listOf #[] nf) :: (rows, oR) :: (led3b goLb B₀ ++ rest)))
    (hl : Off l ((fl, listOf #[] nf) :: (rows, oR) :: (led3b goLb B₀ ++ rest))) (hfl : Off fl ((rows, oR) :: (led3b goLb B₀ ++ rest))) (hs : Sep ((rows, oR) :: led3b goLb B₀) rest)
    (hp : ∀ p ∈ [(Str.ofString "rows", Value.ref rows), (Str.ofString "now", .int now tn), (Str.ofString "found", .ref fl)], m₀ p.1 = some p.2)
    (hK : K < 990) (hRl : ∀ n, In3 n → valueAt kR n = some (.ref (B₀ n).r)) (hok : ∀ n, In3 n → (B₀ n).Ok w K)
    (turn : ∀ n t (a : FoundA) (b : RBlk) R (u : Str → Option Value) h tk, a.vs.length < 1000 → b.ts.length < 1000 → b.Ok w K → valueAt kR n = some (.ref b.r) → Sep (goLa rows fl oR a ++ b.led) R →
      Fr h₀ env.locals h (fun y => if y = x then some (.int n t) else kstB u [(Str.ofString "rows", Value.ref rows), (Str.ofString "now", .int now tn), (Str.ofString "found", .ref fl)] y) →
      News h₀ env.locals h ((fl, listOf a.vs.toArray a.n) :: (rows, oR) :: (b.r, b.o) :: (b.t, listOf b.ts.toArray b.nt) :: R) →
      wpAny (model prog w) A (execs body env) (Turn3 (goLa rows fl oR) goLb [(Str.ofString "rows", Value.ref rows), (Str.ofString "now", .int now tn), (Str.ofString "found", .ref fl)] h₀ env.locals n R
        (fun a' b' => b'.r = b.r ∧ b'.Ok w (K + 1) ∧ b'.y = (goRow now b.y).1 ∧ ∃ t', a'.vs = if (goRow now b.y).2 then a.vs ++ [.int n t'] else a.vs) { s with heap := h, toks := tk }) E { s with heap := h, toks := tk })
    (done : ∀ a B (u : Str → Option Value) h tk, GoInv w B₀ now K 3 a B → Sep (goLa rows fl oR a ++ led3b goLb B) rest → Fr h₀ env.locals h (fun y => kstB u [(Str.ofString "rows", Value.ref rows), (Str.ofString "now", .int now tn), (Str.ofString "found", .ref fl)] y) → News h₀ env.locals h ((fl, listOf a.vs.toArray a.n) :: (rows, oR) :: (led3b goLb B ++ rest)) → Q .next { s with heap := h, toks := tk }) :
    wpAny (model prog w) A (pyIter (.ref l)) (fun it s₂ => LoopAtV prog w A h₀ env x body Q E it s₂) E s := by
  refine loop3 (goLa rows fl oR) goLb _ (GoInv w B₀ now K) ⟨[], nf⟩ B₀ hh F N (fun q hq => hq) hl hp ?_ (GoInv.start hok) ?_ ?_
  · show Sep ((fl, _) :: ((rows, oR) :: led3b goLb B₀)) rest
    exact sep_cons.mpr ⟨(off_append (l := (rows, oR) :: led3b goLb B₀) (l' := rest)).mp hfl, hs⟩
  · intro n t a B R u h tk hn I S F₁ N₁
    have hyn : (B n).Ok w K := by have := I.ok n hn; rwa [if_neg (by omega)] at this
    have hal : a.vs.length < 1000 := by rw [I.found.length]; exact Nat.lt_of_le_of_lt (goneG_len _ _) (by decide)
    have hbl := hyn.len
    refine wpAny_mono (turn n t a (B n) R u h tk hal (by omega) hyn (by rw [hRl n hn, I.same n hn]) S F₁ N₁) ?_ fun _ _ e => e
    rintro f s₂ ⟨hf, a', b', h', tk', m', e, F', hp', N', S', c1, c2, c3, t', c4⟩
    exact ⟨hf, a', b', h', tk', m', e, F', hp', N', S', I.step hn c1 c2 c3 c4⟩
  · intro a B u h tk I S F₁ N₁
    exact done a B u h tk I S F₁ N₁

theorem goRow_none {now : Int} {x : Row} (h : x.held = none) : goRow now x = (x, false) := by
  unfold goRow
  rw [h]; rfl
theorem goRow_wait {now i : Int} {x : Row} (h : x.held = some i) (h2 : ¬ i ≤ now) : goRow now x = (x, false) := by
  unfold goRow
  rw [h]
  exact if_neg (by show ¬ decide _ = true; rw [decide_eq_true_eq]; exact h2)
theorem goRow_gone {now i : Int} {x : Row} (h : x.held = some i) (h2 : i ≤ now) (h3 : x.there = false) : goRow now x = (⟨x.up, x.there, none, x.times⟩, false) := by
  unfold goRow
  rw [h]
  rw [if_pos (show dueAt (some i) now = true from decide_eq_true h2), if_neg (by rw [h3]; exact Bool.false_ne_true)]
theorem goRow_up {now i : Int} {x : Row} (h : x.held = some i) (h2 : i ≤ now) (h3 : x.there = true) : goRow now x = (⟨true, x.there, none, x.times ++ [now]⟩, true) := by
  unfold goRow
  rw [h]
  rw [if_pos (show dueAt (some i) now = true from decide_eq_true h2), if_pos h3]
theorem lgo_spec (w : World) (rows : Addr) (oR : Obj) (kR : List (Int × Value)) (B₀ : Int → RBlk) (rest : List (Addr × Obj)) (now : Int) (tn : Tok) (K : Nat)
   (hA : Sep ((rows, oR) :: led3b goLb B₀) rest) (hK : K < 990) (hR : IntD w oR kR) (hRl : ∀ n, In3 n → valueAt kR n = some (.ref (B₀ n).r)) (hok : ∀ n, In3 n → (B₀ n).Ok w K) :
   Spec 1 w 243 [.ref rows, .int now tn] ((rows, oR) :: (led3b goLb B₀ ++ rest)) (GoPost w rows oR B₀ rest now K) := by
  intro dp un gd cn cs a ccd cl outer A₀ base h₀ L m p loose mean mg mb s Q E B F X N T hk hd hu hret
  refine wpAny_call ?_
  k_dflt cell_enter
  repeat' ((fail_if_success (with_reducible show wpAny _ _ (pyIter (Value.ref _)) (fun it s₂ => LoopAtV _ _ _ _ _ _ _ _ _ it s₂) _ _)); first | (k_unfold; (try dsimp only)) | (k_end; wrow_close) | walk1 | (dsimp only; walk1) | (leave1; try dsimp only))
  refine lgo_loop (K := K) (kR := kR) (now := now) (tn := tn) rfl (by assumption) (by assumption) ?_ ?_ hA ?_ hK hRl hok ?_ ?_
  · k_all
  · k_all
  · (refine hp3 ?_ ?_ ?_ <;> exact rfl)
  · intro n t a b R u h tk hal hbl hok hRb hS F' N'
    obtain ⟨⟨hH, hO⟩, hI, hL⟩ := hok
    obtain ⟨q_fl, q_rows, q_r, q_t, -⟩ := sep4 (f := []) hS
    dsimp only [goLa, RBlk.led, List.cons_append, List.nil_append] at N' q_fl q_rows q_r q_t
    (try k_fold)
    repeat' ((fail_if_success (with_reducible show wpAny _ _ (compareOp CmpOp.IsNot _ _) _ _ _)); first | (k_unfold; (try dsimp only)) | (k_end; wrow_close) | walk1 | (dsimp only; walk1) | (leave1; try dsimp only))
    rcases heldV_inv hH with ⟨e, e2⟩ | ⟨i, ti, e, e2⟩
    · have hg := goRow_none (now := now) e2
      show wpAny _ _ (compareOp CmpOp.IsNot b.hv Value.none) _ _ _
      rw [e]
      k_steps
      refine' Turn3.intro ⟨_, _⟩ ⟨b.r, _, _, _, _, _, b.y⟩ (by assumption) ?hp (by assumption) ?sub ?S ⟨rfl, ⟨⟨hH, ?ho⟩, hI, Nat.le_succ_of_le hL⟩, ?e, t, ?f⟩
      case ho => assumption
      case hp => (refine hp3 ?_ ?_ ?_ <;> exact rfl)
      case sub =>
        change ∀ q ∈ _ :: _ :: _ :: _ :: R, q ∈ _
        iterate 4 (refine sub_cons (by k_mem) ?_)
        (intro q hq; k_extra "K_SUB")
      case e => rw [hg]
      case f => first | (rw [hg]; done) | (rw [hg]; rfl)
      case S => exact sep_addr hS rfl
    · show wpAny _ _ (compareOp CmpOp.IsNot b.hv Value.none) _ _ _
      rw [e]
      repeat' ((fail_if_success (with_reducible show wpAny _ _ (compareOp CmpOp.GtE _ _) _ _ _)); first | (k_unfold; (try dsimp only)) | (k_end; wrow_close) | walk1 | (dsimp only; walk1) | (leave1; try dsimp only))
      show wpAny _ _ (compareOp CmpOp.GtE _ b.hv) _ _ _
      rw [e]
      k_steps
      · have hg := goRow_up (now := now) e2 (by assumption) (by assumption)
        refine' Turn3.intro ⟨_, _⟩ ⟨b.r, _, _, .none, _, _, ⟨true, b.y.there, none, _⟩⟩ (by assumption) ?hp (by assumption) ?sub ?S ⟨rfl, ⟨⟨.none, ?ho⟩, IntsAre.append hI (.cons _ _ .nil), ?len⟩, ?e, t, ?f⟩
        case len => (rw [List.length_append]; exact Nat.succ_le_succ hL)
        case ho => assumption
        case hp => (refine hp3 ?_ ?_ ?_ <;> exact rfl)
        case sub =>
          change ∀ q ∈ _ :: _ :: _ :: _ :: R, q ∈ _
          iterate 4 (refine sub_cons (by k_mem) ?_)
          (intro q hq; k_extra "K_SUB")
        case e => rw [hg]
        case f => first | (rw [hg]; done) | (rw [hg]; rfl)
        case S => exact sep_swap (f := [(_, _), (_, _), (_, _)]) (g := []) (sep_addr hS rfl) (by k_all)
      · have hg := goRow_gone (now := now) e2 (by assumption) (by assumption)
        refine' Turn3.intro ⟨_, _⟩ ⟨b.r, _, _, .none, _, _, ⟨b.y.up, b.y.there, none, _⟩⟩ (by assumption) ?hp (by assumption) ?sub ?S ⟨rfl, ⟨⟨.none, ?ho⟩, hI, Nat.le_succ_of_le hL⟩, ?e, t, ?f⟩
        case ho => assumption
        case hp => (refine hp3 ?_ ?_ ?_ <;> exact rfl)
        case sub =>
          change ∀ q ∈ _ :: _ :: _ :: _ :: R, q ∈ _
          iterate 4 (refine sub_cons (by k_mem) ?_)
          (intro q hq; k_extra "K_SUB")
        case e => rw [hg]
        case f => first | (rw [hg]; done) | (rw [hg]; rfl)
        case S => exact sep_addr hS rfl
      · have hg := goRow_wait (now := now) e2 (by assumption)
        refine' Turn3.intro ⟨_, _⟩ ⟨b.r, _, _, _, _, _, b.y⟩ (by assumption) ?hp (by assumption) ?sub ?S ⟨rfl, ⟨⟨hH, ?ho⟩, hI, Nat.le_succ_of_le hL⟩, ?e, t, ?f⟩
        case ho => assumption
        case hp => (refine hp3 ?_ ?_ ?_ <;> exact rfl)
        case sub =>
          change ∀ q ∈ _ :: _ :: _ :: _ :: R, q ∈ _
          iterate 4 (refine sub_cons (by k_mem) ?_)
          (intro q hq; k_extra "K_SUB")
        case e => rw [hg]
        case f => first | (rw [hg]; done) | (rw [hg]; rfl)
        case S => exact sep_addr hS rfl
  · intro a B u h tk I S F' N'
    (try k_fold)
    k_steps
    refine hret _ _ _ _ ⟨_, a, B, rfl, rfl, S, I⟩ (by assumption) (by assumption)
end
section
example : True := by
  k_with_none
  k_with "K_ALL" => (first | assumption | exact List.forall_mem_nil _ | (refine' off_as 0 ?h8 ?m8; (case h8 => assumption); (case m8 => k_dflt (exact rfl))) | (refine' lt_as 0 ?h7 ?m7; (case h7 => assumption); (case m7 => k_dflt (exact rfl))) | (refine' off_c ?a9 ?b9; (case a9 => k_ne); (case b9 => k_all)) | (refine' List.forall_mem_cons.mpr ⟨?a, ?b⟩; (case a => k_ne); (case b => k_all)) | (refine' lt_off ?h9 ?m9; (case h9 => assumption); (case m9 => intro q9 hq9; (repeat (first | exact hq9 | refine List.Mem.tail _ ?_)))) | (refine' off_sub ?h9 ?m9; (case h9 => assumption); (case m9 => intro q9 hq9; (repeat (first | exact hq9 | refine List.Mem.tail _ ?_)))))
  k_with "K_NE" => (first | assumption | exact Ne.symm (by assumption) | (refine' lt_ne ?h9 ?m9; (case h9 => assumption); (case m9 => k_mem)) | (refine' lt_ne' ?h9 ?m9; (case h9 => assumption); (case m9 => k_mem)) | (refine' off_ne ?h9 ?m9; (case h9 => assumption); (case m9 => k_mem)) | (refine' off_ne' ?h9 ?m9; (case h9 => assumption); (case m9 => k_mem)) | (refine' lt_ne1 ?h9 ?m9; (case h9 => assumption); (case m9 => k_mem)) | (refine' lt_ne1' ?h9 ?m9; (case h9 => assumption); (case m9 => k_mem)) | (refine' lt_ne2 ?h9 ?m9; (case h9 => assumption); (case m9 => k_mem)) | (refine' lt_ne2' ?h9 ?m9; (case h9 => assumption); (case m9 => k_mem)) | (refine' lt_ne3 ?h9 ?m9; (case h9 => assumption); (case m9 => k_mem)) | (refine' lt_ne3' ?h9 ?m9; (case h9 => assumption); (case m9 => k_mem)) | (refine neN ?_; (try dsimp only); omega))
  k_with "K_MEM" => (first | with_reducible assumption | exact mm0 | exact mm1 | exact mm2 | exact mm3 | exact mm4 | exact mm5 | exact mm6 | exact mm7 | exact mm8 | exact mm9 | exact mm10 | exact mm11 | exact mm12 | ((repeat (first | with_reducible assumption | exact List.Mem.head _ | (refine mem_in ?_; with_reducible assumption) | refine' List.Mem.tail _ ?_)); done))
  k_with "K_SUB" => (first | exact hq | exact md1 hq | exact md2 hq | exact md3 hq | exact md4 hq | exact md5 hq | exact md6 hq | exact md7 hq | exact md8 hq | exact md9 hq | exact md10 hq | exact md11 hq | exact md12 hq | exact md13 hq | exact md14 hq | (repeat (first | exact hq | refine List.Mem.tail _ ?_)))
  k_with "ENTER" => (first | (refine' code_def ?k1 ?k2 ?k3 ?k4 ?k5 ?kA ?kF ?kK ?k6 ?k7 ?k8 ?k9 ?kB ?_ ?c2 ?c3 ?c4 ?c5; (case kA => exact rfl); (case kF => exact rfl); (case kK => first | assumption | exact rfl); (case k1 => k_asm); (case k2 => k_asm); (case k3 => k_asm); (case k4 => k_asm); (case k5 => k_asm); (case k6 => k_is); (case k7 => k_is); (case k8 => k_room); (case k9 => first | exact BindsTo.of_eq rfl | exact binds_K (by k_in) rfl (by k_is) rfl rfl rfl); (case c5 => decide); (case kB => exact locs rfl); (case c2 => exact rfl); (case c3 => exact rfl); (case c4 => exact rfl); k_whole; intro g' L' h' FG' F' N' B' X' T'; (try dsimp only); (try k_lift B'); (try k_fold)) | (refine' code_defC ?k1 ?k2 ?k3 ?k4 ?k5 ?kA ?kF ?kK ?k6 ?k7 ?k8 ?k9 ?kB ?kD ?_ ?c2 ?c3 ?c4; (case kA => exact rfl); (case kF => exact rfl); (case kK => first | assumption | exact rfl); (case k1 => k_asm); (case k2 => k_asm); (case k3 => k_asm); (case k4 => k_asm); (case k5 => k_asm); (case k6 => k_is); (case k7 => k_is); (case k8 => k_room); (case k9 => first | exact BindsTo.of_eq rfl | exact binds_K (by k_in) rfl (by k_is) rfl rfl rfl); (case kB => exact rfl); (case kD => decide +kernel); (case c2 => exact rfl); (case c3 => exact rfl); (case c4 => exact rfl); k_whole; intro g' L' h' tk' cells' FG' F' N' Y' B' X' T' l1; (try k_lt l1); k_cells Y'; (try simp only [List.cons_append, List.nil_append] at N'); (try dsimp only); (try k_lift B'); (try k_fold)))
  k_with "X FinE" => (((unfold LCg.FinE); intro D' h' tk' F' N' o1'; (have oD' := off_of_off1 o1'); (clear o1'); (try simp only [List.nil_append, List.cons_append] at N'); (try dsimp only)))
  k_with "X ALC" => ((k_here; with_reducible refine plainObj_wpAny_Assign_Attribute ?_ ?_; rotate_left; with_unfolding_all rfl))
  k_with "X FinA" => ((unfold LCg.FinA); intro upsA h' tk' F' N' o1'; (have oU := off_of_off1 o1'); (clear o1'); (try simp only [List.nil_append, List.cons_append] at N'); (try dsimp only))
  k_with "X FOR" => ((k_here; (rename Fr _ _ _ _ => lF'); (with_unfolding_all refine' For_invVF lF' ?k1 ?k2 ?_; (case k1 => exact rfl); (case k2 => exact rfl); k_whole)))
  k_with "K_ROOM" => (first | k_dflt (first | exact room_0 hd | exact room_of 1 hd | exact room_of 2 hd | exact room_of 3 hd | exact room_of 4 hd | exact room_of 5 hd | exact room_of 6 hd | exact room_of 7 hd | exact room_of 8 hd) | ktr_room)
  k_with "K_UNITS" => (first | k_dflt (first | exact units_of 103 hu | exact units_of 303 hu | exact units_of 203 hu | exact units_of 67 hu | exact units_of 503 hu | exact units_of 403 hu) | ktr_units)
  k_with "binaryOp Add ref ref" => (k_here; (with_reducible show wpAny _ _ (binaryOp _ (Value.ref _) (Value.ref _)) _ _ _); k_dflt (refine' addl_at ?k1 ?k2 ?k3 ?k4 ?k5 ?k6 ?_; (case k1 => k_asm); (case k2 => k_asm); (case k3 => k_mem); (case k4 => k_mem); (case k5 => first | assumption | decide | (simp only [List.length_cons, List.length_nil]; omega)); (case k6 => first | assumption | decide | (simp only [List.length_cons, List.length_nil]; omega)); k_whole); intro l' h' F' N' l1; (try k_lt l1); (try k_sweep))
  k_with "CompSrcT" => (k_here; k_dflt (refine LCt.CompSrcT.ledger (by rfl) (by k_asm) (by k_asm) (by k_mem) (by rw [sizeLine_eq, List.size_toArray]; omega) ?_); intro g'; k_dflt (refine' rest_filter _ ?hf ?hi ?hS (fun i9 t9 I9 oI9 C9 oC9 D9 ys9 m9 h' tk9 E9 hi9 hC9 hx9 F' N' off9 ne9 => ?_) (fun ys9 hys9 => ?_); (case hf => assumption); (case hi => assumption); (case hS => exact Or.inr ⟨_, by k_mem, rfl, _, rfl⟩)); (try k_fold))
  k_with "TestEnd" => (refine TestEnd.intro ?_ (by k_asm) (by k_asm); rfl)
  k_with "call builtin:len cons nil" => (k_here; (with_reducible show wpAny _ _ (call (Value.builtin "len") [Value.ref _]) _ _ _); k_dflt (refine' len_filt ?k1 ?k2 ?k3 ?k4 ?k5 ?_; (case k1 => k_asm); (case k2 => k_mem); (case k3 => assumption); (case k4 => assumption); (case k5 => assumption); k_whole))
  k_with "subscriptTail Attribute Name Name ref int" => (k_here; (with_reducible show wpAny _ _ (subscriptTail _ _ (Value.ref _) (Value.int _ _)) _ _ _); (try (k_dflt (refine kba_turn (value' := PySem.Expr.Name (PySem.Str.ofString "_") ⟨0, 0, 0, 0⟩) (fun _ => rfl) ?_))); k_dflt (refine' kda_item (knd := PySem.intKind _ _) ?N ?m ?d (intKind_is _ _ _ _) ?l ?_; (case N => k_asm); (case m => k_mem); (case d => assumption); (case l => assumption); k_whole))
  k_with "subscriptTail Name Name ref int" => (k_here; (with_reducible show wpAny _ _ (subscriptTail _ _ (Value.ref _) (Value.int _ _)) _ _ _); (try (k_dflt (refine kba_turn (value' := PySem.Expr.Name (PySem.Str.ofString "_") ⟨0, 0, 0, 0⟩) (fun _ => rfl) ?_))); k_dflt (refine' kda_item (knd := PySem.intKind _ _) ?N ?m ?d (intKind_is _ _ _ _) ?l ?_; (case N => k_asm); (case m => k_mem); (case d => assumption); (case l => assumption); k_whole))
  k_with "compareOp NotIn int ref" => (k_here; k_dflt (refine' kdg_notin (knd := PySem.intKind _ _) ?N ?m ?d ?lo (intKind_is _ _ _ _) true ?hb ?_; (case N => k_asm); (case m => k_mem); (case d => assumption); (case lo => assumption); (case hb => assumption); k_whole))
  k_with "call builtin:list.append nil" => (k_here; k_dflt (refine' append_at ?k1 ?k2 ?k3 ?k4 ?_; (case k1 => k_asm); (case k2 => k_asm); (case k3 => k_updF); (case k4 => first | assumption | exact filt_len (by assumption) (by assumption) (by assumption)); k_whole); intro h' F' N'; (try dsimp only at N'); (try k_sweep))
  k_with "call builtin:list.append cons nil" => (k_here; k_dflt (refine' append_at ?k1 ?k2 ?k3 ?k4 ?_; (case k1 => k_asm); (case k2 => k_asm); (case k3 => k_updF); (case k4 => first | assumption | exact filt_len (by assumption) (by assumption) (by assumption)); k_whole); intro h' F' N'; (try dsimp only at N'); (try k_sweep))
  k_with "call builtin:sorted cons nil" => (k_here; (with_reducible show wpAny _ _ (call (Value.builtin "sorted") [Value.ref _]) _ _ _); k_dflt (refine' sorted_at rfl ?k1 ?k2 ?k3 ?k4 ?k5 ?_; (case k1 => k_asm); (case k2 => k_asm); (case k3 => k_mem); (case k4 => assumption); (case k5 => assumption); k_whole); intro B' h' tk9 t3' t1' t2' F' N' l1; (try k_lt l1))
  exact trivial
example : True := by
  k_with "call ref cons nil" => (k_here; (with_reducible show wpAny _ _ (call (Value.ref 142) _) _ _ _); k_dflt (refine' port_use ?k1 ?k2 ?k3 ?k4 ?k5 ?k6 ?k7 ?k8 ?k9 ?k10 ?k11 ?k12 ?k13 ?k14 ?k15 ?_; (case k1 => k_asm); (case k2 => k_asm); (case k3 => k_asm); (case k4 => k_asm); (case k5 => k_asm); (case k6 => first | exact rfl | assumption); (case k7 => k_room); (case k8 => k_units); (case k9 => k_mem); (case k10 => k_mem); (case k11 => k_mem); (case k12 => assumption); (case k13 => assumption); (case k14 => assumption); (case k15 => assumption); k_whole); intro h' tk9 F' N'; (try dsimp only); (try k_fold))
  k_with "call ref cons nil" => (k_here; (with_reducible show wpAny _ _ (call (Value.ref 101) _) _ _ _); k_dflt (refine' held_use ?k1 ?k2 ?k3 ?k4 ?k5 ?k6 ?k7 ?k8 ?k9 ?k10 ?k11 ?_; (case k1 => k_asm); (case k2 => k_asm); (case k3 => k_asm); (case k4 => k_asm); (case k5 => k_asm); (case k6 => first | exact rfl | assumption); (case k7 => k_room); (case k8 => k_units); (case k9 => k_mem); (case k10 => k_mem); (case k11 => assumption); k_whole); intro h' tk9 F' N'; (try dsimp only); (try k_fold))
  k_with "call ref cons nil" => (k_here; (with_reducible show wpAny _ _ (call (Value.ref 106) _) _ _ _); k_dflt (refine' rec_use ?k1 ?k2 ?k3 ?k4 ?k5 ?k6 ?k7 ?k8 ?k9 ?k10 ?k11 ?k12 ?k13 ?k14 ?k15 ?_; (case k1 => k_asm); (case k2 => k_asm); (case k3 => k_asm); (case k4 => k_asm); (case k5 => k_asm); (case k6 => first | exact rfl | assumption); (case k7 => k_room); (case k8 => k_units); (case k10 => k_mem); (case k9 => k_updF); (case k11 => k_ne); (case k12 => k_mem); (case k13 => k_ne); (case k14 => assumption); (case k15 => assumption); k_whole); intro t9 D9 us9 k9 h' tk9 hI9 hL9 oD9 F' N'; (try dsimp only at N'); (try dsimp only); (try k_fold))
  k_with "call ref cons nil" => (k_here; (with_reducible show wpAny _ _ (call (Value.ref 156) _) _ _ _); k_dflt (refine' turn_use ?k1 ?k2 ?k3 ?k4 ?k5 ?k6 ?k7 ?k8 ?u1 ?u2 ?n0 ?k9 ?k10 ?k11 ?k12 ?n1 ?n2 ?n3 ?n4 ?k13 ?k14 ?k15 ?_; (case k1 => k_asm); (case k2 => k_asm); (case k3 => k_asm); (case k4 => k_asm); (case k5 => k_asm); (case k6 => first | exact rfl | assumption); (case k7 => k_room); (case k8 => k_units); (case k11 => k_mem); (case k14 => assumption); (case k15 => assumption); (case k12 => k_mem); (case u1 => k_updF); (case k9 => k_mem); (case k10 => k_mem); (case u2 => intro o9; (try dsimp only); k_updF); (case n0 => k_ne); (case n1 => exact ⟨by k_ne, by k_ne⟩); (case n2 => exact ⟨by k_ne, by k_ne⟩); (case n3 => exact ⟨by k_ne, by k_ne⟩); (case n4 => exact ⟨by k_ne, by k_ne⟩); (case k13 => assumption); k_whole); intro r9 t9 h' tk9 oD9 F' N'; (try dsimp only at N'); (try dsimp only); (try k_fold))
  exact trivial
structure ExA where
  vs : List Value
  n : Nat
  cs : List Value
  nc : Nat
  tl : List (Addr × Obj)
@[reducible] def exHead (c : PC) (C fl : Addr) (oR oW : Obj) (a : ExA) : List (Addr × Obj) :=
  [(fl, listOf a.vs.toArray a.n), (c.P, instObj 187 c.dP), (c.dP, c.d C), (c.R, oR), (c.W, oW), (C, listOf a.cs.toArray a.nc)]
@[reducible] def exLa (c : PC) (C fl : Addr) (oR oW : Obj) (a : ExA) : List (Addr × Obj) := exHead c C fl oR oW a ++ a.tl
structure ExInv (B₀ : Int → PBlk) (cs₀ : List Value) (now : Int) (K : Nat) (i : Int) (a : ExA) (B : Int → PBlk) : Prop where
  ok : ∀ n, In3 n → (B n).Ok (if n ≤ i then K + 1 else K)
  same : ∀ n, In3 n → (B n).p = (B₀ n).p ∧ (B n).w0 = (B₀ n).w0
  row : ∀ n, In3 n → (B n).x = if n ≤ i then (prtGo now (B₀ n).x).1 else (B₀ n).x
  found : IntsAre a.vs (goneG (fun n => (prtGo now (B₀ n).x).2) i)
  tups : ∃ us, a.cs = cs₀ ++ us ∧ TupsAre a.tl us ((goneG (fun n => (prtGo now (B₀ n).x).2) i).map fun n => (n, true))
theorem ExInv.start {B₀ : Int → PBlk} {cs₀ : List Value} {now : Int} {K nf nc : Nat} (hok : ∀ n, In3 n → (B₀ n).Ok K) : ExInv B₀ cs₀ now K 0 ⟨[], nf, cs₀, nc, []⟩ B₀ := by
  have e : goneG (fun n => (prtGo now (B₀ n).x).2) 0 = [] := rfl
  refine ⟨fun n hn => ?_, fun _ _ => ⟨rfl, rfl⟩, fun n hn => ?_, ?_, [], (List.append_nil _).symm, ?_⟩
  · rw [if_neg (by rcases hn with rfl | rfl | rfl <;> decide)]; exact hok n hn
  · rw [if_neg (by rcases hn with rfl | rfl | rfl <;> decide)]
  · rw [e]; exact .nil
  · rw [e]; exact .nil
theorem ExInv.step {B₀ : Int → PBlk} {cs₀ : List Value} {now : Int} {K nf' nc' : Nat} {n : Int} {a : ExA} {B : Int → PBlk} {b' : PBlk} {vs' cs' us' : List Value} {tl' : List (Addr × Obj)} {t : Tok} (I : ExInv B₀ cs₀ now K (n - 1) a B) (hn : In3 n) (hr : b'.p = (B n).p ∧ b'.w0 = (B n).w0) (hok : b'.Ok (K + 1)) (hy : b'.x = (prtGo now (B n).x).1)
    (hf : vs' = if (prtGo now (B n).x).2 then a.vs ++ [.int n t] else a.vs) (hc : cs' = a.cs ++ us') (hu : TupsAre tl' us' (if (prtGo now (B n).x).2 then [(n, true)] else [])) :
    ExInv B₀ cs₀ now K n ⟨vs', nf', cs', nc', tl' ++ a.tl⟩ (upd B n b') := by
  have hyn : (B n).x = (B₀ n).x := by rw [I.row n hn, if_neg (by omega)]
  refine ⟨fun k hk => ?_, fun k hk => ?_, fun k hk => ?_, ?_, ?_⟩
  · by_cases e : k = n
    · subst e; rw [upd_same, if_pos (Int.le_refl _)]; exact hok
    · rw [upd_other B b' e]
      have := I.ok k hk
      have e2 : (k ≤ n) ↔ (k ≤ n - 1) := by omega
      simp only [e2]; exact this
  · by_cases e : k = n
    · subst e; rw [upd_same, hr.1, hr.2]; exact I.same _ hk
    · rw [upd_other B b' e]; exact I.same k hk
  · by_cases e : k = n
    · subst e; rw [upd_same, hy, if_pos (Int.le_refl _), hyn]
    · rw [upd_other B b' e, I.row k hk]
      have e2 : (k ≤ n) ↔ (k ≤ n - 1) := by omega
      simp only [e2]
  · rw [goneG_step _ hn]
    rw [hyn] at hf
    subst hf
    show IntsAre (if _ then _ else _) _
    cases (prtGo now (B₀ n).x).2
    · simpa using I.found
    · exact IntsAre.append I.found (.cons _ _ .nil)
  · obtain ⟨us, e1, e2⟩ := I.tups
    refine ⟨us ++ us', by rw [hc, e1, List.append_assoc], ?_⟩
    rw [goneG_step _ hn, List.map_append]
    refine TupsAre.append (e2.mono fun q hq => List.mem_append_right _ hq) ?_
    rw [hyn] at hu
    revert hu
    cases (prtGo now (B₀ n).x).2
    · exact fun hu => hu.mono fun q hq => List.mem_append_left _ hq
    · exact fun hu => hu.mono fun q hq => List.mem_append_left _ hq

/-- a turn of Ports.expire's loop -/
def ExTurn (prog : Program) (w : World) (A : Around) (E : Value → Shared → Prop) (s : Shared) (env : Env) (h₀ : Heap) (x : Str) (body : List Stmt) (fl C : Addr) (c : PC) (oR oW : Obj) (kR kW : List (Int × Value)) (tn : Tok) (now : Int) (K : Nat) : Prop :=
  ∀ n t (a : ExA) (b : PBlk) R' (u : Str → Option Value) h tk, a.vs.length < 1000 → a.cs.length < 1000 → b.vs.length < 1000 → b.Ok K → valueAt kR n = some (.ref b.p) → (valueAt kR n).isSome = true → valueAt kW n = some (.ref b.w0) →
    Sep (exHead c C fl oR oW a ++ b.led n) R' →
    Fr h₀ env.locals h (fun y => if y = x then some (.int n t) else kstB u [(Str.ofString "self", Value.ref c.P), (Str.ofString "now", .int now tn), (Str.ofString "found", .ref fl)] y) →
    News h₀ env.locals h (exHead c C fl oR oW a ++ (b.led n ++ R')) →
    wpAny (model prog w) A (execs body env) (Turn3 (exLa c C fl oR oW) PBlk.led [(Str.ofString "self", Value.ref c.P), (Str.ofString "now", .int now tn), (Str.ofString "found", .ref fl)] h₀ env.locals n R'
      (fun a' b' => (b'.p = b.p ∧ b'.w0 = b.w0) ∧ b'.Ok (K + 1) ∧ b'.x = (prtGo now b.x).1 ∧ (∃ t', a'.vs = if (prtGo now b.x).2 then a.vs ++ [.int n t'] else a.vs) ∧ ∃ us', a'.cs = a.cs ++ us' ∧ TupsAre a'.tl us' (if (prtGo now b.x).2 then [(n, true)] else []))
      { s with heap := h, toks := tk }) E { s with heap := h, toks := tk }
theorem ex_loop {prog : Program} {w : World} {A : Around} {E : Value → Shared → Prop} {s : Shared} {env : Env} {h₀ : Heap} {x : Str} {body : List Stmt} {Q : Flow → Shared → Prop} {l fl C : Addr} {c : PC} {oR oW : Obj} {cs₀ : List Value} {nn nf nc : Nat} {t1 t2 t3 tn : Tok} {m₀ : Str → Option Value} {rest : List (Addr × Obj)} {kR kW : List (Int × Value)} {now : Int} {K : Nat} {B₀ : Int → PBlk}
    (hh : A.handled = none) (F : Fr h₀ env.locals s.heap m₀)
    (N : News h₀ env.locals s.heap ((l, listOf #[.int 1 t1, .int 2 t2, .int 3 t3] nn) :: (fl, listOf #[] nf) :: (c.P, instObj 187 c.dP) :: (c.dP, c.d C) :: (c.R, oR) :: (c.W, oW) :: (C, listOf cs₀.toArray nc) :: (led3b PBlk.led B₀ ++ rest)))
    (hl : Off l ((fl, listOf #[] nf) :: (c.P, instObj 187 c.dP) :: (c.dP, c.d C) :: (c.R, oR) :: (c.W, oW) :: (C, listOf cs₀.toArray nc) :: (led3b PBlk.led B₀ ++ rest)))
    (hfl : Off fl ((c.P, instObj 187 c.dP) :: (c.dP, c.d C) :: (c.R, oR) :: (c.W, oW) :: (C, listOf cs₀.toArray nc) :: (led3b PBlk.led B₀ ++ rest)))
    (hs : Sep ((c.P, instObj 187 c.dP) :: (c.dP, c.d C) :: (c.R, oR) :: (c.W, oW) :: (C, listOf cs₀.toArray nc) :: led3b PBlk.led B₀) rest)
    (hp : ∀ p ∈ [(Str.ofString "self", Value.ref c.P), (Str.ofString "now", .int now tn), (Str.ofString "found", .ref fl)], m₀ p.1 = some p.2)
    (hK : K < 990) (hc : cs₀.length < 990) (hRl : ∀ n, In3 n → valueAt kR n = some (.ref (B₀ n).p)) (hWl : ∀ n, In3 n → valueAt kW n = some (.ref (B₀ n).w0)) (hok : ∀ n, In3 n → (B₀ n).Ok K)
    (turn : ExTurn prog w A E s env h₀ x body fl C c oR oW kR kW tn now K)
    (done : ∀ a B (u : Str → Option Value) h tk, ExInv B₀ cs₀ now K 3 a B → Sep (exLa c C fl oR oW a ++ led3b PBlk.led B) rest →
      Fr h₀ env.locals h (fun y => kstB u [(Str.ofString "self", Value.ref c.P), (Str.ofString "now", .int now tn), (Str.ofString "found", .ref fl)] y) →
      News h₀ env.locals h ((fl, listOf a.vs.toArray a.n) :: (c.P, instObj 187 c.dP) :: (c.dP, c.d C) :: (c.R, oR) :: (c.W, oW) :: (C, listOf a.cs.toArray a.nc) :: (a.tl ++ (led3b PBlk.led B ++ rest))) → Q .next { s with heap := h, toks := tk }) :
    wpAny (model prog w) A (pyIter (.ref l)) (fun it s₂ => LoopAtV prog w A h₀ env x body Q E it s₂) E s := by
  refine loop3 (exLa c C fl oR oW) PBlk.led _ (ExInv B₀ cs₀ now K) ⟨[], nf, cs₀, nc, []⟩ B₀ hh F N (fun q hq => hq) hl hp ?_ (ExInv.start hok) ?_ ?_
  · show Sep ((fl, _) :: _) rest
    exact sep_cons.mpr ⟨(off_append (l := (c.P, instObj 187 c.dP) :: (c.dP, c.d C) :: (c.R, oR) :: (c.W, oW) :: (C, listOf cs₀.toArray nc) :: led3b PBlk.led B₀) (l' := rest)).mp hfl, hs⟩
  · intro n t a B R₁ u h tk hn I S F₁ N₁
    have hyn : (B n).Ok K := by have := I.ok n hn; rwa [if_neg (by omega)] at this
    have hal : a.vs.length < 1000 := by rw [I.found.length]; exact Nat.lt_of_le_of_lt (goneG_len _ _) (by decide)
    have hcl : a.cs.length < 1000 := by
      obtain ⟨us, e1, e2⟩ := I.tups
      have := e2.length
      rw [List.length_map] at this
      have h3 := goneG_len (fun n => (prtGo now (B₀ n).x).2) (n - 1)
      rw [e1, List.length_append]
      omega
    have hbl := hyn.len
    have S1 : Sep ((exHead c C fl oR oW a ++ PBlk.led n (B n)) ++ a.tl) R₁ := by
      refine Sep.perm S ?_
      rw [List.append_assoc, List.append_assoc]
      exact List.Perm.append_left _ List.perm_append_comm
    obtain ⟨S2, S3⟩ := sep_append.mp S1
    refine wpAny_mono (turn n t a (B n) (a.tl ++ R₁) u h tk hal hcl (by omega) hyn (by rw [hRl n hn, (I.same n hn).1]) (by rw [hRl n hn]; rfl) (by rw [hWl n hn, (I.same n hn).2]) S2 F₁ fun q hq => N₁ q ?_) ?_ fun _ _ e => e
    · simp only [List.mem_append] at hq ⊢
      rcases hq with hq | hq | hq | hq
      · exact .inl (.inl hq)
      · exact .inr (.inl hq)
      · exact .inl (.inr hq)
      · exact .inr (.inr hq)
    · rintro f s₂ ⟨hf, a', b', h', tk', m', e, F', hp', N', S', c1, c2, c3, ⟨t', c4⟩, us', c5, c6⟩
      refine ⟨hf, ⟨a'.vs, a'.n, a'.cs, a'.nc, a'.tl ++ a.tl⟩, b', h', tk', m', e, F', hp', fun q hq => N' q ?_, ?_, I.step hn c1 c2 c3 c4 c5 c6⟩
      · simp only [exLa, List.mem_append] at hq ⊢
        rcases hq with (hq | hq | hq) | hq | hq
        · exact .inl (.inl hq)
        · exact .inl (.inr hq)
        · exact .inr (.inr (.inl hq))
        · exact .inr (.inl hq)
        · exact .inr (.inr (.inr hq))
      · refine Sep.perm (sep_append.mpr ⟨S', S3⟩) ?_
        show (((exHead c C fl oR oW a' ++ a'.tl) ++ PBlk.led n b') ++ a.tl).Perm ((exHead c C fl oR oW a' ++ (a'.tl ++ a.tl)) ++ PBlk.led n b')
        simp only [List.append_assoc]
        exact List.Perm.append_left _ (List.Perm.append_left _ List.perm_append_comm)
  · intro a B u h tk I S F₁ N₁
    refine done a B u h tk I S F₁ fun q hq => N₁ q ?_
    show q ∈ (exHead c C fl oR oW a ++ a.tl) ++ (led3b PBlk.led B ++ rest)
    rw [List.append_assoc]
    exact hq

/-- a rule for Ports.expire's loop over the list `its` -/
def ExLoop (w : World) (C : Addr) (c : PC) (oR oW : Obj) (kR kW : List (Int × Value)) (now : Int) (tn : Tok) (K : Nat) (its : Array Value) (cs₀ : List Value) (nc : Nat) (X : List (Addr × Obj)) (Fin : Addr → List (Addr × Obj) → Prop) : Prop :=
  ∀ (A : Around) (E : Value → Shared → Prop) (s : Shared) (env : Env) (h₀ : Heap) (x : Str) (body : List Stmt) (Q : Flow → Shared → Prop) (l fl : Addr) (nn nf : Nat) (m₀ : Str → Option Value), A.handled = none → Fr h₀ env.locals s.heap m₀ →
    News h₀ env.locals s.heap ((l, listOf its nn) :: (fl, listOf #[] nf) :: (c.P, instObj 187 c.dP) :: (c.dP, c.d C) :: (c.R, oR) :: (c.W, oW) :: (C, listOf cs₀.toArray nc) :: X) →
    Off l ((fl, listOf #[] nf) :: (c.P, instObj 187 c.dP) :: (c.dP, c.d C) :: (c.R, oR) :: (c.W, oW) :: (C, listOf cs₀.toArray nc) :: X) → Off fl ((c.P, instObj 187 c.dP) :: (c.dP, c.d C) :: (c.R, oR) :: (c.W, oW) :: (C, listOf cs₀.toArray nc) :: X) →
    (∀ p ∈ [(Str.ofString "self", Value.ref c.P), (Str.ofString "now", .int now tn), (Str.ofString "found", .ref fl)], m₀ p.1 = some p.2) →
    ExTurn PySem.Challenge.rw_pb0539_01.prog w A E s env h₀ x body fl C c oR oW kR kW tn now K →
    (∀ nx (u : Str → Option Value) h tk, Fin fl nx → Fr h₀ env.locals h (fun y => kstB u [(Str.ofString "self", Value.ref c.P), (Str.ofString "now", .int now tn), (Str.ofString "found", .ref fl)] y) → News h₀ env.locals h nx → Q .next { s with heap := h, toks := tk }) →
    wpAny (model PySem.Challenge.rw_pb0539_01.prog w) A (pyIter (.ref l)) (fun it s₂ => LoopAtV PySem.Challenge.rw_pb0539_01.prog w A h₀ env x body Q E it s₂) E s
theorem prtGo_none {now : Int} {x : PW} (h : x.held = none) : prtGo now x = (x, false) := by
  unfold prtGo
  rw [h]; rfl
theorem prtGo_wait {now i : Int} {x : PW} (h : x.held = some i) (h2 : ¬ i ≤ now) : prtGo now x = (x, false) := by
  unfold prtGo
  rw [h]
  exact if_neg (by show ¬ decide _ = true; rw [decide_eq_true_eq]; exact h2)
theorem prtGo_gone {now i : Int} {x : PW} (h : x.held = some i) (h2 : i ≤ now) (h3 : x.there = false) : prtGo now x = (⟨x.up, x.there, none, x.ups⟩, false) := by
  unfold prtGo
  rw [h]
  rw [if_pos (show dueAt (some i) now = true from decide_eq_true h2), if_neg (by rw [h3]; exact Bool.false_ne_true)]
theorem prtGo_up {now i : Int} {x : PW} (h : x.held = some i) (h2 : i ≤ now) (h3 : x.there = true) : prtGo now x = (⟨true, x.there, none, x.ups ++ [now]⟩, true) := by
  unfold prtGo
  rw [h]
  rw [if_pos (show dueAt (some i) now = true from decide_eq_true h2), if_pos h3]
def ExPost (c : PC) (C : Addr) (oR oW : Obj) (B₀ : Int → PBlk) (cs₀ : List Value) (rest : List (Addr × Obj)) (now : Int) (K : Nat) (res : Value) (nx : List (Addr × Obj)) : Prop :=
  ∃ fl, res = .ref fl ∧ ∃ a B, nx = exHead c C fl oR oW a ++ (a.tl ++ (led3b PBlk.led B ++ rest)) ∧ Sep (exLa c C fl oR oW a ++ led3b PBlk.led B) rest ∧ ExInv B₀ cs₀ now K 3 a B
/-- Ports.numbers, as a rule -/
def Numbers (w : World) (C : Addr) (c : PC) (oR : Obj) (its : Array Value → Prop) : Prop :=
  ∀ rest : List (Addr × Obj), (c.P, instObj 187 c.dP) ∈ rest → (c.dP, c.d C) ∈ rest → (c.R, oR) ∈ rest → Spec 1 w 149 [.ref c.P] rest (fun r nx => ∃ B v nn, r = .ref B ∧ its v ∧ nx = (B, listOf v nn) :: rest ∧ ∀ q ∈ rest, q.1 < B)
theorem num3_spec (w : World) (C : Addr) (c : PC) (oR : Obj) (v1 v2 v3 : Value) (hR : IntD w oR [(3, v3), (1, v1), (2, v2)]) (hRn : (c.R == sysModules) = false) : Numbers w C c oR (fun v => ∃ t1 t2 t3, v = #[.int 1 t1, .int 2 t2, .int 3 t3]) := by
  intro rest m1 m2 m3 dp' un gd cn cs' a ccd cl outer A₀ base h₀ L m p' loose mean mg mb s Q E B F X N T hk hd hu hret
  refine wpAny_call ?_
  k_dflt cell_enter
  k_steps
  refine' hret _ _ _ _ ⟨_, _, _, rfl, ⟨_, _, _, rfl⟩, rfl, ?l⟩ (by assumption) ?N
  case N => assumption
  case l => assumption
theorem exp_gen (w : World) (c : PC) (C : Addr) (oR oW : Obj) (kR kW : List (Int × Value)) (cs₀ : List Value) (nc : Nat) (X : List (Addr × Obj)) (now : Int) (tn : Tok) (K : Nat) (its : Array Value → Prop) (Fin : Addr → List (Addr × Obj) → Prop)
   (hR : IntD w oR kR) (hRn : (c.R == sysModules) = false) (hW : IntD w oW kW) (hNum : Numbers w C c oR its) (hLoop : ∀ v, its v → ExLoop w C c oR oW kR kW now tn K v cs₀ nc X Fin) :
   Spec 3 w 177 [.ref c.P, .int now tn] ((c.P, instObj 187 c.dP) :: (c.dP, c.d C) :: (c.R, oR) :: (c.W, oW) :: (C, listOf cs₀.toArray nc) :: X) (fun r nx => ∃ fl, r = .ref fl ∧ Fin fl nx) := by
  intro dp' un gd cn cs' a ccd cl outer A₀ base h₀ L m p' loose mean mg mb s Q E B F X₀ N T hk hd hu hret
  refine wpAny_call ?_
  k_dflt cell_enter
  repeat' ((fail_if_success (with_reducible show wpAny _ _ (call (Value.ref 149) _) _ _ _)); first | (k_unfold; (try dsimp only)) | (k_end; wrow_close) | walk1 | (dsimp only; walk1) | (leave1; try dsimp only))
  refine' Spec.use (hNum _ ?m1 ?m2 ?m3) ?B ?F ?X ?N (fun q hq => hq) ?T ?hk ?hd ?hu ?ret
  case N => assumption
  case B => assumption
  case F => assumption
  case X => assumption
  case T => assumption
  case hk => first | exact rfl | assumption
  case hd => k_room
  case hu => k_units
  case m1 => k_mem
  case m2 => k_mem
  case m3 => k_mem
  rintro r nx h' tk' ⟨B9, v9, nn9, rfl, hv9, rfl, l9⟩ F' N'
  repeat' ((fail_if_success (with_reducible show wpAny _ _ (pyIter (Value.ref _)) (fun it s₂ => LoopAtV _ _ _ _ _ _ _ _ _ it s₂) _ _)); first | (k_unfold; (try dsimp only)) | (k_end; wrow_close) | walk1 | (dsimp only; walk1) | (leave1; try dsimp only))
  refine hLoop v9 hv9 _ _ _ _ _ _ _ _ _ _ _ _ _ rfl (by assumption) (by assumption) ?_ ?_ ?_ ?_ ?_
  · k_all
  · k_all
  · (refine hp3 ?_ ?_ ?_ <;> exact rfl)
  · intro n t a b R' u h tk hal hcl hbl hok hRb hRs hWb hS F' N'
    obtain ⟨hH, hI, hL⟩ := hok
    have hS0 := hS
    obtain ⟨q_fl, hS1⟩ := sep11 hS
    obtain ⟨q_P, q_dP, q_R, q_W, q_C, q_p, q_dp, q_w0, q_dw, q_u⟩ := sep10 hS1
    dsimp only [exHead, PBlk.led, List.cons_append, List.nil_append] at N'
    (try k_fold)
    repeat' ((fail_if_success (with_reducible show wpAny _ _ (compareOp CmpOp.IsNot _ _) _ _ _)); first | (k_unfold; (try dsimp only)) | (k_end; wrow_close) | walk1 | (dsimp only; walk1) | (leave1; try dsimp only))
    rcases heldV_inv hH with ⟨e, e2⟩ | ⟨i, ti, e, e2⟩
    · have hg := prtGo_none (now := now) e2
      rw [e]
      k_steps
      refine' Turn3.intro ⟨_, _, _, _, []⟩ b (by assumption) ?hp (by assumption) ?sub ?S ⟨⟨rfl, rfl⟩, ⟨hH, hI, Nat.le_succ_of_le hL⟩, ?e, ⟨t, ?f⟩, [], (List.append_nil _).symm, ?tu⟩
      case hp => (refine hp3 ?_ ?_ ?_ <;> exact rfl)
      case sub =>
        change ∀ q ∈ _ :: _ :: _ :: _ :: _ :: _ :: _ :: _ :: _ :: _ :: _ :: R', q ∈ _
        iterate 11 (refine sub_cons (by k_mem) ?_)
        (intro q hq; k_extra "K_SUB")
      case tu => (rw [hg]; exact .nil)
      case e => rw [hg]
      case f => first | (rw [hg]; done) | (rw [hg]; rfl)
      case S => exact sep_addr hS0 rfl
    · rw [e]
      repeat' ((fail_if_success (with_reducible show wpAny _ _ (compareOp CmpOp.GtE _ (PBlk.hv _)) _ _ _)); first | (k_unfold; (try dsimp only)) | (k_end; wrow_close) | walk1 | (dsimp only; walk1) | (leave1; try dsimp only))
      rw [e]
      k_steps
      · have hg := prtGo_up (now := now) e2 (by assumption) (by assumption)
        refine' Turn3.intro ⟨_, _, _, _, [(_, tupOf n _ true)]⟩ ⟨b.p, b.dp, b.w0, b.dw, b.u, b.kp, b.kw, b.tn, b.spd, b.fv, b.mtu, .none, _, _, ⟨true, b.x.there, none, _⟩⟩ (by assumption) ?hp (by assumption) ?sub ?S ⟨⟨rfl, rfl⟩, ⟨.none, ?kin, ?len⟩, ?e, ⟨t, ?f⟩, [Value.ref _], ?cc, ?tu⟩
        case hp => (refine hp3 ?_ ?_ ?_ <;> exact rfl)
        case sub =>
          change ∀ q ∈ _ :: _ :: _ :: _ :: _ :: _ :: _ :: _ :: _ :: _ :: _ :: _ :: R', q ∈ _
          iterate 12 (refine sub_cons (by k_mem) ?_)
          (intro q hq; k_extra "K_SUB")
        case kin => exact IntsAre.append hI (.cons _ _ .nil)
        case len => (rw [List.length_append]; exact Nat.succ_le_succ hL)
        case cc => rfl
        case tu => (rw [hg]; exact .cons (List.mem_singleton.mpr rfl) .nil)
        case e => rw [hg]
        case f => first | (rw [hg]; done) | (rw [hg]; rfl)
        case S => exact sep_ins (f := exHead c C _ oR oW _) (g := PBlk.led n _) (sep_addr hS0 rfl) (by k_all)
      · have hg := prtGo_gone (now := now) e2 (by assumption) (by assumption)
        refine' Turn3.intro ⟨_, _, _, _, []⟩ ⟨b.p, b.dp, b.w0, b.dw, b.u, b.kp, b.kw, b.tn, b.spd, b.fv, b.mtu, .none, _, _, ⟨b.x.up, b.x.there, none, _⟩⟩ (by assumption) ?hp (by assumption) ?sub ?S ⟨⟨rfl, rfl⟩, ⟨.none, hI, Nat.le_succ_of_le hL⟩, ?e, ⟨t, ?f⟩, [], (List.append_nil _).symm, ?tu⟩
        case hp => (refine hp3 ?_ ?_ ?_ <;> exact rfl)
        case sub =>
          change ∀ q ∈ _ :: _ :: _ :: _ :: _ :: _ :: _ :: _ :: _ :: _ :: _ :: R', q ∈ _
          iterate 11 (refine sub_cons (by k_mem) ?_)
          (intro q hq; k_extra "K_SUB")
        case tu => (rw [hg]; exact .nil)
        case e => rw [hg]
        case f => first | (rw [hg]; done) | (rw [hg]; rfl)
        case S => exact sep_addr hS0 rfl
      · have hg := prtGo_wait (now := now) e2 (by assumption)
        refine' Turn3.intro ⟨_, _, _, _, []⟩ b (by assumption) ?hp (by assumption) ?sub ?S ⟨⟨rfl, rfl⟩, ⟨hH, hI, Nat.le_succ_of_le hL⟩, ?e, ⟨t, ?f⟩, [], (List.append_nil _).symm, ?tu⟩
        case hp => (refine hp3 ?_ ?_ ?_ <;> exact rfl)
        case sub =>
          change ∀ q ∈ _ :: _ :: _ :: _ :: _ :: _ :: _ :: _ :: _ :: _ :: _ :: R', q ∈ _
          iterate 11 (refine sub_cons (by k_mem) ?_)
          (intro q hq; k_extra "K_SUB")
        case tu => (rw [hg]; exact .nil)
        case e => rw [hg]
        case f => first | (rw [hg]; done) | (rw [hg]; rfl)
        case S => exact sep_addr hS0 rfl
  · intro nx u h tk hF F' N'
    (try k_fold)
    k_steps
    exact hret _ _ _ _ ⟨_, rfl, hF⟩ (by assumption) (by assumption)
theorem exp_spec (w : World) (c : PC) (C : Addr) (oR oW : Obj) (kW : List (Int × Value)) (B₀ : Int → PBlk) (cs₀ : List Value) (nc : Nat) (rest : List (Addr × Obj)) (now : Int) (tn : Tok) (K : Nat)
   (hA : Sep ((c.P, instObj 187 c.dP) :: (c.dP, c.d C) :: (c.R, oR) :: (c.W, oW) :: (C, listOf cs₀.toArray nc) :: led3b PBlk.led B₀) rest)
   (hK : K < 990) (hc : cs₀.length < 990) (hR : IntD w oR [(3, .ref (B₀ 3).p), (1, .ref (B₀ 1).p), (2, .ref (B₀ 2).p)]) (hRn : (c.R == sysModules) = false) (hW : IntD w oW kW) (hWl : ∀ n, In3 n → valueAt kW n = some (.ref (B₀ n).w0)) (hok : ∀ n, In3 n → (B₀ n).Ok K) :
   Spec 3 w 177 [.ref c.P, .int now tn] ((c.P, instObj 187 c.dP) :: (c.dP, c.d C) :: (c.R, oR) :: (c.W, oW) :: (C, listOf cs₀.toArray nc) :: (led3b PBlk.led B₀ ++ rest)) (ExPost c C oR oW B₀ cs₀ rest now K) := by
  have hRl : ∀ n, In3 n → valueAt [(3, Value.ref (B₀ 3).p), (1, .ref (B₀ 1).p), (2, .ref (B₀ 2).p)] n = some (.ref (B₀ n).p) := by
    rintro n (rfl | rfl | rfl) <;> rfl
  refine exp_gen w c C oR oW _ kW cs₀ nc _ now tn K _ (fun fl nx => ∃ a B, nx = exHead c C fl oR oW a ++ (a.tl ++ (led3b PBlk.led B ++ rest)) ∧ Sep (exLa c C fl oR oW a ++ led3b PBlk.led B) rest ∧ ExInv B₀ cs₀ now K 3 a B) hR hRn hW (num3_spec w C c oR _ _ _ hR hRn) ?_
  rintro v ⟨t1, t2, t3, rfl⟩
  intro A E s env h₀ x body Q l fl nn nf m₀ hh F N hl hfl hp turn done
  exact ex_loop hh F N hl hfl hA hp hK hc hRl hWl hok turn fun a B u h tk I S F' N' => done _ u h tk ⟨a, B, rfl, S, I⟩ F' N'
end
section
example : True := by
  k_with_none
  k_with "K_ALL" => (first | assumption | exact List.forall_mem_nil _ | (refine' off_as 0 ?h8 ?m8; (case h8 => assumption); (case m8 => k_dflt (exact rfl))) | (refine' lt_as 0 ?h7 ?m7; (case h7 => assumption); (case m7 => k_dflt (exact rfl))) | (refine' off_c ?a9 ?b9; (case a9 => k_ne); (case b9 => k_all)) | (refine' List.forall_mem_cons.mpr ⟨?a, ?b⟩; (case a => k_ne); (case b => k_all)) | (refine' lt_off ?h9 ?m9; (case h9 => assumption); (case m9 => intro q9 hq9; (repeat (first | exact hq9 | refine List.Mem.tail _ ?_)))) | (refine' off_sub ?h9 ?m9; (case h9 => assumption); (case m9 => intro q9 hq9; (repeat (first | exact hq9 | refine List.Mem.tail _ ?_)))))
  k_with "K_NE" => (first | assumption | exact Ne.symm (by assumption) | (refine' lt_ne ?h9 ?m9; (case h9 => assumption); (case m9 => k_mem)) | (refine' lt_ne' ?h9 ?m9; (case h9 => assumption); (case m9 => k_mem)) | (refine' off_ne ?h9 ?m9; (case h9 => assumption); (case m9 => k_mem)) | (refine' off_ne' ?h9 ?m9; (case h9 => assumption); (case m9 => k_mem)) | (refine' lt_ne1 ?h9 ?m9; (case h9 => assumption); (case m9 => k_mem)) | (refine' lt_ne1' ?h9 ?m9; (case h9 => assumption); (case m9 => k_mem)) | (refine' lt_ne2 ?h9 ?m9; (case h9 => assumption); (case m9 => k_mem)) | (refine' lt_ne2' ?h9 ?m9; (case h9 => assumption); (case m9 => k_mem)) | (refine' lt_ne3 ?h9 ?m9; (case h9 => assumption); (case m9 => k_mem)) | (refine' lt_ne3' ?h9 ?m9; (case h9 => assumption); (case m9 => k_mem)) | (refine neN ?_; (try dsimp only); omega))
  k_with "K_MEM" => (first | with_reducible assumption | exact mm0 | exact mm1 | exact mm2 | exact mm3 | exact mm4 | exact mm5 | exact mm6 | exact mm7 | exact mm8 | exact mm9 | exact mm10 | exact mm11 | exact mm12 | ((repeat (first | with_reducible assumption | exact List.Mem.head _ | (refine mem_in ?_; with_reducible assumption) | refine' List.Mem.tail _ ?_)); done))
  k_with "K_SUB" => (first | exact hq | exact md1 hq | exact md2 hq | exact md3 hq | exact md4 hq | exact md5 hq | exact md6 hq | exact md7 hq | exact md8 hq | exact md9 hq | exact md10 hq | exact md11 hq | exact md12 hq | exact md13 hq | exact md14 hq | (repeat (first | exact hq | refine List.Mem.tail _ ?_)))
  k_with "ENTER" => (first | (refine' code_def ?k1 ?k2 ?k3 ?k4 ?k5 ?kA ?kF ?kK ?k6 ?k7 ?k8 ?k9 ?kB ?_ ?c2 ?c3 ?c4 ?c5; (case kA => exact rfl); (case kF => exact rfl); (case kK => first | assumption | exact rfl); (case k1 => k_asm); (case k2 => k_asm); (case k3 => k_asm); (case k4 => k_asm); (case k5 => k_asm); (case k6 => k_is); (case k7 => k_is); (case k8 => k_room); (case k9 => first | exact BindsTo.of_eq rfl | exact binds_K (by k_in) rfl (by k_is) rfl rfl rfl); (case c5 => decide); (case kB => exact locs rfl); (case c2 => exact rfl); (case c3 => exact rfl); (case c4 => exact rfl); k_whole; intro g' L' h' FG' F' N' B' X' T'; (try dsimp only); (try k_lift B'); (try k_fold)) | (refine' code_defC ?k1 ?k2 ?k3 ?k4 ?k5 ?kA ?kF ?kK ?k6 ?k7 ?k8 ?k9 ?kB ?kD ?_ ?c2 ?c3 ?c4; (case kA => exact rfl); (case kF => exact rfl); (case kK => first | assumption | exact rfl); (case k1 => k_asm); (case k2 => k_asm); (case k3 => k_asm); (case k4 => k_asm); (case k5 => k_asm); (case k6 => k_is); (case k7 => k_is); (case k8 => k_room); (case k9 => first | exact BindsTo.of_eq rfl | exact binds_K (by k_in) rfl (by k_is) rfl rfl rfl); (case kB => exact rfl); (case kD => decide +kernel); (case c2 => exact rfl); (case c3 => exact rfl); (case c4 => exact rfl); k_whole; intro g' L' h' tk' cells' FG' F' N' Y' B' X' T' l1; (try k_lt l1); k_cells Y'; (try simp only [List.cons_append, List.nil_append] at N'); (try dsimp only); (try k_lift B'); (try k_fold)))
  k_with "X FinE" => (((unfold LCg.FinE); intro D' h' tk' F' N' o1'; (have oD' := off_of_off1 o1'); (clear o1'); (try simp only [List.nil_append, List.cons_append] at N'); (try dsimp only)))
  k_with "X ALC" => ((k_here; with_reducible refine plainObj_wpAny_Assign_Attribute ?_ ?_; rotate_left; with_unfolding_all rfl))
  k_with "X FinA" => ((unfold LCg.FinA); intro upsA h' tk' F' N' o1'; (have oU := off_of_off1 o1'); (clear o1'); (try simp only [List.nil_append, List.cons_append] at N'); (try dsimp only))
  k_with "X FOR" => ((k_here; (rename Fr _ _ _ _ => lF'); (with_unfolding_all refine' For_invVF lF' ?k1 ?k2 ?_; (case k1 => exact rfl); (case k2 => exact rfl); k_whole)))
  k_with "K_ROOM" => (first | k_dflt (first | exact room_0 hd | exact room_of 1 hd | exact room_of 2 hd | exact room_of 3 hd | exact room_of 4 hd | exact room_of 5 hd | exact room_of 6 hd | exact room_of 7 hd | exact room_of 8 hd) | ktr_room)
  k_with "K_UNITS" => (first | k_dflt (first | exact units_of 103 hu | exact units_of 303 hu | exact units_of 203 hu | exact units_of 67 hu | exact units_of 503 hu | exact units_of 403 hu) | ktr_units)
  k_with "binaryOp Add ref ref" => (k_here; (with_reducible show wpAny _ _ (binaryOp _ (Value.ref _) (Value.ref _)) _ _ _); k_dflt (refine' addl_at ?k1 ?k2 ?k3 ?k4 ?k5 ?k6 ?_; (case k1 => k_asm); (case k2 => k_asm); (case k3 => k_mem); (case k4 => k_mem); (case k5 => first | assumption | decide | (simp only [List.length_cons, List.length_nil]; omega)); (case k6 => first | assumption | decide | (simp only [List.length_cons, List.length_nil]; omega)); k_whole); intro l' h' F' N' l1; (try k_lt l1); (try k_sweep))
  k_with "CompSrcT" => (k_here; k_dflt (refine LCt.CompSrcT.ledger (by rfl) (by k_asm) (by k_asm) (by k_mem) (by rw [sizeLine_eq, List.size_toArray]; omega) ?_); intro g'; k_dflt (refine' rest_filter _ ?hf ?hi ?hS (fun i9 t9 I9 oI9 C9 oC9 D9 ys9 m9 h' tk9 E9 hi9 hC9 hx9 F' N' off9 ne9 => ?_) (fun ys9 hys9 => ?_); (case hf => assumption); (case hi => assumption); (case hS => exact Or.inr ⟨_, by k_mem, rfl, _, rfl⟩)); (try k_fold))
  k_with "TestEnd" => (refine TestEnd.intro ?_ (by k_asm) (by k_asm); rfl)
  k_with "call builtin:len cons nil" => (k_here; (with_reducible show wpAny _ _ (call (Value.builtin "len") [Value.ref _]) _ _ _); k_dflt (refine' len_filt ?k1 ?k2 ?k3 ?k4 ?k5 ?_; (case k1 => k_asm); (case k2 => k_mem); (case k3 => assumption); (case k4 => assumption); (case k5 => assumption); k_whole))
  k_with "subscriptTail Attribute Name Name ref int" => (k_here; (with_reducible show wpAny _ _ (subscriptTail _ _ (Value.ref _) (Value.int _ _)) _ _ _); (try (k_dflt (refine kba_turn (value' := PySem.Expr.Name (PySem.Str.ofString "_") ⟨0, 0, 0, 0⟩) (fun _ => rfl) ?_))); k_dflt (refine' kda_item (knd := PySem.intKind _ _) ?N ?m ?d (intKind_is _ _ _ _) ?l ?_; (case N => k_asm); (case m => k_mem); (case d => assumption); (case l => assumption); k_whole))
  k_with "subscriptTail Name Name ref int" => (k_here; (with_reducible show wpAny _ _ (subscriptTail _ _ (Value.ref _) (Value.int _ _)) _ _ _); (try (k_dflt (refine kba_turn (value' := PySem.Expr.Name (PySem.Str.ofString "_") ⟨0, 0, 0, 0⟩) (fun _ => rfl) ?_))); k_dflt (refine' kda_item (knd := PySem.intKind _ _) ?N ?m ?d (intKind_is _ _ _ _) ?l ?_; (case N => k_asm); (case m => k_mem); (case d => assumption); (case l => assumption); k_whole))
  k_with "compareOp NotIn int ref" => (k_here; k_dflt (refine' kdg_notin (knd := PySem.intKind _ _) ?N ?m ?d ?lo (intKind_is _ _ _ _) true ?hb ?_; (case N => k_asm); (case m => k_mem); (case d => assumption); (case lo => assumption); (case hb => assumption); k_whole))
  k_with "call builtin:list.append nil" => (k_here; k_dflt (refine' append_at ?k1 ?k2 ?k3 ?k4 ?_; (case k1 => k_asm); (case k2 => k_asm); (case k3 => k_updF); (case k4 => first | assumption | exact filt_len (by assumption) (by assumption) (by assumption)); k_whole); intro h' F' N'; (try dsimp only at N'); (try k_sweep))
  k_with "call builtin:list.append cons nil" => (k_here; k_dflt (refine' append_at ?k1 ?k2 ?k3 ?k4 ?_; (case k1 => k_asm); (case k2 => k_asm); (case k3 => k_updF); (case k4 => first | assumption | exact filt_len (by assumption) (by assumption) (by assumption)); k_whole); intro h' F' N'; (try dsimp only at N'); (try k_sweep))
  k_with "call builtin:sorted cons nil" => (k_here; (with_reducible show wpAny _ _ (call (Value.builtin "sorted") [Value.ref _]) _ _ _); k_dflt (refine' sorted_at rfl ?k1 ?k2 ?k3 ?k4 ?k5 ?_; (case k1 => k_asm); (case k2 => k_asm); (case k3 => k_mem); (case k4 => assumption); (case k5 => assumption); k_whole); intro B' h' tk9 t3' t1' t2' F' N' l1; (try k_lt l1))
  exact trivial
theorem chg_spec (w : World) (c : PC) (C : Addr) (cs : List Value) (nc : Nat) (rest : List (Addr × Obj)) (n1 : c.P ≠ c.dP) (o1 : Off c.dP ((C, listOf cs.toArray nc) :: rest)) :
   Spec 1 w 184 [.ref c.P] ((c.P, instObj 187 c.dP) :: (c.dP, c.d C) :: (C, listOf cs.toArray nc) :: rest)
     (fun r nx => r = .ref C ∧ ∃ C' n', Off C' ((c.P, instObj 187 c.dP) :: (c.dP, c.d C) :: (C, listOf cs.toArray nc) :: rest) ∧ nx = (c.P, instObj 187 c.dP) :: (c.dP, c.d C') :: (C', listOf ([] : List Value).toArray n') :: (C, listOf cs.toArray nc) :: rest) := by
  intro dp' un gd cn cs' a ccd cl outer A₀ base h₀ L m p' loose mean mg mb s Q E B F X N T hk hd hu hret
  refine wpAny_call ?_
  k_dflt cell_enter
  k_steps
  refine' hret _ _ _ _ ⟨rfl, _, _, ?ho, rfl⟩ (by assumption) ?hN
  case hN =>
    refine news_drop (by assumption) ?_
    iterate 3 (refine sub_cons (by k_mem) ?_)
    intro q hq
    k_extra "K_SUB"
  case ho => k_all
end
section
section
variable {prog : Program} {w : World} {A : Around} {E : Value → Shared → Prop} {s : Shared} {h₀ : Heap} {L D a b : Addr} {m : Str → Option Value} {news tl : List (Addr × Obj)} {g : Obj → List (Addr × Obj)} {xs ys : List Value} {n k ka kb : Nat} {Q : Value → Shared → Prop}
theorem ext_at (F : Fr h₀ L s.heap m) (N : News h₀ L s.heap news) (hb : (b, listOf ys.toArray k) ∈ news) (U : UpdF D (listOf xs.toArray n) news g) (h1 : xs.length < 1000) (h2 : ys.length < 1000)
    (h : ∀ n' h', Fr h₀ L h' m → News h₀ L h' (g (listOf (xs ++ ys).toArray n')) → Q .none { s with heap := h' }) : wpAny (model prog w) A (call (.builtin "list.extend") [.ref D, .ref b]) Q E s := by
  have e1 : ¬(!(xs.toArray).isEmpty && Builtin.List.listTooLong (xs.toArray.size + ys.toArray.size)) = true := by
    rw [List.size_toArray, List.size_toArray, Bool.and_eq_true]
    rintro ⟨_, h3⟩
    have h4 := of_decide_eq_true h3
    rw [sizeLine_eq] at h4
    omega
  have e2 : xs.toArray.toList.length ≤ sizeLine := by rw [sizeLine_eq]; show xs.length ≤ _; omega
  have e3 : xs.toArray.size + ys.toArray.size ≤ sizeLine + 1 := by rw [sizeLine_eq, List.size_toArray, List.size_toArray]; omega
  cases ys with
  | nil =>
    refine kxn_extend F N hb rfl (upd_of_updF U _) e1 e2 e3 fun h' F' N' => h n h' F' ?_
    rw [List.append_nil]
    exact N'
  | cons y ys => exact kl_extend (its := xs.toArray) (l := xs ++ y :: ys) F N hb rfl (Nat.succ_ne_zero _) (upd_of_updF U _) e1 e2 e3 fun h' F' N' => h _ h' F' N'
theorem clr_at (F : Fr h₀ L s.heap m) (N : News h₀ L s.heap news) (U : UpdF D (listOf xs.toArray n) news g) (h1 : xs.length < 1000)
    (h : ∀ n' h', Fr h₀ L h' m → News h₀ L h' (g (listOf ([] : List Value).toArray n')) → Q .none { s with heap := h' }) : wpAny (model prog w) A (call (.builtin "list.clear") [.ref D]) Q E s := by
  have e2 : xs.toArray.toList.length ≤ sizeLine := by rw [sizeLine_eq]; show xs.length ≤ _; omega
  cases xs with
  | nil =>
    obtain ⟨pre, post, e1, eg, a, c⟩ := (upd_of_updF U (listOf #[] n)).split
    subst e1
    have z := N (D, listOf #[] n) (List.mem_append.mpr (.inr (.head _)))
    refine call_meets PySem.F.slot_list_clear ⟨_, z.1, rfl⟩ PySem.F.entry_list_clear (PySem.F.args_list_clear_1 _) (PySem.AutoSeq1.list_clear_list_0 D #[] n (by decide)) ⟨z.1, h n _ (F.change (Heap.SameBut.update ..) z.2.1 z.2.2) ?_⟩
    rw [eg]
    exact kl_turn0 (fun _ => #[]) N a c rfl rfl
  | cons x xs => exact kl_clear (its := (x :: xs).toArray) F N (upd_of_updF U _) (Nat.succ_ne_zero _) e2 fun h' F' N' => h _ h' F' N'
theorem copy_at (F : Fr h₀ L s.heap m) (N : News h₀ L s.heap news) (hb : (b, listOf ys.toArray k) ∈ news) (h2 : ys.length < 1000)
    (h : ∀ D c h', Fr h₀ L h' m → News h₀ L h' ((D, listOf ys.toArray c) :: news) → (∀ q ∈ news, q.1 < D) → Q (.ref D) { s with heap := h' }) : wpAny (model prog w) A (call (.type "list") [.ref b]) Q E s :=
  kup_listOf (zs := ys) F N hb rfl h (by rw [sizeLine_eq]; show ys.length ≤ _; omega)
def Flat2 (d : PyData) : Prop := d.canLay0 = true ∧ d.depth ≤ 2 ∧ PyData.eqv d d = true
theorem flat2_all : ∀ {ds : List PyData}, (∀ d ∈ ds, Flat2 d) → PyData.canLayAll0 ds = true ∧ PyData.depthAll ds ≤ 2 ∧ PyData.eqvAll ds ds = true
  | [], _ => by simp [PyData.canLayAll0, PyData.depthAll, PyData.eqvAll]
  | d :: ds, h => by
    have h1 := h d (.head _)
    have h2 := flat2_all fun e he => h e (.tail _ he)
    simp only [PyData.canLayAll0, PyData.depthAll, PyData.eqvAll, h1.1, h1.2.2, h2.1, h2.2.2, Bool.and_self, true_and, and_true]
    exact Nat.max_le.mpr ⟨h1.2.1, h2.2.1⟩
theorem flat_int (i : Int) : Flat2 (.int i) := ⟨by simp [PyData.canLay0], by simp [PyData.depth], by simp [PyData.eqv]⟩
theorem flat_bool (b : Bool) : Flat2 (.bool b) := ⟨by simp [PyData.canLay0], by simp [PyData.depth], by simp [PyData.eqv]⟩
def tupD (p : Int × Bool) : PyData := .tuple [.int p.1, .bool p.2]
theorem flat_tup (p : Int × Bool) : Flat2 (tupD p) := ⟨by simp [tupD, PyData.canLay0, PyData.canLayAll0], by simp [tupD, PyData.depth, PyData.depthAll], by simp [tupD, PyData.eqv, PyData.eqvAll]⟩
theorem same_list {ds : List PyData} {as bs : List Addr} (N : News h₀ L s.heap news) (ma : (a, listOf xs.toArray ka) ∈ news) (mb : (b, listOf ys.toArray kb) ∈ news) (ra : ReadsAll s.heap xs ds as) (rb : ReadsAll s.heap ys ds bs)
    (hd : ∀ d ∈ ds, Flat2 d) (hu : A.units + 64 < cLine) (h : Q (.bool true) s) : wpAny (model prog w) A (compareOp .Eq (.ref a) (.ref b)) Q E s := by
  obtain ⟨h1, h2, h3⟩ := flat2_all hd
  have sh : SeqAt.shaped (.list ds) = true := by
    unfold SeqAt.shaped
    rw [show PyData.canLay0 (.list ds) = true from by simpa [PyData.canLay0] using h1, Bool.true_and]
    refine decide_eq_true ?_
    simp only [PyData.depth]
    omega
  exact eq_dataH (.list (N.get ma) rfl rfl ra) (.list (N.get mb) rfl rfl rb) sh sh hu (by rw [show PyData.eqv (.list ds) (.list ds) = true from by simpa [PyData.eqv] using h3]; exact h)
theorem ints_read {h : Heap} : ∀ {vs : List Value} {ns : List Int}, IntsAre vs ns → ∃ as, ReadsAll h vs (ns.map .int) as
  | _, _, .nil => ⟨_, .nil⟩
  | _, _, .cons i t r => let ⟨_, e⟩ := ints_read r; ⟨_, .cons (.int i t) e⟩
theorem tups_read {h : Heap} (N : News h₀ L h tl) : ∀ {vs : List Value} {ps : List (Int × Bool)}, TupsAre tl vs ps → ∃ as, ReadsAll h vs (ps.map tupD) as
  | _, _, .nil => ⟨_, .nil⟩
  | _, _, .cons hm r => let ⟨_, e⟩ := tups_read N r; ⟨_, .cons (.tuple (N.get hm) rfl rfl (.cons (.int _ _) (.cons (.bool _) .nil))) e⟩
theorem eq_ints {ns : List Int} (N : News h₀ L s.heap news) (ma : (a, listOf xs.toArray ka) ∈ news) (mb : (b, listOf ys.toArray kb) ∈ news) (ra : IntsAre xs ns) (rb : IntsAre ys ns) (hu : A.units + 64 < cLine) (h : Q (.bool true) s) :
    wpAny (model prog w) A (compareOp .Eq (.ref a) (.ref b)) Q E s :=
  let ⟨_, e1⟩ := ints_read ra
  let ⟨_, e2⟩ := ints_read rb
  same_list N ma mb e1 e2 (fun d hd => by obtain ⟨i, _, rfl⟩ := List.mem_map.mp hd; exact flat_int i) hu h
theorem eq_tups {ps : List (Int × Bool)} (N : News h₀ L s.heap news) (ma : (a, listOf xs.toArray ka) ∈ news) (mb : (b, listOf ys.toArray kb) ∈ news) (ht : ∀ q ∈ tl, q ∈ news) (ra : TupsAre tl xs ps) (rb : TupsAre tl ys ps) (hu : A.units + 64 < cLine) (h : Q (.bool true) s) :
    wpAny (model prog w) A (compareOp .Eq (.ref a) (.ref b)) Q E s :=
  have N2 := news_drop N ht
  let ⟨_, e1⟩ := tups_read N2 ra
  let ⟨_, e2⟩ := tups_read N2 rb
  same_list N ma mb e1 e2 (fun d hd => by obtain ⟨i, _, rfl⟩ := List.mem_map.mp hd; exact flat_tup i) hu h
theorem mul_b {l : Addr} {v : Value} {u : Tok} (b : Bool) (F : Fr h₀ L s.heap m) (N : News h₀ L s.heap news) (hm : (l, listOf #[v] k) ∈ news)
    (h : ∀ D h', Fr h₀ L h' m → News h₀ L h' ((D, listOf (if b = true then [v] else []).toArray 0) :: news) → (∀ q ∈ news, q.1 < D) → Q (.ref D) { s with heap := h' }) :
    wpAny (model prog w) A (binaryOp .Mult (.ref l) (.int (if b = true then 1 else 0) u)) Q E s := by
  refine mul_list F N (N _ hm).1 (by cases b <;> decide) (by cases b <;> decide) (by show 1 * _ ≤ _; cases b <;> decide) fun h' F' N' => h _ h' F' ?_ fun q hq => Heap.lt_size (N q hq).1
  cases b <;> exact N'
theorem Res.str_up (k : Res) : (k.str == Str.ofString "up") = k.isUp := by cases k <;> decide +kernel
theorem Res.str_down (k : Res) : (k.str == Str.ofString "down") = k.isDown := by cases k <;> decide +kernel
/-- what a turn of a comprehension of pairs gives -/
def TupEnd (h₀ : Heap) (L : Addr) (m : Str → Option Value) (s₁ : Shared) (led : List (Addr × Obj)) (i : Int) (f : Bool) (y : Value) (s' : Shared) : Prop :=
  ∃ a t h' tk', y = .ref a ∧ s' = { s₁ with heap := h', toks := tk' } ∧ Fr h₀ L h' m ∧ News h₀ L h' ((a, tupOf i t f) :: led) ∧ ∀ q ∈ led, q.1 < a
theorem TupEnd.intro {s₁ : Shared} {led : List (Addr × Obj)} {i : Int} {t : Tok} {f : Bool} {h' : Heap} {tk' : Nat} {a : Addr} (F : Fr h₀ L h' m) (N : News h₀ L h' ((a, tupOf i t f) :: led)) (l : ∀ q ∈ led, q.1 < a) :
    TupEnd h₀ L m s₁ led i f (.ref a) { s₁ with heap := h', toks := tk' } := ⟨a, t, h', tk', rfl, rfl, F, N, l⟩
open LCg in
theorem rest_tups {env : Env} {elt : PySem.Expr} {x : Str} {scope : Scope} {cl : List (Str × Addr)} {ax : Addr} {Fin : List Value → List (Addr × Obj) → Prop} {vs : List Value} {ns : List Int} {f : Bool} (hi : IntsAre vs ns) (hm : (ax, listOf vs.toArray k) ∈ news)
    (turn : ∀ i t I oI C oC D ys led m₂ h tk (E' : Value → Shared → Prop), NsObj oC m₂ → m₂ x = some (.int i t) → Fr h₀ L h m → News h₀ L h ((I, oI) :: (C, oC) :: (D, lst ys) :: led) → ((@Ne Nat I C) ∧ (@Ne Nat I D) ∧ (@Ne Nat C D)) →
      wpAny (model prog w) A (eval elt (compEnvC scope cl C env)) (TupEnd h₀ L m { s with heap := h, toks := tk } ((I, oI) :: (C, oC) :: (D, lst ys) :: led) i f) E' { s with heap := h, toks := tk })
    (fin : ∀ ys t, TupsAre t ys (ns.map fun n => (n, f)) → Sep t news → Fin ys (t ++ news)) :
    CompRest prog w A h₀ L m env elt x scope cl s (SrcAt h₀ ax vs.toArray) (fun i v => vs.toArray[i]? = some v) Fin vs.toArray.size 0 [] news := by
  have main : ∀ (us : List Value) (ks : List Int) (pre : List Value) (ps : List (Int × Bool)) (ys : List Value) (t : List (Addr × Obj)), IntsAre us ks → vs = pre ++ us → ns.map (fun n => (n, f)) = ps ++ ks.map (fun n => (n, f)) → TupsAre t ys ps → Sep t news →
      CompRest prog w A h₀ L m env elt x scope cl s (SrcAt h₀ ax vs.toArray) (fun i v => vs.toArray[i]? = some v) Fin us.length pre.length ys (t ++ news) := by
    intro us
    induction us with
    | nil =>
      intro ks pre ps ys t hu e1 e2 hy hs
      cases hu
      rw [List.map_nil, List.append_nil] at e2
      exact fin ys t (e2 ▸ hy) hs
    | cons v us ih =>
      intro ks pre ps ys t hu e1 e2 hy hs
      cases hu with
      | cons i t1 hr =>
      intro v' I oI C oC D m₂ h tk E' hv hC hx F N off ne
      have hv' : v' = .int i t1 := by
        have : vs.toArray[pre.length]? = some (.int i t1) := by rw [e1]; simp
        have hv2 : vs.toArray[pre.length]? = some v' := hv
        rw [this] at hv2
        exact (Option.some.inj hv2).symm
      subst hv'
      refine wpAny_mono (turn i t1 I oI C oC D ys (t ++ news) m₂ h tk E' hC hx F N ne) ?_ fun _ _ e => e
      rintro y s' ⟨a, t2, h', tk', rfl, rfl, F', N', l'⟩
      have nxt := ih _ (pre ++ [.int i t1]) (ps ++ [(i, f)]) (ys ++ [.ref a]) ((a, tupOf i t2 f) :: t) hr (by rw [e1, List.append_assoc]; rfl) (by rw [e2, List.append_assoc]; rfl)
        ((hy.mono fun _ hq => .tail _ hq).append (.cons (.head _) .nil)) (sep_mk (fun q hq => Nat.ne_of_lt (l' q (.tail _ (.tail _ (.tail _ hq))))) hs)
      rw [List.length_append, List.length_singleton] at nxt
      refine CompEnd.intro F' N' ((a, tupOf i t2 f) :: (t ++ news)) ?_ (Off3.of fun p hp => ?_) (.inr ⟨_, .tail _ (List.mem_append_right _ hm), rfl, _, rfl⟩) nxt
      · exact sub_cons mm1 (sub_cons mm2 (sub_cons mm3 (sub_cons mm0 fun q hq => md4 hq)))
      · rcases List.mem_cons.mp hp with rfl | hp
        · exact ⟨(Nat.ne_of_lt (l' _ (.head _))).symm, (Nat.ne_of_lt (l' _ (.tail _ (.head _)))).symm, (Nat.ne_of_lt (l' _ (.tail _ (.tail _ (.head _))))).symm⟩
        · exact Off3.mem off p hp
  have := main vs ns [] [] [] [] hi rfl rfl .nil sep_nil
  rwa [List.length_nil] at this
theorem goneG_congr {g g' : Int → Bool} (h : ∀ n, In3 n → g n = g' n) : goneG g 3 = goneG g' 3 := by
  unfold goneG
  refine List.filter_congr fun n hn => ?_
  rw [h n (by simpa [In3] using hn)]
theorem flat_str {x : Str} (h : PyData.strOk x = true) : Flat2 (.str x) := ⟨by simp [PyData.canLay0, h], by simp [PyData.depth], by simp [PyData.eqv]⟩
theorem strs_read {h : Heap} : ∀ {vs : List Value} {ys : List Str}, StrsAre vs ys → ∃ as, ReadsAll h vs (ys.map .str) as
  | _, _, .nil => ⟨_, .nil⟩
  | _, _, .cons y t r => let ⟨_, e⟩ := strs_read r; ⟨_, .cons (.str y t) e⟩
theorem eq_strs {ys : List Str} (N : News h₀ L s.heap news) (ma : (a, listOf xs.toArray ka) ∈ news) {zs : List Value} (mb : (b, listOf zs.toArray kb) ∈ news) (ra : StrsAre xs ys) (rb : StrsAre zs ys) (hok : ∀ y ∈ ys, PyData.strOk y = true) (hu : A.units + 64 < cLine) (h : Q (.bool true) s) :
    wpAny (model prog w) A (compareOp .Eq (.ref a) (.ref b)) Q E s :=
  let ⟨_, e1⟩ := strs_read ra
  let ⟨_, e2⟩ := strs_read rb
  same_list N ma mb e1 e2 (fun d hd => by obtain ⟨i, hi, rfl⟩ := List.mem_map.mp hd; exact flat_str (hok i hi)) hu h
/-- lists in the ledger, of ints -/
inductive NestAre (news : List (Addr × Obj)) : List Value → List (List Int) → Prop
  | nil : NestAre news [] []
  | cons {a : Addr} {us : List Value} {k : Nat} {ns : List Int} {vs : List Value} {nss : List (List Int)} : (a, listOf us.toArray k) ∈ news → IntsAre us ns → NestAre news vs nss → NestAre news (.ref a :: vs) (ns :: nss)
theorem nest_read {h : Heap} (N : News h₀ L h news) : ∀ {vs : List Value} {nss : List (List Int)}, NestAre news vs nss → ∃ as, ReadsAll h vs (nss.map fun ns => .list (ns.map .int)) as
  | _, _, .nil => ⟨_, .nil⟩
  | _, _, .cons hm hi r => let ⟨_, e⟩ := nest_read N r; let ⟨_, e2⟩ := ints_read hi; ⟨_, .cons (.list (N.get hm) rfl rfl e2) e⟩
theorem eq_nest {nss : List (List Int)} (N : News h₀ L s.heap news) (ma : (a, listOf xs.toArray ka) ∈ news) (mb : (b, listOf ys.toArray kb) ∈ news) (ra : NestAre news xs nss) (rb : NestAre news ys nss) (hf : ∀ ns ∈ nss, Flat2 (.list (ns.map .int))) (hu : A.units + 64 < cLine) (h : Q (.bool true) s) :
    wpAny (model prog w) A (compareOp .Eq (.ref a) (.ref b)) Q E s :=
  let ⟨_, e1⟩ := nest_read N ra
  let ⟨_, e2⟩ := nest_read N rb
  same_list N ma mb e1 e2 (fun d hd => by obtain ⟨i, hi, rfl⟩ := List.mem_map.mp hd; exact hf i hi) hu h
theorem flat_nil : Flat2 (.list []) := ⟨by simp [PyData.canLay0, PyData.canLayAll0], by simp [PyData.depth, PyData.depthAll], by simp [PyData.eqv, PyData.eqvAll]⟩
theorem flat_one (i : Int) : Flat2 (.list [.int i]) := ⟨by simp [PyData.canLay0, PyData.canLayAll0], by simp [PyData.depth, PyData.depthAll], by simp [PyData.eqv, PyData.eqvAll]⟩
/-- a draw's test in a comprehension: the source alone turns -/
def TakeEnd (h₀ : Heap) (L : Addr) (m : Str → Option Value) (s₁ : Shared) (led : List (Addr × Obj)) (g : Obj → List (Addr × Obj)) (n : Nat) (_ok : Bool) (s' : Shared) : Prop :=
  ∃ x tx y ty h' tk', 0 ≤ x ∧ 0 ≤ y ∧ s' = { s₁ with heap := h', toks := tk' } ∧ Fr h₀ L h' m ∧ News h₀ L h' (led ++ g (listOf #[.int x tx, .int y ty] n))
theorem TakeEnd.intro {s₁ : Shared} {led news : List (Addr × Obj)} {g : Obj → List (Addr × Obj)} {ok : Bool} {x y : Int} {tx ty : Tok} {h' : Heap} {tk' : Nat} (hx : 0 ≤ x) (hy : 0 ≤ y) (F : Fr h₀ L h' m) (N : News h₀ L h' news) (e : news = led ++ g (listOf #[.int x tx, .int y ty] n)) :
    TakeEnd h₀ L m s₁ led g n ok { s₁ with heap := h', toks := tk' } := ⟨x, tx, y, ty, h', tk', hx, hy, rfl, F, e ▸ N⟩
open LCg LCt in
theorem rest_take {env : Env} {ct : PySem.Expr} {xv : Str} {px : Pos} {scope : Scope} {cl : List (Str × Addr)} {ax src : Addr} {o₀ : Obj} {Fin : List Value → List (Addr × Obj) → Prop} {vs : List Value} {ks : List Int} (hi : IntsAre vs ks) (U : UpdF src o₀ news g) (hax : (ax, listOf vs.toArray k) ∈ news) (hne : ax ≠ src)
    {x₀ y₀ : Int} {tx₀ ty₀ : Tok} (e₀ : o₀ = listOf #[.int x₀ tx₀, .int y₀ ty₀] n) (hx₀ : 0 ≤ x₀) (hy₀ : 0 ≤ y₀)
    (turn : ∀ i t I oI C oC D ys x tx y ty m₂ h tk (E' : Value → Shared → Prop), 0 ≤ x → 0 ≤ y → NsObj oC m₂ → m₂ xv = some (.int i t) → Fr h₀ L h m → News h₀ L h ((I, oI) :: (C, oC) :: (D, lst ys) :: g (listOf #[.int x tx, .int y ty] n)) → Off I (g (listOf #[.int x tx, .int y ty] n)) → Off C (g (listOf #[.int x tx, .int y ty] n)) → Off D (g (listOf #[.int x tx, .int y ty] n)) → ((@Ne Nat I C) ∧ (@Ne Nat I D) ∧ (@Ne Nat C D)) →
      wpAny (model prog w) A (isTrue ct (compEnvC scope cl C env) (eval ct (compEnvC scope cl C env))) (TakeEnd h₀ L m { s with heap := h, toks := tk } [(I, oI), (C, oC), (D, lst ys)] g n) E' { s with heap := h, toks := tk })
    (fin : ∀ ys us x tx y ty, IntsAre ys us → us.length ≤ ks.length → 0 ≤ x → 0 ≤ y → Fin ys (g (listOf #[.int x tx, .int y ty] n)))
    (hk : ∀ C, (compEnvC scope cl C env).scope.kind = .function := by intro _; rfl) (hl : ∀ C, (compEnvC scope cl C env).kindOf xv = some .local := by intro _; rfl) (hd : (xv == ("__debug__" : Str)) = false := by decide) :
    CompRestT prog w A h₀ L m env ct (.Name xv px) xv scope cl s (SrcAt h₀ ax vs.toArray) (fun i v => vs.toArray[i]? = some v) Fin vs.toArray.size 0 [] news := by
  subst e₀
  obtain ⟨pre, post, e1, e2, h1, h2⟩ := U.split
  have enews : news = g (listOf #[.int x₀ tx₀, .int y₀ ty₀] n) := by rw [e1, e2]
  have hag : ∀ o, (ax, listOf vs.toArray k) ∈ g o := fun o => by
    rw [e1] at hax
    rw [e2]
    rcases List.mem_append.mp hax with h | h
    · exact List.mem_append_left _ h
    · rcases List.mem_cons.mp h with h | h
      · exact (hne (congrArg Prod.fst h)).elim
      · exact List.mem_append_right _ (.tail _ h)
  have hoff : ∀ {I C D o o'}, Off3 I C D (g o) → Off3 I C D (g o') := fun {I C D o o'} h => Off3.of fun p hp => by
    rw [e2] at hp
    have hm := Off3.mem h
    rw [e2] at hm
    rcases List.mem_append.mp hp with hp | hp
    · exact hm p (List.mem_append_left _ hp)
    · rcases List.mem_cons.mp hp with rfl | hp
      · exact hm (src, o) (List.mem_append_right _ (.head _))
      · exact hm p (List.mem_append_right _ (.tail _ hp))
  have main : ∀ (us : List Value) (pre : List Value) (js : List Int) (ys : List Value) (zs : List Int) (x y : Int) (tx ty : Tok), IntsAre us js → vs = pre ++ us → IntsAre ys zs → zs.length ≤ pre.length → 0 ≤ x → 0 ≤ y →
      CompRestT prog w A h₀ L m env ct (.Name xv px) xv scope cl s (SrcAt h₀ ax vs.toArray) (fun i v => vs.toArray[i]? = some v) Fin us.length pre.length ys (g (listOf #[.int x tx, .int y ty] n)) := by
    intro us
    induction us with
    | nil =>
      intro pre js ys zs x y tx ty hu e hy hz h3 h4
      refine fin ys zs x tx y ty hy ?_ h3 h4
      rw [← hi.length, e, List.append_nil]
      exact hz
    | cons v us ih =>
      intro pre js ys zs x y tx ty hu e hy hz h3 h4
      cases hu with
      | cons i t hr =>
      intro v' I oI C oC D m₂ h tk E' hv hC hx F N off ne
      have hv' : v' = .int i t := by
        have : vs.toArray[pre.length]? = some (.int i t) := by rw [e]; simp
        rw [this] at hv
        exact (Option.some.inj hv).symm
      subst hv'
      have om := Off3.mem off
      refine wpAny_mono (turn i t I oI C oC D ys x tx y ty m₂ h tk E' h3 h4 hC hx F N (fun p hp => (om p hp).1) (fun p hp => (om p hp).2.1) (fun p hp => (om p hp).2.2) ne) ?_ fun _ _ e => e
      rintro ok s' ⟨x', tx', y', ty', h', tk', h3', h4', rfl, F', N'⟩
      cases ok with
      | true =>
        rw [if_pos rfl]
        have nxt := ih (pre ++ [.int i t]) _ (ys ++ [.int i t]) (zs ++ [i]) x' y' tx' ty' hr (by rw [e, List.append_assoc]; rfl) (IntsAre.append hy (.cons _ _ .nil)) (by rw [List.length_append, List.length_append]; exact Nat.succ_le_succ hz) h3' h4'
        rw [List.length_append, List.length_singleton] at nxt
        refine LCgL.ld_own (s := { s with heap := h', toks := tk' }) N' (.tail _ (.head _)) hC hx ?_ (hk C) (hl C) hd
        exact CompEnd.intro F' N' _ (fun _ h => h) (hoff off) (.inr ⟨_, hag _, rfl, _, rfl⟩) nxt
      | false =>
        rw [if_neg Bool.false_ne_true]
        have nxt := ih (pre ++ [.int i t]) _ ys zs x' y' tx' ty' hr (by rw [e, List.append_assoc]; rfl) hy (by rw [List.length_append]; exact Nat.le_succ_of_le hz) h3' h4'
        rw [List.length_append, List.length_singleton] at nxt
        exact CompEnd.intro F' N' _ (fun _ h => h) (hoff off) (.inr ⟨_, hag _, rfl, _, rfl⟩) nxt
  have := main vs [] ks [] [] x₀ y₀ tx₀ ty₀ hi rfl .nil (Nat.le_refl _) hx₀ hy₀
  rwa [List.length_nil, ← enews] at this
end
end
set_option genInjectivity false
set_option genSizeOf false
section
theorem Spec.conv {k : Nat} {w : World} {f : Addr} {vs : List Value} {news news2 : List (Addr × Obj)} {Post Post2 : Value → List (Addr × Obj) → Prop} (S : Spec k w f vs news Post) (h1 : ∀ q ∈ news, q ∈ news2)
    (h2 : ∀ r nx, Post r nx → ∃ nx2, (∀ q ∈ nx2, q ∈ nx) ∧ Post2 r nx2) : Spec k w f vs news2 Post2 := by
  intro dp un gd cn cs a ccd cl outer A₀ base h₀ L m p loose mean mg mb s Q E B F X N T hk hd hu hret
  refine S.use B F X N h1 T hk hd hu fun r nx h' tk' hp F' N' => ?_
  obtain ⟨nx2, hs, hp2⟩ := h2 r nx hp
  exact hret r nx2 h' tk' hp2 F' fun q hq => N' q (hs q hq)
/-- what of a cell stays as it is -/
structure GD where
  c : PC
  (rows seen src lim : Addr)
  (oR oW oS : Obj)
  (ts2 th2 : Tok)
  (pa wa ra : Int → Addr)
/-- what of a cell turns -/
structure GS where
  C : Addr
  PB : Int → PBlk
  RB : Int → RBlk
  (cs ss : List Value)
  (nc ns : Nat)
  (x y : Int)
  (tx ty : Tok)
  nx : Nat
  tl : List (Addr × Obj)
  (cP cS : List (Int × Bool))
@[reducible] def gH5 (d : GD) (C : Addr) (cs : List Value) (nc : Nat) : List (Addr × Obj) :=
  [(d.c.P, instObj 187 d.c.dP), (d.c.dP, d.c.d C), (d.c.R, d.oR), (d.c.W, d.oW), (C, listOf cs.toArray nc)]
@[reducible] def gH4 (d : GD) (g : GS) : List (Addr × Obj) :=
  [(d.rows, d.oS), (d.seen, listOf g.ss.toArray g.ns), (d.src, listOf #[.int g.x g.tx, .int g.y g.ty] g.nx), (d.lim, { cls := .type "tuple", data := .seq #[d.c.mv, .int d.c.span d.ts2, .int d.c.hold d.th2] })]
@[reducible] def gA (d : GD) (g : GS) : List (Addr × Obj) := gH5 d g.C g.cs g.nc ++ (gH4 d g ++ (led3b PBlk.led g.PB ++ (led3b goLb g.RB ++ g.tl)))
structure Good (w : World) (d : GD) (g : GS) (rest : List (Addr × Obj)) (KP KR : Nat) : Prop where
  sep : Sep (gA d g) rest
  okP : ∀ n, In3 n → (g.PB n).Ok KP
  okR : ∀ n, In3 n → (g.RB n).Ok w KR
  adP : ∀ n, In3 n → (g.PB n).p = d.pa n ∧ (g.PB n).w0 = d.wa n
  adR : ∀ n, In3 n → (g.RB n).r = d.ra n
  tP : TupsAre g.tl g.cs g.cP
  tS : TupsAre g.tl g.ss g.cS
  lP : g.cP.length ≤ 3 * KP
  lS : g.cS.length ≤ 3 * KR
  x0 : 0 ≤ g.x
  y0 : 0 ≤ g.y
structure DOk (w : World) (d : GD) (most : Option Int) : Prop where
  hR : IntD w d.oR [(3, .ref (d.pa 3)), (1, .ref (d.pa 1)), (2, .ref (d.pa 2))]
  hW : IntD w d.oW [(3, .ref (d.wa 3)), (1, .ref (d.wa 1)), (2, .ref (d.wa 2))]
  hS : IntD w d.oS [(1, .ref (d.ra 1)), (2, .ref (d.ra 2)), (3, .ref (d.ra 3))]
  hm : HeldV d.c.mv most
  hRn : (d.c.R == sysModules) = false
theorem RBlk.Ok.up {w : World} {K K' : Nat} {b : RBlk} (h : b.Ok w K) (hk : K ≤ K') : b.Ok w K' := ⟨h.row, h.itsI, Nat.le_trans h.len hk⟩
theorem PBlk.Ok.up {K K' : Nat} {b : PBlk} (h : b.Ok K) (hk : K ≤ K') : b.Ok K' := ⟨h.held, h.itsI, Nat.le_trans h.len hk⟩
theorem val3 {f : Int → Addr} {n : Int} (h : In3 n) : valueAt [(3, Value.ref (f 3)), (1, .ref (f 1)), (2, .ref (f 2))] n = some (.ref (f n)) := by
  rcases h with rfl | rfl | rfl <;> rfl
theorem val3r {f : Int → Addr} {n : Int} (h : In3 n) : valueAt [(1, Value.ref (f 1)), (2, .ref (f 2)), (3, .ref (f 3))] n = some (.ref (f n)) := by
  rcases h with rfl | rfl | rfl <;> rfl

section
variable {w : World} {d : GD} {g : GS} {rest : List (Addr × Obj)} {KP KR : Nat} {most : Option Int} {n now : Int} {tn ts th tnw : Tok}
/-- all but a row -/
def zR (d : GD) (g : GS) (n : Int) : List (Addr × Obj) := gH5 d g.C g.cs g.nc ++ (gH4 d g ++ (led3b PBlk.led g.PB ++ (oR g.RB n ++ g.tl)))
theorem permR2 {B : Int → RBlk} {b : RBlk} (h : (led3b goLb B).Perm (b.led ++ oR g.RB n)) : (gA d { g with RB := B }).Perm (b.led ++ zR d g n) := by
  refine List.Perm.trans (List.Perm.append_left _ (List.Perm.append_left _ (List.Perm.append_left _ (h.append_right g.tl)))) ?_
  rw [List.append_assoc]
  exact ((List.Perm.append_left _ ((List.Perm.append_left _ (List.perm_append_comm_assoc _ _ _)).trans (List.perm_append_comm_assoc _ _ _)))).trans (List.perm_append_comm_assoc _ _ _)
theorem perm_sub {f f' R : List (Addr × Obj)} (p : f.Perm f') : ∀ q ∈ f' ++ R, q ∈ f ++ R := fun _ hq => ((p.append_right R).mem_iff).mpr hq
theorem In3.upd {P : RBlk → Prop} {B : Int → RBlk} {b : RBlk} (h : ∀ k, In3 k → P (B k)) (hb : P b) : ∀ k, In3 k → P (Mine.upd B n b k) := fun k hk => by
  by_cases e : k = n
  · subst e; rw [upd_same]; exact hb
  · rw [upd_other B b e]; exact h k hk
/-- a row turned -/
theorem Good.row {KR' : Nat} {b : RBlk} (G : Good w d g rest KP KR) (hn : In3 n) (hk : KR ≤ KR') (hb : b.Ok w KR') (hr : b.r = (g.RB n).r) (ht : b.t = (g.RB n).t ∨ Off b.t ((g.RB n).led ++ (zR d g n ++ rest))) :
    Good w d { g with RB := upd g.RB n b } rest KP KR' := by
  have S := G.sep.perm (permR2 (permR hn))
  obtain ⟨q1, S1⟩ := sep_c S
  obtain ⟨q2, S2⟩ := sep_c S1
  refine ⟨Sep.perm ?_ (permR2 (permR' hn)).symm, G.okP, In3.upd (fun k hk' => (G.okR k hk').up hk) hb, G.adP, ?_, G.tP, G.tS, G.lP, Nat.le_trans G.lS (Nat.mul_le_mul_left 3 hk), G.x0, G.y0⟩
  · have q3 := off_cons.mp q1
    have h2 : Off b.t (zR d g n ++ rest) ∧ b.t ≠ (g.RB n).r := by
      rcases ht with ht | ht
      · rw [ht]; exact ⟨q2, q3.1⟩
      · exact ⟨(off_cons.mp (off_cons.mp ht).2).2, (off_cons.mp ht).1.symm⟩
    exact sep_mk (f := (b.t, _) :: zR d g n) (by rw [hr]; exact off_cons.mpr ⟨h2.2, q3.2⟩) (sep_mk h2.1 S2)
  · intro k hk
    by_cases e : k = n
    · subst e; show (upd g.RB k b k).r = _; rw [upd_same, hr]; exact G.adR k hk
    · show (upd g.RB n b k).r = _; rw [upd_other g.RB b e]; exact G.adR k hk
def onR (g : GS) (n : Int) (y : Row) (B : Int → RBlk) : Prop := ∀ k, (B k).y = if k = n then y else (g.RB k).y
theorem onR_upd {b : RBlk} : onR g n b.y (upd g.RB n b) := fun k => by
  by_cases e : k = n
  · subst e; rw [upd_same, if_pos rfl]
  · rw [upd_other g.RB b e, if_neg e]
theorem lup_g (D : DOk w d most) (G : Good w d g rest KP KR) (hn : In3 n) (hK : KR < 900) :
    Spec 1 w 229 [.ref (d.ra n), .int now tn, d.c.mv, .int d.c.span ts, .int d.c.hold th] (gA d g ++ rest)
      (fun r nx => ∃ g' k tk, r = .str k.str tk ∧ nx = gA d g' ++ rest ∧ Good w d g' rest KP (KR + 1) ∧ g'.PB = g.PB ∧ g'.cP = g.cP ∧ g'.cS = g.cS ∧ k = (rowUp now most d.c.span d.c.hold (g.RB n).y).2 ∧ onR g n (rowUp now most d.c.span d.c.hold (g.RB n).y).1 g'.RB) := by
  have S := G.sep.perm (permR2 (permR hn))
  obtain ⟨q1, S1⟩ := sep_c S
  obtain ⟨q2, S2⟩ := sep_c S1
  rw [← G.adR n hn]
  refine (lup_spec w (g.RB n) d.c.mv now d.c.span d.c.hold most tn ts th KR (zR d g n ++ rest) (off_cons.mp q1).2 q2 (off_cons.mp q1).1 (G.okR n hn) (by omega) D.hm).conv (perm_sub (permR2 (permR hn))) ?_
  rintro r nx ⟨b', k, tk, e, rfl, ok, hr, ht, rfl⟩
  exact ⟨gA d { g with RB := upd g.RB n b' } ++ rest, perm_sub (permR2 (permR' hn)).symm, { g with RB := upd g.RB n b' }, k, tk, rfl, rfl, G.row hn (Nat.le_succ _) ok hr ht, rfl, rfl, rfl, by rw [e], by rw [e]; exact onR_upd⟩
theorem ldown_g (G : Good w d g rest KP KR) (hn : In3 n) :
    Spec 1 w 236 [.ref (d.ra n)] (gA d g ++ rest)
      (fun r nx => ∃ g' k tk, r = .str k.str tk ∧ nx = gA d g' ++ rest ∧ Good w d g' rest KP (KR + 1) ∧ g'.PB = g.PB ∧ g'.cP = g.cP ∧ g'.cS = g.cS ∧ k = (rowDown (g.RB n).y).2 ∧ onR g n (rowDown (g.RB n).y).1 g'.RB) := by
  have S := G.sep.perm (permR2 (permR hn))
  obtain ⟨q1, S1⟩ := sep_c S
  have ok := G.okR n hn
  rw [← G.adR n hn]
  refine (ldown_spec w (g.RB n).r (g.RB n).t (g.RB n).y (g.RB n).o (g.RB n).hv (((g.RB n).t, listOf (g.RB n).ts.toArray (g.RB n).nt) :: (zR d g n ++ rest)) q1 ok.row).conv (perm_sub (permR2 (permR hn))) ?_
  rintro r nx ⟨o', tk, rfl, ho, rfl⟩
  let b' : RBlk := ⟨(g.RB n).r, (g.RB n).t, o', (g.RB n).hv, (g.RB n).ts, (g.RB n).nt, (rowDown (g.RB n).y).1⟩
  exact ⟨gA d { g with RB := upd g.RB n b' } ++ rest, perm_sub (permR2 (b := b') (permR' hn)).symm, { g with RB := upd g.RB n b' }, _, tk, rfl, rfl, G.row hn (Nat.le_succ _) ⟨ho, ok.itsI, Nat.le_succ_of_le ok.len⟩ rfl (.inl rfl), rfl, rfl, rfl, rfl, onR_upd (b := b')⟩
end
end
section
section
variable {w : World} {d : GD} {g : GS} {rest : List (Addr × Obj)} {KP KR : Nat} {most : Option Int} {n now : Int} {tn ts th tnw : Tok}
/-- all but the Ports and a port -/
def zP (d : GD) (g : GS) (n : Int) : List (Addr × Obj) := gH4 d g ++ (oP g.PB n ++ (led3b goLb g.RB ++ g.tl))
@[reducible] def GS.port (g : GS) (B : Int → PBlk) (cs : List Value) (nc : Nat) (t : List (Addr × Obj)) (cP : List (Int × Bool)) : GS := { g with PB := B, cs := cs, nc := nc, tl := t ++ g.tl, cP := g.cP ++ cP }
theorem permP2 {B : Int → PBlk} {b : PBlk} {cs : List Value} {nc : Nat} (t : List (Addr × Obj)) {cP : List (Int × Bool)} (h : (led3b PBlk.led B).Perm (b.led n ++ oP g.PB n)) :
    (gA d (g.port B cs nc t cP)).Perm (pupLed d.c g.C n b d.oR d.oW cs nc (t ++ zP d g n)) := by
  refine List.Perm.append_left (gH5 d g.C cs nc) (t₂ := b.led n ++ (t ++ zP d g n)) ?_
  have h1 : (led3b PBlk.led B ++ (led3b goLb g.RB ++ (t ++ g.tl))).Perm (b.led n ++ (t ++ (oP g.PB n ++ (led3b goLb g.RB ++ g.tl)))) := by
    refine (h.append (List.perm_append_comm_assoc _ _ _)).trans ?_
    rw [List.append_assoc]
    exact List.Perm.append_left _ (List.perm_append_comm_assoc _ _ _)
  exact ((List.Perm.append_left _ h1).trans (List.perm_append_comm_assoc _ _ _)).trans (List.Perm.append_left _ (List.perm_append_comm_assoc _ _ _))
theorem permP0 : (hn : In3 n) → (gA d g).Perm (pupLed d.c g.C n (g.PB n) d.oR d.oW g.cs g.nc (zP d g n)) := fun hn => permP2 (g := g) (d := d) (cs := g.cs) (nc := g.nc) [] (cP := []) (permP hn)
theorem pup_sep {c : PC} {C : Addr} {b b' : PBlk} {oR oW : Obj} {cs cs' : List Value} {nc nc' : Nat} {Z R : List (Addr × Obj)} (S : Sep (pupLed c C n b oR oW cs nc Z) R) (ha : b'.p = b.p ∧ b'.dp = b.dp ∧ b'.w0 = b.w0 ∧ b'.dw = b.dw) (hu : b'.u = b.u ∨ Off b'.u (pupLed c C n b oR oW cs nc (Z ++ R))) :
    Sep (pupLed c C n b' oR oW cs' nc' Z) R := by
  obtain ⟨e1, e2, e3, e4⟩ := ha
  have e : ∀ u, u = b'.u → (pupLed c C n b' oR oW cs' nc' Z).map (·.1) = c.P :: c.dP :: c.R :: c.W :: C :: b.p :: b.dp :: b.w0 :: b.dw :: u :: Z.map (·.1) := fun u hu => by
    show _ :: _ :: _ :: _ :: _ :: b'.p :: b'.dp :: b'.w0 :: b'.dw :: b'.u :: _ = _
    rw [e1, e2, e3, e4, hu]
  rcases hu with hu | hu
  · exact sep_addr S (e _ hu.symm)
  · have := sep_swap (o := listOf b'.vs.toArray b'.nu) (f := [(c.P, instObj 187 c.dP), (c.dP, c.d C), (c.R, oR), (c.W, oW), (C, listOf cs.toArray nc), (b.p, instObj 76 b.dp), (b.dp, portD b.kp n b.tn b.spd b.x.up b.fv b.mtu), (b.w0, instObj 109 b.dw), (b.dw, watchD b.kw b.u b.hv b.x.there)]) (g := Z) S (a := b'.u) (by
      simp only [List.cons_append, List.nil_append, pupLed, off_cons] at hu ⊢
      obtain ⟨h1, h2, h3, h4, h5, h6, h7, h8, h9, h10, h11⟩ := hu
      exact ⟨h1, h2, h3, h4, h5, h6, h7, h8, h9, h11⟩)
    exact sep_addr this (e _ rfl)
/-- a port turned -/
theorem Good.port {KP' : Nat} {b : PBlk} {f bb : Bool} {cs : List Value} {nc : Nat} {t : List (Addr × Obj)} (G : Good w d g rest KP KR) (hn : In3 n) (hk : KP + 1 ≤ KP') (hb : b.Ok KP') (ha : b.p = (g.PB n).p ∧ b.dp = (g.PB n).dp ∧ b.w0 = (g.PB n).w0 ∧ b.dw = (g.PB n).dw)
    (hu : b.u = (g.PB n).u ∨ Off b.u (pupLed d.c g.C n (g.PB n) d.oR d.oW g.cs g.nc (zP d g n ++ rest))) (ht : Added n bb (pupLed d.c g.C n (g.PB n) d.oR d.oW g.cs g.nc (zP d g n ++ rest)) b.u g.cs f cs t) :
    Good w d (g.port (upd g.PB n b) cs nc t (if f then [(n, bb)] else [])) rest KP' KR := by
  have S := G.sep.perm (permP0 hn)
  obtain ⟨e1, e2, e3, e4⟩ := ha
  have S1 := pup_sep (cs' := cs) (nc' := nc) (Z := zP d g n) S ⟨e1, e2, e3, e4⟩ hu
  have S2 : Sep (pupLed d.c g.C n b d.oR d.oW cs nc (t ++ zP d g n)) rest := by
    cases ht with
    | no => exact S1
    | yes a tk h1 h2 =>
      refine sep_ins (f := pupLed d.c g.C n b d.oR d.oW _ nc []) (g := zP d g n) S1 ?_
      simp only [List.cons_append, List.nil_append, pupLed, off_cons] at h1 ⊢
      obtain ⟨q1, q2, q3, q4, q5, q6, q7, q8, q9, _, q11⟩ := h1
      rw [e1, e2, e3, e4]
      exact ⟨q1, q2, q3, q4, q5, q6, q7, q8, q9, h2, q11⟩
  have T : ∃ us, cs = g.cs ++ us ∧ TupsAre t us (if f then [(n, bb)] else []) := by
    cases ht with
    | no => exact ⟨[], (List.append_nil _).symm, .nil⟩
    | yes a tk _ _ => exact ⟨[_], rfl, .cons (.head _) .nil⟩
  obtain ⟨us, rfl, T⟩ := T
  refine ⟨S2.perm (permP2 t (permP' hn)).symm, ?_, G.okR, ?_, G.adR, (G.tP.mono fun q hq => List.mem_append_right _ hq).append (T.mono fun q hq => List.mem_append_left _ hq), G.tS.mono fun q hq => List.mem_append_right _ hq, ?_, G.lS, G.x0, G.y0⟩
  · intro k hk'
    by_cases e : k = n
    · subst e; show (upd g.PB k b k).Ok _; rw [upd_same]; exact hb
    · show (upd g.PB n b k).Ok _; rw [upd_other g.PB b e]; exact (G.okP k hk').up (by omega)
  · intro k hk
    by_cases e : k = n
    · subst e; show (upd g.PB k b k).p = _ ∧ (upd g.PB k b k).w0 = _; rw [upd_same, e1, e3]; exact G.adP k hk
    · show (upd g.PB n b k).p = _ ∧ (upd g.PB n b k).w0 = _; rw [upd_other g.PB b e]; exact G.adP k hk
  · have h1 := G.lP
    show (g.cP ++ _).length ≤ _
    rw [List.length_append]
    cases f
    · show g.cP.length + 0 ≤ _; omega
    · show g.cP.length + 1 ≤ _; omega
def onP (g : GS) (n : Int) (x : PW) (B : Int → PBlk) : Prop := ∀ k, (B k).x = if k = n then x else (g.PB k).x
theorem onP_upd {b : PBlk} : onP g n b.x (upd g.PB n b) := fun k => by
  by_cases e : k = n
  · subst e; rw [upd_same, if_pos rfl]
  · rw [upd_other g.PB b e, if_neg e]
theorem Good.cl (G : Good w d g rest KP KR) (hK : KP < 300) : g.cs.length < 990 := by rw [G.tP.length]; have := G.lP; omega
theorem pup_g (D : DOk w d most) (G : Good w d g rest KP KR) (hn : In3 n) (hK : KP < 300) :
    Spec 3 w 163 [.ref d.c.P, .int n tn, .int now tnw] (gA d g ++ rest)
      (fun r nx => ∃ g' k tk, r = .str k.str tk ∧ k = (prtUp now most d.c.span d.c.hold (g.PB n).x).2 ∧ nx = gA d g' ++ rest ∧ Good w d g' rest (KP + 1) KR ∧ g'.RB = g.RB ∧ g'.cS = g.cS ∧ g'.cP = g.cP ++ (if k.isUp then [(n, true)] else []) ∧ onP g n (prtUp now most d.c.span d.c.hold (g.PB n).x).1 g'.PB) := by
  have hp := G.adP n hn
  refine (pup_spec w d.c g.C n now (g.PB n) d.oR d.oW _ _ most tn tnw g.cs g.nc KP (zP d g n ++ rest) ((sep_append (f := pupLed d.c g.C n (g.PB n) d.oR d.oW g.cs g.nc [])).mp (G.sep.perm (permP0 hn))).1 D.hm (G.okP n hn) (by omega) (Nat.lt_trans (G.cl hK) (by decide))
    D.hR (by rw [hp.1]; exact val3 hn) (by rw [val3 hn]; rfl) D.hRn D.hW (by rw [hp.2]; exact val3 hn)).conv (perm_sub (permP0 hn)) ?_
  rintro r nx ⟨b', k, cs', nc', t, tk, e, rfl, ok, ha, hu, had, rfl⟩
  refine ⟨gA d (g.port (upd g.PB n b') cs' nc' t (if k.isUp then [(n, true)] else [])) ++ rest, ?_, g.port (upd g.PB n b') cs' nc' t _, k, tk, rfl, by rw [e], rfl, G.port hn (Nat.le_refl _) ok ha hu had, rfl, rfl, rfl, by rw [e]; exact onP_upd⟩
  intro q hq
  have := perm_sub (permP2 t (permP' hn)).symm q hq
  simp only [pupLed, List.cons_append, List.append_assoc] at this ⊢
  exact this
theorem pdown_g (D : DOk w d most) (G : Good w d g rest KP KR) (hn : In3 n) (hK : KP < 300) :
    Spec 3 w 170 [.ref d.c.P, .int n tn] (gA d g ++ rest)
      (fun r nx => ∃ g' k tk, r = .str k.str tk ∧ k = (prtDown (g.PB n).x).2 ∧ nx = gA d g' ++ rest ∧ Good w d g' rest (KP + 1) KR ∧ g'.RB = g.RB ∧ g'.cS = g.cS ∧ g'.cP = g.cP ++ (if k.isDown then [(n, false)] else []) ∧ onP g n (prtDown (g.PB n).x).1 g'.PB) := by
  have hp := G.adP n hn
  have ok := G.okP n hn
  refine (pdown_spec w d.c g.C n (g.PB n) d.oR d.oW _ _ tn g.cs g.nc (zP d g n ++ rest) ((sep_append (f := pupLed d.c g.C n (g.PB n) d.oR d.oW g.cs g.nc [])).mp (G.sep.perm (permP0 hn))).1 (Nat.lt_trans (G.cl hK) (by decide))
    D.hR (by rw [hp.1]; exact val3 hn) (by rw [val3 hn]; rfl) D.hRn D.hW (by rw [hp.2]; exact val3 hn)).conv (perm_sub (permP0 hn)) ?_
  rintro r nx ⟨up, k, cs', nc', t, tk, e, rfl, had, rfl⟩
  let b' : PBlk := { g.PB n with x := ⟨up, false, (g.PB n).x.held, (g.PB n).x.ups⟩ }
  refine ⟨gA d (g.port (upd g.PB n b') cs' nc' t (if k.isDown then [(n, false)] else [])) ++ rest, ?_, g.port (upd g.PB n b') cs' nc' t _, k, tk, rfl, by rw [e], rfl, G.port (b := b') hn (Nat.le_refl _) ⟨ok.held, ok.itsI, Nat.le_succ_of_le ok.len⟩ ⟨rfl, rfl, rfl, rfl⟩ (.inl rfl) had, rfl, rfl, rfl, by rw [e]; exact onP_upd (b := b')⟩
  intro q hq
  have := perm_sub (permP2 (b := b') t (permP' hn)).symm q hq
  simp only [pupLed, List.cons_append, List.append_assoc] at this ⊢
  exact this
end
end
section
section
variable {w : World} {d : GD} {g : GS} {rest : List (Addr × Obj)} {KP KR : Nat} {most : Option Int} {n now : Int} {tn ts th tnw : Tok}
theorem permE {B : Int → PBlk} {cs : List Value} {nc : Nat} (t : List (Addr × Obj)) {cP : List (Int × Bool)} :
    (gA d (g.port B cs nc t cP)).Perm (gH5 d g.C cs nc ++ (t ++ (led3b PBlk.led B ++ (gH4 d g ++ (led3b goLb g.RB ++ g.tl))))) :=
  List.Perm.append_left _ ((List.Perm.append_left _ (List.Perm.append_left _ (List.perm_append_comm_assoc _ _ _))).trans ((List.Perm.append_left _ (List.perm_append_comm_assoc _ _ _)).trans ((List.perm_append_comm_assoc _ _ _).trans (List.Perm.append_left _ (List.perm_append_comm_assoc _ _ _)))))
theorem exp_g (D : DOk w d most) (G : Good w d g rest KP KR) (hK : KP < 300) :
    Spec 3 w 177 [.ref d.c.P, .int now tn] (gA d g ++ rest)
      (fun r nx => ∃ fl vs nf g', r = .ref fl ∧ nx = (fl, listOf vs.toArray nf) :: (gA d g' ++ rest) ∧ Off fl (gA d g' ++ rest) ∧ IntsAre vs (goneG (fun n => (prtGo now (g.PB n).x).2) 3) ∧
        Good w d g' rest (KP + 1) KR ∧ g'.RB = g.RB ∧ g'.cS = g.cS ∧ g'.cP = g.cP ++ (goneG (fun n => (prtGo now (g.PB n).x).2) 3).map (fun n => (n, true)) ∧ ∀ k, In3 k → (g'.PB k).x = (prtGo now (g.PB k).x).1) := by
  have h1 : In3 1 := .inl rfl
  have h2 : In3 2 := .inr (.inl rfl)
  have h3 : In3 3 := .inr (.inr rfl)
  have P0 : (gA d g).Perm ((gH5 d g.C g.cs g.nc ++ led3b PBlk.led g.PB) ++ (gH4 d g ++ (led3b goLb g.RB ++ g.tl))) := by
    rw [List.append_assoc]
    exact List.Perm.append_left _ (List.perm_append_comm_assoc _ _ _)
  obtain ⟨S1, S2⟩ := sep_append.mp (G.sep.perm P0)
  refine (exp_spec w d.c g.C d.oR d.oW [(3, .ref (d.wa 3)), (1, .ref (d.wa 1)), (2, .ref (d.wa 2))] g.PB g.cs g.nc ((gH4 d g ++ (led3b goLb g.RB ++ g.tl)) ++ rest) now tn KP S1 (by omega) (G.cl hK)
    (by rw [(G.adP 3 h3).1, (G.adP 1 h1).1, (G.adP 2 h2).1]; exact D.hR) D.hRn D.hW (fun n hn => by rw [(G.adP n hn).2]; exact val3 hn) G.okP).conv ?_ ?_
  · intro q hq
    refine perm_sub P0 q ?_
    rw [List.append_assoc, List.append_assoc]
    exact hq
  · rintro r nx ⟨fl, rfl, a, B, rfl, S, I⟩
    have S3 := sep_append.mpr ⟨S, S2⟩
    have S4 : Sep ((fl, listOf a.vs.toArray a.n) :: gA d (g.port B a.cs a.nc a.tl ((goneG (fun n => (prtGo now (g.PB n).x).2) 3).map fun n => (n, true)))) rest := by
      refine S3.perm (List.Perm.trans ?_ (List.Perm.cons _ (permE _).symm))
      show ((((_ :: gH5 d g.C a.cs a.nc) ++ a.tl) ++ _) ++ _).Perm _
      rw [List.append_assoc, List.append_assoc]
      exact .refl _
    obtain ⟨o1, S5⟩ := sep_c S4
    refine ⟨_, ?_, fl, a.vs, a.n, g.port B a.cs a.nc a.tl _, rfl, rfl, o1, I.found, ?_, rfl, rfl, rfl, fun k hk => (I.row k hk).trans (if_pos (by rcases hk with rfl | rfl | rfl <;> decide))⟩
    · intro q hq
      rcases List.mem_cons.mp hq with rfl | hq
      · exact .head _
      · have := perm_sub (permE _).symm q hq
        refine .tail _ ?_
        simp only [List.append_assoc] at this ⊢
        exact this
    · obtain ⟨us, e1, T⟩ := I.tups
      refine ⟨S5, fun k hk => ?_, G.okR, fun k hk => ?_, G.adR, ?_, G.tS.mono fun q hq => List.mem_append_right _ hq, ?_, G.lS, G.x0, G.y0⟩
      · have := I.ok k hk
        rwa [if_pos (by rcases hk with rfl | rfl | rfl <;> decide)] at this
      · obtain ⟨e1, e2⟩ := I.same k hk
        show (B k).p = _ ∧ (B k).w0 = _
        rw [e1, e2]
        exact G.adP k hk
      · show TupsAre (a.tl ++ g.tl) a.cs _
        rw [e1]
        exact (G.tP.mono fun q hq => List.mem_append_right _ hq).append (T.mono fun q hq => List.mem_append_left _ hq)
      · show (g.cP ++ _).length ≤ _
        rw [List.length_append, List.length_map]
        have := G.lP
        have := goneG_len (fun n => (prtGo now (g.PB n).x).2) 3
        omega
@[reducible] def gH3 (d : GD) (g : GS) : List (Addr × Obj) :=
  [(d.seen, listOf g.ss.toArray g.ns), (d.src, listOf #[.int g.x g.tx, .int g.y g.ty] g.nx), (d.lim, { cls := .type "tuple", data := .seq #[d.c.mv, .int d.c.span d.ts2, .int d.c.hold d.th2] })]
theorem permL {B : Int → RBlk} : (gA d { g with RB := B }).Perm (((d.rows, d.oS) :: led3b goLb B) ++ (gH5 d g.C g.cs g.nc ++ (gH3 d g ++ (led3b PBlk.led g.PB ++ g.tl)))) := by
  refine (List.perm_append_comm_assoc _ _ _).trans ?_
  refine List.Perm.cons _ ?_
  show (gH3 d g ++ (gH5 d g.C g.cs g.nc ++ (led3b PBlk.led g.PB ++ (led3b goLb B ++ g.tl)))).Perm (led3b goLb B ++ (gH5 d g.C g.cs g.nc ++ (gH3 d g ++ (led3b PBlk.led g.PB ++ g.tl))))
  refine (List.perm_append_comm_assoc _ _ _).trans ?_
  exact ((List.Perm.append_left _ ((List.Perm.append_left _ (List.perm_append_comm_assoc _ _ _)).trans (List.perm_append_comm_assoc _ _ _))).trans (List.perm_append_comm_assoc _ _ _))
theorem lgo_g (D : DOk w d most) (G : Good w d g rest KP KR) (hK : KR < 900) :
    Spec 1 w 243 [.ref d.rows, .int now tn] (gA d g ++ rest)
      (fun r nx => ∃ fl vs nf g', r = .ref fl ∧ nx = (fl, listOf vs.toArray nf) :: (gA d g' ++ rest) ∧ Off fl (gA d g' ++ rest) ∧ IntsAre vs (goneG (fun n => (goRow now (g.RB n).y).2) 3) ∧
        Good w d g' rest KP (KR + 1) ∧ g'.PB = g.PB ∧ g'.cP = g.cP ∧ g'.cS = g.cS ∧ ∀ k, In3 k → (g'.RB k).y = (goRow now (g.RB k).y).1) := by
  have P0 : (gA d g).Perm (((d.rows, d.oS) :: led3b goLb g.RB) ++ (gH5 d g.C g.cs g.nc ++ (gH3 d g ++ (led3b PBlk.led g.PB ++ g.tl)))) := permL (g := g)
  obtain ⟨S1, S2⟩ := sep_append.mp (G.sep.perm P0)
  refine (lgo_spec w d.rows d.oS _ g.RB ((gH5 d g.C g.cs g.nc ++ (gH3 d g ++ (led3b PBlk.led g.PB ++ g.tl))) ++ rest) now tn KR S1 (by omega) D.hS (fun n hn => by rw [G.adR n hn]; exact val3r hn) G.okR).conv ?_ ?_
  · intro q hq
    refine perm_sub P0 q ?_
    rw [List.append_assoc]
    exact hq
  · rintro r nx ⟨fl, a, B, rfl, rfl, S, I⟩
    have S3 := sep_append.mpr ⟨S, S2⟩
    have S4 : Sep ((fl, listOf a.vs.toArray a.n) :: gA d { g with RB := B }) rest := S3.perm (List.Perm.cons _ permL.symm)
    obtain ⟨o1, S5⟩ := sep_c S4
    refine ⟨_, ?_, fl, a.vs, a.n, { g with RB := B }, rfl, rfl, o1, I.found, ?_, rfl, rfl, rfl, fun k hk => (I.row k hk).trans (if_pos (by rcases hk with rfl | rfl | rfl <;> decide))⟩
    · intro q hq
      rcases List.mem_cons.mp hq with rfl | hq
      · exact .head _
      · have := perm_sub permL.symm q hq
        refine .tail _ ?_
        rw [List.append_assoc] at this
        exact this
    · refine ⟨S5, G.okP, fun k hk => ?_, G.adP, fun k hk => ?_, G.tP, G.tS, G.lP, Nat.le_trans G.lS (by omega), G.x0, G.y0⟩
      · have := I.ok k hk
        rwa [if_pos (by rcases hk with rfl | rfl | rfl <;> decide)] at this
      · show (B k).r = _
        rw [I.same k hk]
        exact G.adR k hk
theorem chg_g (G : Good w d g rest KP KR) :
    Spec 1 w 184 [.ref d.c.P] (gA d g ++ rest)
      (fun r nx => r = .ref g.C ∧ ∃ g', nx = (g.C, listOf g.cs.toArray g.nc) :: (gA d g' ++ rest) ∧ Off g.C (gA d g' ++ rest) ∧ Good w d g' rest KP KR ∧ g'.PB = g.PB ∧ g'.RB = g.RB ∧ g'.cP = [] ∧ g'.cS = g.cS ∧ g'.ss = g.ss ∧ g'.tl = g.tl) := by
  obtain ⟨q1, S1⟩ := sep_c G.sep
  obtain ⟨q2, S2⟩ := sep_c S1
  obtain ⟨q3, S3⟩ := sep_c S2
  obtain ⟨q4, S4⟩ := sep_c S3
  obtain ⟨q5, S5⟩ := sep_c S4
  have b1 := off_cons.mp q1
  have b2 := off_cons.mp q2
  have b3 := off_cons.mp b2.2
  have b4 := off_cons.mp q3
  have c2 := off_cons.mp b1.2
  have c3 := off_cons.mp c2.2
  have c4 := off_cons.mp c3.2
  have d4 := off_cons.mp b3.2
  have d5 := off_cons.mp b4.2
  have d6 := off_cons.mp q4
  refine (chg_spec w d.c g.C g.cs g.nc ((d.c.R, d.oR) :: (d.c.W, d.oW) :: ((gH4 d g ++ (led3b PBlk.led g.PB ++ (led3b goLb g.RB ++ g.tl))) ++ rest)) (Ne.symm b1.1) (off_cons.mpr ⟨d4.1, off_cons.mpr ⟨b2.1, off_cons.mpr ⟨b3.1, d4.2⟩⟩⟩)).conv ?_ ?_
  · exact sub_cons (.head _) (sub_cons (.tail _ (.head _)) (sub_cons mm4 (sub_cons mm2 (sub_cons mm3 fun q hq => md5 hq))))
  · rintro r nx ⟨rfl, C', n', ho, rfl⟩
    obtain ⟨h1, h2⟩ := off_cons.mp ho
    obtain ⟨h2, h3⟩ := off_cons.mp h2
    obtain ⟨h3, h4⟩ := off_cons.mp h3
    obtain ⟨h4, h5⟩ := off_cons.mp h4
    obtain ⟨h5, h6⟩ := off_cons.mp h5
    refine ⟨_, ?_, rfl, { g with C := C', cs := [], nc := n', cP := [] }, rfl, ?_, ⟨?_, G.okP, G.okR, G.adP, G.adR, .nil, G.tS, Nat.zero_le _, G.lS, G.x0, G.y0⟩, rfl, rfl, rfl, rfl, rfl, rfl⟩
    · exact sub_cons mm3 (sub_cons mm0 (sub_cons mm1 (sub_cons mm4 (sub_cons mm5 (sub_cons mm2 fun q hq => md6 hq)))))
    · exact off_cons.mpr ⟨c4.1.symm, off_cons.mpr ⟨d4.1.symm, off_cons.mpr ⟨d5.1.symm, off_cons.mpr ⟨d6.1.symm, off_cons.mpr ⟨Ne.symm h3, q5⟩⟩⟩⟩⟩
    · exact sep_mk (off_cons.mpr ⟨b1.1, off_cons.mpr ⟨c2.1, off_cons.mpr ⟨c3.1, off_cons.mpr ⟨Ne.symm h1, c4.2⟩⟩⟩⟩) (sep_mk (off_cons.mpr ⟨b2.1, off_cons.mpr ⟨b3.1, off_cons.mpr ⟨Ne.symm h2, d4.2⟩⟩⟩)
        (sep_mk (off_cons.mpr ⟨b4.1, off_cons.mpr ⟨Ne.symm h4, d5.2⟩⟩) (sep_mk (off_cons.mpr ⟨Ne.symm h5, d6.2⟩) (sep_mk h6 S5))))
theorem permT {a b c e t z : List (Addr × Obj)} : (a ++ (b ++ (c ++ (e ++ (t ++ z))))).Perm (t ++ (a ++ (b ++ (c ++ (e ++ z))))) :=
  (List.Perm.append_left _ ((List.Perm.append_left _ ((List.Perm.append_left _ (List.perm_append_comm_assoc _ _ _)).trans (List.perm_append_comm_assoc _ _ _))).trans (List.perm_append_comm_assoc _ _ _))).trans (List.perm_append_comm_assoc _ _ _)
/-- what was seen is written down -/
theorem Good.seen {t : List (Addr × Obj)} {us : List Value} {ps : List (Int × Bool)} {ns KR' : Nat} (G : Good w d g rest KP KR) (hk : KR ≤ KR') (hf : Sep t (gA d g ++ rest)) (T : TupsAre t us ps) (hl : (g.cS ++ ps).length ≤ 3 * KR') :
    Good w d { g with ss := g.ss ++ us, ns := ns, tl := t ++ g.tl, cS := g.cS ++ ps } rest KP KR' := by
  refine ⟨Sep.perm (sep_addr (sep_append.mpr ⟨hf, G.sep⟩) ?_) permT.symm, G.okP, fun k hk' => (G.okR k hk').up hk, G.adP, G.adR, G.tP.mono fun q hq => List.mem_append_right _ hq, (G.tS.mono fun q hq => List.mem_append_right _ hq).append (T.mono fun q hq => List.mem_append_left _ hq), G.lP, hl, G.x0, G.y0⟩
  refine List.map_append.trans (Eq.trans ?_ List.map_append.symm)
  exact rfl
end
end
section
example : True := by
  k_with_none
  k_with "K_ALL" => (first | assumption | exact List.forall_mem_nil _ | (refine' off_as 0 ?h8 ?m8; (case h8 => assumption); (case m8 => k_dflt (exact rfl))) | (refine' lt_as 0 ?h7 ?m7; (case h7 => assumption); (case m7 => k_dflt (exact rfl))) | (refine' off_c ?a9 ?b9; (case a9 => k_ne); (case b9 => k_all)) | (refine' List.forall_mem_cons.mpr ⟨?a, ?b⟩; (case a => k_ne); (case b => k_all)) | (refine' lt_off ?h9 ?m9; (case h9 => assumption); (case m9 => intro q9 hq9; (repeat (first | exact hq9 | refine List.Mem.tail _ ?_)))) | (refine' off_sub ?h9 ?m9; (case h9 => assumption); (case m9 => intro q9 hq9; (repeat (first | exact hq9 | refine List.Mem.tail _ ?_)))))
  k_with "K_NE" => (first | assumption | exact Ne.symm (by assumption) | (refine' lt_ne ?h9 ?m9; (case h9 => assumption); (case m9 => k_mem)) | (refine' lt_ne' ?h9 ?m9; (case h9 => assumption); (case m9 => k_mem)) | (refine' off_ne ?h9 ?m9; (case h9 => assumption); (case m9 => k_mem)) | (refine' off_ne' ?h9 ?m9; (case h9 => assumption); (case m9 => k_mem)) | (refine' lt_ne1 ?h9 ?m9; (case h9 => assumption); (case m9 => k_mem)) | (refine' lt_ne1' ?h9 ?m9; (case h9 => assumption); (case m9 => k_mem)) | (refine' lt_ne2 ?h9 ?m9; (case h9 => assumption); (case m9 => k_mem)) | (refine' lt_ne2' ?h9 ?m9; (case h9 => assumption); (case m9 => k_mem)) | (refine' lt_ne3 ?h9 ?m9; (case h9 => assumption); (case m9 => k_mem)) | (refine' lt_ne3' ?h9 ?m9; (case h9 => assumption); (case m9 => k_mem)) | (refine neN ?_; (try dsimp only); omega))
  k_with "K_MEM" => (first | with_reducible assumption | exact mm0 | exact mm1 | exact mm2 | exact mm3 | exact mm4 | exact mm5 | exact mm6 | exact mm7 | exact mm8 | exact mm9 | exact mm10 | exact mm11 | exact mm12 | ((repeat (first | with_reducible assumption | exact List.Mem.head _ | (refine mem_in ?_; with_reducible assumption) | refine' List.Mem.tail _ ?_)); done))
  k_with "K_SUB" => (first | exact hq | exact md1 hq | exact md2 hq | exact md3 hq | exact md4 hq | exact md5 hq | exact md6 hq | exact md7 hq | exact md8 hq | exact md9 hq | exact md10 hq | exact md11 hq | exact md12 hq | exact md13 hq | exact md14 hq | (repeat (first | exact hq | refine List.Mem.tail _ ?_)))
  k_with "ENTER" => (first | (refine' code_def ?k1 ?k2 ?k3 ?k4 ?k5 ?kA ?kF ?kK ?k6 ?k7 ?k8 ?k9 ?kB ?_ ?c2 ?c3 ?c4 ?c5; (case kA => exact rfl); (case kF => exact rfl); (case kK => first | assumption | exact rfl); (case k1 => k_asm); (case k2 => k_asm); (case k3 => k_asm); (case k4 => k_asm); (case k5 => k_asm); (case k6 => k_is); (case k7 => k_is); (case k8 => k_room); (case k9 => first | exact BindsTo.of_eq rfl | exact binds_K (by k_in) rfl (by k_is) rfl rfl rfl); (case c5 => decide); (case kB => exact locs rfl); (case c2 => exact rfl); (case c3 => exact rfl); (case c4 => exact rfl); k_whole; intro g' L' h' FG' F' N' B' X' T'; (try dsimp only); (try k_lift B'); (try k_fold)) | (refine' code_defC ?k1 ?k2 ?k3 ?k4 ?k5 ?kA ?kF ?kK ?k6 ?k7 ?k8 ?k9 ?kB ?kD ?_ ?c2 ?c3 ?c4; (case kA => exact rfl); (case kF => exact rfl); (case kK => first | assumption | exact rfl); (case k1 => k_asm); (case k2 => k_asm); (case k3 => k_asm); (case k4 => k_asm); (case k5 => k_asm); (case k6 => k_is); (case k7 => k_is); (case k8 => k_room); (case k9 => first | exact BindsTo.of_eq rfl | exact binds_K (by k_in) rfl (by k_is) rfl rfl rfl); (case kB => exact rfl); (case kD => decide +kernel); (case c2 => exact rfl); (case c3 => exact rfl); (case c4 => exact rfl); k_whole; intro g' L' h' tk' cells' FG' F' N' Y' B' X' T' l1; (try k_lt l1); k_cells Y'; (try simp only [List.cons_append, List.nil_append] at N'); (try dsimp only); (try k_lift B'); (try k_fold)))
  k_with "X FinE" => (((unfold LCg.FinE); intro D' h' tk' F' N' o1'; (have oD' := off_of_off1 o1'); (clear o1'); (try simp only [List.nil_append, List.cons_append] at N'); (try dsimp only)))
  k_with "X ALC" => ((k_here; with_reducible refine plainObj_wpAny_Assign_Attribute ?_ ?_; rotate_left; with_unfolding_all rfl))
  k_with "X FinA" => ((unfold LCg.FinA); intro upsA h' tk' F' N' o1'; (have oU := off_of_off1 o1'); (clear o1'); (try simp only [List.nil_append, List.cons_append] at N'); (try dsimp only))
  k_with "X FOR" => ((k_here; (rename Fr _ _ _ _ => lF'); (with_unfolding_all refine' For_invVF lF' ?k1 ?k2 ?_; (case k1 => exact rfl); (case k2 => exact rfl); k_whole)))
  k_with "K_ROOM" => (first | k_dflt (first | exact room_0 hd | exact room_of 1 hd | exact room_of 2 hd | exact room_of 3 hd | exact room_of 4 hd | exact room_of 5 hd | exact room_of 6 hd | exact room_of 7 hd | exact room_of 8 hd) | ktr_room)
  k_with "K_UNITS" => (first | k_dflt (first | exact units_of 103 hu | exact units_of 303 hu | exact units_of 203 hu | exact units_of 67 hu | exact units_of 503 hu | exact units_of 403 hu) | ktr_units)
  k_with "binaryOp Add ref ref" => (k_here; (with_reducible show wpAny _ _ (binaryOp _ (Value.ref _) (Value.ref _)) _ _ _); k_dflt (refine' addl_at ?k1 ?k2 ?k3 ?k4 ?k5 ?k6 ?_; (case k1 => k_asm); (case k2 => k_asm); (case k3 => k_mem); (case k4 => k_mem); (case k5 => first | assumption | decide | (simp only [List.length_cons, List.length_nil]; omega)); (case k6 => first | assumption | decide | (simp only [List.length_cons, List.length_nil]; omega)); k_whole); intro l' h' F' N' l1; (try k_lt l1); (try k_sweep))
  k_with "CompSrcT" => (k_here; k_dflt (refine LCt.CompSrcT.ledger (by rfl) (by k_asm) (by k_asm) (by k_mem) (by rw [sizeLine_eq, List.size_toArray]; omega) ?_); intro g'; k_dflt (refine' rest_filter _ ?hf ?hi ?hS (fun i9 t9 I9 oI9 C9 oC9 D9 ys9 m9 h' tk9 E9 hi9 hC9 hx9 F' N' off9 ne9 => ?_) (fun ys9 hys9 => ?_); (case hf => assumption); (case hi => assumption); (case hS => exact Or.inr ⟨_, by k_mem, rfl, _, rfl⟩)); (try k_fold))
  k_with "TestEnd" => (refine TestEnd.intro ?_ (by k_asm) (by k_asm); rfl)
  k_with "call builtin:len cons nil" => (k_here; (with_reducible show wpAny _ _ (call (Value.builtin "len") [Value.ref _]) _ _ _); k_dflt (refine' len_filt ?k1 ?k2 ?k3 ?k4 ?k5 ?_; (case k1 => k_asm); (case k2 => k_mem); (case k3 => assumption); (case k4 => assumption); (case k5 => assumption); k_whole))
  k_with "subscriptTail Attribute Name Name ref int" => (k_here; (with_reducible show wpAny _ _ (subscriptTail _ _ (Value.ref _) (Value.int _ _)) _ _ _); (try (k_dflt (refine kba_turn (value' := PySem.Expr.Name (PySem.Str.ofString "_") ⟨0, 0, 0, 0⟩) (fun _ => rfl) ?_))); k_dflt (refine' kda_item (knd := PySem.intKind _ _) ?N ?m ?d (intKind_is _ _ _ _) ?l ?_; (case N => k_asm); (case m => k_mem); (case d => assumption); (case l => assumption); k_whole))
  k_with "subscriptTail Name Name ref int" => (k_here; (with_reducible show wpAny _ _ (subscriptTail _ _ (Value.ref _) (Value.int _ _)) _ _ _); (try (k_dflt (refine kba_turn (value' := PySem.Expr.Name (PySem.Str.ofString "_") ⟨0, 0, 0, 0⟩) (fun _ => rfl) ?_))); k_dflt (refine' kda_item (knd := PySem.intKind _ _) ?N ?m ?d (intKind_is _ _ _ _) ?l ?_; (case N => k_asm); (case m => k_mem); (case d => assumption); (case l => assumption); k_whole))
  k_with "compareOp NotIn int ref" => (k_here; k_dflt (refine' kdg_notin (knd := PySem.intKind _ _) ?N ?m ?d ?lo (intKind_is _ _ _ _) true ?hb ?_; (case N => k_asm); (case m => k_mem); (case d => assumption); (case lo => assumption); (case hb => assumption); k_whole))
  k_with "call builtin:list.append nil" => (k_here; k_dflt (refine' append_at ?k1 ?k2 ?k3 ?k4 ?_; (case k1 => k_asm); (case k2 => k_asm); (case k3 => k_updF); (case k4 => first | assumption | exact filt_len (by assumption) (by assumption) (by assumption)); k_whole); intro h' F' N'; (try dsimp only at N'); (try k_sweep))
  k_with "call builtin:list.append cons nil" => (k_here; k_dflt (refine' append_at ?k1 ?k2 ?k3 ?k4 ?_; (case k1 => k_asm); (case k2 => k_asm); (case k3 => k_updF); (case k4 => first | assumption | exact filt_len (by assumption) (by assumption) (by assumption)); k_whole); intro h' F' N'; (try dsimp only at N'); (try k_sweep))
  k_with "call builtin:sorted cons nil" => (k_here; (with_reducible show wpAny _ _ (call (Value.builtin "sorted") [Value.ref _]) _ _ _); k_dflt (refine' sorted_at rfl ?k1 ?k2 ?k3 ?k4 ?k5 ?_; (case k1 => k_asm); (case k2 => k_asm); (case k3 => k_mem); (case k4 => assumption); (case k5 => assumption); k_whole); intro B' h' tk9 t3' t1' t2' F' N' l1; (try k_lt l1))
  exact trivial
example : True := by
  k_with "binaryOp Mult int int" => (refine sq_int ?_)
  exact trivial

def TakePost (src : Addr) (n : Nat) (rest : List (Addr × Obj)) (top : Int) (r : Value) (nx : List (Addr × Obj)) : Prop :=
  ∃ i t x tx y ty, r = .int i t ∧ 0 ≤ i ∧ i < top ∧ 0 ≤ x ∧ 0 ≤ y ∧ nx = (src, listOf #[.int x tx, .int y ty] n) :: rest
theorem take_spec (w : World) (rest : List (Addr × Obj)) (src : Addr) (x y top : Int) (tx ty tt : Tok) (n : Nat)
   (hne : ∀ q ∈ rest, q.1 ≠ src) (hx : 0 ≤ x) (hy : 0 ≤ y) (ht : 1 ≤ top) (ht2 : top ≤ 15) :
   Spec 1 w 205 [.ref src, .int top tt] ((src, listOf #[.int x tx, .int y ty] n) :: rest) (TakePost src n rest top) := by
  intro dp un gd cn cs a ccd cl outer A₀ base h₀ L m p loose mean mg mb s Q E B F X N T hk hd hu hret
  refine wpAny_call ?_
  k_dflt cell_enter
  k_steps
  · refine hret _ _ _ _ ⟨_, _, _, _, _, _, rfl, ?_, ?_, ?_, ?_, rfl⟩ (by assumption) (by assumption)
    · exact (fmod_range (by omega)).1
    · exact (fmod_range (by omega)).2
    · exact fdiv_nonneg' (by omega) (by omega)
    · exact hy
  · refine hret _ _ _ _ ⟨_, _, _, _, _, _, rfl, ?_, ?_, ?_, ?_, rfl⟩ (by assumption) (by assumption)
    · exact (fmod_range (by omega)).1
    · exact (fmod_range (by omega)).2
    · exact hx
    · exact (fmod_range (by decide)).1

theorem take_use {w : World} {dp un : Nat} {gd : Option (List Code)} {cn : Str} {cs : Scope} {a : Addr} {ccd : Value} {cl : List (Str × Addr)} {outer : List Env} {A₀ : Around} {base h₀ : Heap} {L : Addr} {m : Str → Option Value}
    {p : Program} {loose : List Str} {mean : ExcName → Option Value} {mg mb : Str → Option Value} {s : Shared} {Q E : Value → Shared → Prop} {news : List (Addr × Obj)} {g : Obj → List (Addr × Obj)} {src : Addr} {x y top : Int} {tx ty tt : Tok} {n : Nat}
    (B : Below A₀ base outer h₀) (F : Fr h₀ L s.heap m) (X : (hd.heap_39 w.params).In h₀) (N : News h₀ L s.heap news) (U : UpdF src (listOf #[.int x tx, .int y ty] n) news g) (T : Top p loose mean mg mb h₀) (hk : cs.kind = .function)
    (hx : 0 ≤ x) (hy : 0 ≤ y) (ht : 1 ≤ top) (ht2 : top ≤ 15) (hd : dp + 1 < recursionLimit) (hu : un + 100 * 1 < cLine)
    (hret : ∀ i t x tx y ty h' tk', 0 ≤ i → i < top → 0 ≤ x → 0 ≤ y → Fr h₀ L h' m → News h₀ L h' (g (listOf #[.int x tx, .int y ty] n)) → Q (.int i t) { s with heap := h', toks := tk' }) :
    wpAny (model PySem.Challenge.rw_pb0539_01.prog w) (ktrTop dp un gd cn cs L a ccd cl outer) (call (.ref 205) [.ref src, .int top tt]) Q E s := by
  obtain ⟨rest, h1, h2, h3, _⟩ := UpdF.two U
  refine (take_spec w rest src x y top tx ty tt n h1 hx hy ht ht2).use B F X N h2 T hk hd hu ?_
  rintro r nx h' tk' ⟨i, t, x', tx', y', ty', rfl, c1, c2, c3, c4, rfl⟩ F' N'
  exact hret i t x' tx' y' ty' h' tk' c1 c2 c3 c4 F' fun q hq => N' q (h3 _ q hq)

local macro_rules | `(tactic| walk_at "subscriptTail") => `(tactic| (k_here; (with_reducible show wpAny _ _ (subscriptTail _ _ (Value.ref _) (Value.int _ _)) _ _ _); k_dflt (refine' item_at ?k1 ?k2 ?k3 ?k4 ?k5 ?_; (case k1 => k_asm); (case k2 => k_mem); (case k3 => assumption); (case k4 => assumption); (case k5 => assumption); k_whole); intro v9 hv9))
local macro_rules | `(tactic| walk_at "call ref") => `(tactic| (k_here; (with_reducible show wpAny _ _ (call (Value.ref 205) _) _ _ _); k_dflt (refine' take_use ?k1 ?k2 ?k3 ?k4 ?k5 ?k6 ?k7 ?k8 ?k9 ?k10 ?k11 ?k12 ?k13 ?_; (case k1 => k_asm); (case k2 => k_asm); (case k3 => k_asm); (case k4 => k_asm); (case k5 => k_updF); (case k6 => k_asm); (case k7 => first | exact rfl | assumption); (case k8 => omega); (case k9 => omega); (case k10 => omega); (case k11 => omega); (case k12 => k_room); (case k13 => k_units); k_whole); intro i9 t9 x9 tx9 y9 ty9 h' tk9 hi9 hi9' hx9 hy9 F' N'; (try dsimp only at N'); (try dsimp only); (try k_fold)))
local macro_rules | `(tactic| walk_at "call builtin:len") => `(tactic| (k_here; (with_reducible show wpAny _ _ (call (Value.builtin "len") [Value.ref _]) _ _ _); k_dflt (refine' len_at ?k1 ?k2 ?k3 ?_; (case k1 => k_asm); (case k2 => k_mem); (case k3 => assumption); k_whole)))
local macro_rules | `(tactic| k_mem) => `(tactic| exact List.Mem.tail _ (by assumption))
theorem one_spec (w : World) (rest : List (Addr × Obj)) (src l : Addr) (x y : Int) (tx ty : Tok) (n k : Nat) (vs : List Value)
   (hne : ∀ q ∈ rest, q.1 ≠ src) (hl : (l, listOf vs.toArray k) ∈ rest) (hx : 0 ≤ x) (hy : 0 ≤ y) (h1 : 1 ≤ vs.length) (h2 : vs.length ≤ 15) :
   Spec 2 w 212 [.ref src, .ref l] ((src, listOf #[.int x tx, .int y ty] n) :: rest)
     (fun r nx => r ∈ vs ∧ ∃ x tx y ty, 0 ≤ x ∧ 0 ≤ y ∧ nx = (src, listOf #[.int x tx, .int y ty] n) :: rest) := by
  intro dp un gd cn cs a ccd cl outer A₀ base h₀ L m p loose mean mg mb s Q E B F X N T hk hd hu hret
  have h3 : vs.length < 1000 := by omega
  refine wpAny_call ?_
  k_dflt cell_enter
  k_steps
  refine hret _ _ _ _ ⟨by assumption, _, _, _, _, ?_, ?_, rfl⟩ (by assumption) (by assumption)
  · assumption
  · assumption
theorem one_use {w : World} {dp un : Nat} {gd : Option (List Code)} {cn : Str} {cs : Scope} {a : Addr} {ccd : Value} {cl : List (Str × Addr)} {outer : List Env} {A₀ : Around} {base h₀ : Heap} {L : Addr} {m : Str → Option Value}
    {p : Program} {loose : List Str} {mean : ExcName → Option Value} {mg mb : Str → Option Value} {s : Shared} {Q E : Value → Shared → Prop} {news : List (Addr × Obj)} {g : Obj → List (Addr × Obj)} {src l : Addr} {x y : Int} {tx ty : Tok} {n k : Nat} {vs : List Value}
    (B : Below A₀ base outer h₀) (F : Fr h₀ L s.heap m) (X : (hd.heap_39 w.params).In h₀) (N : News h₀ L s.heap news) (U : UpdF src (listOf #[.int x tx, .int y ty] n) news g) (T : Top p loose mean mg mb h₀) (hk : cs.kind = .function)
    (hm : (l, listOf vs.toArray k) ∈ news) (hl : l ≠ src) (hx : 0 ≤ x) (hy : 0 ≤ y) (h1 : 1 ≤ vs.length) (h2 : vs.length ≤ 15) (hd : dp + 2 < recursionLimit) (hu : un + 100 * 2 < cLine)
    (hret : ∀ r x tx y ty h' tk', r ∈ vs → 0 ≤ x → 0 ≤ y → Fr h₀ L h' m → News h₀ L h' (g (listOf #[.int x tx, .int y ty] n)) → Q r { s with heap := h', toks := tk' }) :
    wpAny (model PySem.Challenge.rw_pb0539_01.prog w) (ktrTop dp un gd cn cs L a ccd cl outer) (call (.ref 212) [.ref src, .ref l]) Q E s := by
  obtain ⟨rest, a1, a2, a3, a4⟩ := UpdF.two U
  refine (one_spec w rest src l x y tx ty n k vs a1 (a4 _ hm hl) hx hy h1 h2).use B F X N a2 T hk hd hu ?_
  rintro r nx h' tk' ⟨c0, x', tx', y', ty', c3, c4, rfl⟩ F' N'
  exact hret r x' tx' y' ty' h' tk' c0 c3 c4 F' fun q hq => N' q (a3 _ q hq)
end
section
example : True := by
  k_with_none
  k_with "K_ALL" => (first | assumption | exact List.forall_mem_nil _ | (refine' off_as 0 ?h8 ?m8; (case h8 => assumption); (case m8 => k_dflt (exact rfl))) | (refine' lt_as 0 ?h7 ?m7; (case h7 => assumption); (case m7 => k_dflt (exact rfl))) | (refine' off_c ?a9 ?b9; (case a9 => k_ne); (case b9 => k_all)) | (refine' List.forall_mem_cons.mpr ⟨?a, ?b⟩; (case a => k_ne); (case b => k_all)) | (refine' lt_off ?h9 ?m9; (case h9 => assumption); (case m9 => intro q9 hq9; (repeat (first | exact hq9 | refine List.Mem.tail _ ?_)))) | (refine' off_sub ?h9 ?m9; (case h9 => assumption); (case m9 => intro q9 hq9; (repeat (first | exact hq9 | refine List.Mem.tail _ ?_)))))
  k_with "K_NE" => (first | assumption | exact Ne.symm (by assumption) | (refine' lt_ne ?h9 ?m9; (case h9 => assumption); (case m9 => k_mem)) | (refine' lt_ne' ?h9 ?m9; (case h9 => assumption); (case m9 => k_mem)) | (refine' off_ne ?h9 ?m9; (case h9 => assumption); (case m9 => k_mem)) | (refine' off_ne' ?h9 ?m9; (case h9 => assumption); (case m9 => k_mem)) | (refine' lt_ne1 ?h9 ?m9; (case h9 => assumption); (case m9 => k_mem)) | (refine' lt_ne1' ?h9 ?m9; (case h9 => assumption); (case m9 => k_mem)) | (refine' lt_ne2 ?h9 ?m9; (case h9 => assumption); (case m9 => k_mem)) | (refine' lt_ne2' ?h9 ?m9; (case h9 => assumption); (case m9 => k_mem)) | (refine' lt_ne3 ?h9 ?m9; (case h9 => assumption); (case m9 => k_mem)) | (refine' lt_ne3' ?h9 ?m9; (case h9 => assumption); (case m9 => k_mem)) | (refine neN ?_; (try dsimp only); omega))
  k_with "K_MEM" => (first | with_reducible assumption | exact mm0 | exact mm1 | exact mm2 | exact mm3 | exact mm4 | exact mm5 | exact mm6 | exact mm7 | exact mm8 | exact mm9 | exact mm10 | exact mm11 | exact mm12 | ((repeat (first | with_reducible assumption | exact List.Mem.head _ | (refine mem_in ?_; with_reducible assumption) | refine' List.Mem.tail _ ?_)); done))
  k_with "K_SUB" => (first | exact hq | exact md1 hq | exact md2 hq | exact md3 hq | exact md4 hq | exact md5 hq | exact md6 hq | exact md7 hq | exact md8 hq | exact md9 hq | exact md10 hq | exact md11 hq | exact md12 hq | exact md13 hq | exact md14 hq | (repeat (first | exact hq | refine List.Mem.tail _ ?_)))
  k_with "ENTER" => (first | (refine' code_def ?k1 ?k2 ?k3 ?k4 ?k5 ?kA ?kF ?kK ?k6 ?k7 ?k8 ?k9 ?kB ?_ ?c2 ?c3 ?c4 ?c5; (case kA => exact rfl); (case kF => exact rfl); (case kK => first | assumption | exact rfl); (case k1 => k_asm); (case k2 => k_asm); (case k3 => k_asm); (case k4 => k_asm); (case k5 => k_asm); (case k6 => k_is); (case k7 => k_is); (case k8 => k_room); (case k9 => first | exact BindsTo.of_eq rfl | exact binds_K (by k_in) rfl (by k_is) rfl rfl rfl); (case c5 => decide); (case kB => exact locs rfl); (case c2 => exact rfl); (case c3 => exact rfl); (case c4 => exact rfl); k_whole; intro g' L' h' FG' F' N' B' X' T'; (try dsimp only); (try k_lift B'); (try k_fold)) | (refine' code_defC ?k1 ?k2 ?k3 ?k4 ?k5 ?kA ?kF ?kK ?k6 ?k7 ?k8 ?k9 ?kB ?kD ?_ ?c2 ?c3 ?c4; (case kA => exact rfl); (case kF => exact rfl); (case kK => first | assumption | exact rfl); (case k1 => k_asm); (case k2 => k_asm); (case k3 => k_asm); (case k4 => k_asm); (case k5 => k_asm); (case k6 => k_is); (case k7 => k_is); (case k8 => k_room); (case k9 => first | exact BindsTo.of_eq rfl | exact binds_K (by k_in) rfl (by k_is) rfl rfl rfl); (case kB => exact rfl); (case kD => decide +kernel); (case c2 => exact rfl); (case c3 => exact rfl); (case c4 => exact rfl); k_whole; intro g' L' h' tk' cells' FG' F' N' Y' B' X' T' l1; (try k_lt l1); k_cells Y'; (try simp only [List.cons_append, List.nil_append] at N'); (try dsimp only); (try k_lift B'); (try k_fold)))
  k_with "X FinE" => (((unfold LCg.FinE); intro D' h' tk' F' N' o1'; (have oD' := off_of_off1 o1'); (clear o1'); (try simp only [List.nil_append, List.cons_append] at N'); (try dsimp only)))
  k_with "X ALC" => ((k_here; with_reducible refine plainObj_wpAny_Assign_Attribute ?_ ?_; rotate_left; with_unfolding_all rfl))
  k_with "X FinA" => ((unfold LCg.FinA); intro upsA h' tk' F' N' o1'; (have oU := off_of_off1 o1'); (clear o1'); (try simp only [List.nil_append, List.cons_append] at N'); (try dsimp only))
  k_with "X FOR" => ((k_here; (rename Fr _ _ _ _ => lF'); (with_unfolding_all refine' For_invVF lF' ?k1 ?k2 ?_; (case k1 => exact rfl); (case k2 => exact rfl); k_whole)))
  k_with "K_ROOM" => (first | k_dflt (first | exact room_0 hd | exact room_of 1 hd | exact room_of 2 hd | exact room_of 3 hd | exact room_of 4 hd | exact room_of 5 hd | exact room_of 6 hd | exact room_of 7 hd | exact room_of 8 hd) | ktr_room)
  k_with "K_UNITS" => (first | k_dflt (first | exact units_of 103 hu | exact units_of 303 hu | exact units_of 203 hu | exact units_of 67 hu | exact units_of 503 hu | exact units_of 403 hu) | ktr_units)
  k_with "binaryOp Add ref ref" => (k_here; (with_reducible show wpAny _ _ (binaryOp _ (Value.ref _) (Value.ref _)) _ _ _); k_dflt (refine' addl_at ?k1 ?k2 ?k3 ?k4 ?k5 ?k6 ?_; (case k1 => k_asm); (case k2 => k_asm); (case k3 => k_mem); (case k4 => k_mem); (case k5 => first | assumption | decide | (simp only [List.length_cons, List.length_nil]; omega)); (case k6 => first | assumption | decide | (simp only [List.length_cons, List.length_nil]; omega)); k_whole); intro l' h' F' N' l1; (try k_lt l1); (try k_sweep))
  k_with "CompSrcT" => (k_here; k_dflt (refine LCt.CompSrcT.ledger (by rfl) (by k_asm) (by k_asm) (by k_mem) (by rw [sizeLine_eq, List.size_toArray]; omega) ?_); intro g'; k_dflt (refine' rest_filter _ ?hf ?hi ?hS (fun i9 t9 I9 oI9 C9 oC9 D9 ys9 m9 h' tk9 E9 hi9 hC9 hx9 F' N' off9 ne9 => ?_) (fun ys9 hys9 => ?_); (case hf => assumption); (case hi => assumption); (case hS => exact Or.inr ⟨_, by k_mem, rfl, _, rfl⟩)); (try k_fold))
  k_with "TestEnd" => (refine TestEnd.intro ?_ (by k_asm) (by k_asm); rfl)
  k_with "call builtin:len cons nil" => (k_here; (with_reducible show wpAny _ _ (call (Value.builtin "len") [Value.ref _]) _ _ _); k_dflt (refine' len_filt ?k1 ?k2 ?k3 ?k4 ?k5 ?_; (case k1 => k_asm); (case k2 => k_mem); (case k3 => assumption); (case k4 => assumption); (case k5 => assumption); k_whole))
  k_with "subscriptTail Attribute Name Name ref int" => (k_here; (with_reducible show wpAny _ _ (subscriptTail _ _ (Value.ref _) (Value.int _ _)) _ _ _); (try (k_dflt (refine kba_turn (value' := PySem.Expr.Name (PySem.Str.ofString "_") ⟨0, 0, 0, 0⟩) (fun _ => rfl) ?_))); k_dflt (refine' kda_item (knd := PySem.intKind _ _) ?N ?m ?d (intKind_is _ _ _ _) ?l ?_; (case N => k_asm); (case m => k_mem); (case d => assumption); (case l => assumption); k_whole))
  k_with "subscriptTail Name Name ref int" => (k_here; (with_reducible show wpAny _ _ (subscriptTail _ _ (Value.ref _) (Value.int _ _)) _ _ _); (try (k_dflt (refine kba_turn (value' := PySem.Expr.Name (PySem.Str.ofString "_") ⟨0, 0, 0, 0⟩) (fun _ => rfl) ?_))); k_dflt (refine' kda_item (knd := PySem.intKind _ _) ?N ?m ?d (intKind_is _ _ _ _) ?l ?_; (case N => k_asm); (case m => k_mem); (case d => assumption); (case l => assumption); k_whole))
  k_with "compareOp NotIn int ref" => (k_here; k_dflt (refine' kdg_notin (knd := PySem.intKind _ _) ?N ?m ?d ?lo (intKind_is _ _ _ _) true ?hb ?_; (case N => k_asm); (case m => k_mem); (case d => assumption); (case lo => assumption); (case hb => assumption); k_whole))
  k_with "call builtin:list.append nil" => (k_here; k_dflt (refine' append_at ?k1 ?k2 ?k3 ?k4 ?_; (case k1 => k_asm); (case k2 => k_asm); (case k3 => k_updF); (case k4 => first | assumption | exact filt_len (by assumption) (by assumption) (by assumption)); k_whole); intro h' F' N'; (try dsimp only at N'); (try k_sweep))
  k_with "call builtin:list.append cons nil" => (k_here; k_dflt (refine' append_at ?k1 ?k2 ?k3 ?k4 ?_; (case k1 => k_asm); (case k2 => k_asm); (case k3 => k_updF); (case k4 => first | assumption | exact filt_len (by assumption) (by assumption) (by assumption)); k_whole); intro h' F' N'; (try dsimp only at N'); (try k_sweep))
  k_with "call builtin:sorted cons nil" => (k_here; (with_reducible show wpAny _ _ (call (Value.builtin "sorted") [Value.ref _]) _ _ _); k_dflt (refine' sorted_at rfl ?k1 ?k2 ?k3 ?k4 ?k5 ?_; (case k1 => k_asm); (case k2 => k_asm); (case k3 => k_mem); (case k4 => assumption); (case k5 => assumption); k_whole); intro B' h' tk9 t3' t1' t2' F' N' l1; (try k_lt l1))
  exact trivial
def TakeFact (top i : Int) : Prop := 0 ≤ i ∧ i < top
theorem TakeFact.mk {top i : Int} (h : 0 ≤ i) (k : i < top) : TakeFact top i := ⟨h, k⟩
theorem len_if1 {b : Bool} {v : Value} : (if b = true then [v] else []).length < 1000 := by
  cases b
  · exact (by decide : 0 < 1000)
  · exact (by decide : 1 < 1000)
example : True := by
  k_with "call ref cons nil" => (k_here; (with_reducible show wpAny _ _ (call (Value.ref 205) _) _ _ _); k_dflt (refine' take_use ?k1 ?k2 ?k3 ?k4 ?k5 ?k6 ?k7 ?k8 ?k9 ?k10 ?k11 ?k12 ?k13 ?_; (case k1 => k_asm); (case k2 => k_asm); (case k3 => k_asm); (case k4 => k_asm); (case k5 => k_updF); (case k6 => k_asm); (case k7 => first | exact rfl | assumption); (case k8 => assumption); (case k9 => assumption); (case k10 => decide); (case k11 => decide); (case k12 => k_room); (case k13 => k_units); k_whole); intro i9 t9 x9 tx9 y9 ty9 h' tk9 hi9 hi9' hx9 hy9 F' N'; (have hT9 := TakeFact.mk hi9 hi9'); (clear hi9 hi9'); (try dsimp only at N'); (try dsimp only); (try k_fold))
  k_with "subscriptTail Name Constant ref int" => (k_here; (with_reducible show wpAny _ _ (subscriptTail _ _ (Value.ref _) (Value.int _ _)) _ _ _); k_dflt (refine' item_tupleT ?t ?a ?b ?c ?d ?_; (case t => exact News.isTup (by k_asm) (by k_mem)); (case a => decide); (case b => decide); (case c => rfl); (case d => rfl); k_whole))
  k_with "call builtin:list.extend cons nil" => (k_here; (with_reducible show wpAny _ _ (call (Value.builtin _) [Value.ref _, Value.ref _]) _ _ _); k_dflt (refine' ext_at ?k1 ?k2 ?k3 ?k4 ?k5 ?k6 ?_; (case k1 => k_asm); (case k2 => k_asm); (case k3 => k_mem); (case k4 => k_updF); (case k5 => assumption); (case k6 => first | assumption | decide | exact len_if1); k_whole); intro n9 h' F' N'; (try dsimp only at N'); (try k_sweep))
  k_with "binaryOp Mult ref int" => (k_here; k_dflt (refine' mul_b _ ?k1 ?k2 ?k3 ?_; (case k1 => k_asm); (case k2 => k_asm); (case k3 => k_mem); k_whole); intro D8 h' F' N' l8; (try k_sweep))
  k_with "call builtin:list.clear cons nil" => (k_here; (with_reducible show wpAny _ _ (call (Value.builtin _) [Value.ref _]) _ _ _); k_dflt (refine' clr_at ?k1 ?k2 ?k4 ?k5 ?_; (case k1 => k_asm); (case k2 => k_asm); (case k4 => k_updF); (case k5 => assumption); k_whole); intro n9 h' F' N'; (try dsimp only at N'); (try k_sweep))
  k_with "call type:list cons nil" => (k_here; (with_reducible show wpAny _ _ (call (Value.type _) [Value.ref _]) _ _ _); k_dflt (refine' copy_at ?k1 ?k2 ?k3 ?k4 ?_; (case k1 => k_asm); (case k2 => k_asm); (case k3 => k_mem); (case k4 => assumption); k_whole); intro D9 c9 h' F' N' l1; (try k_sweep))
  k_with "CompSrc" => (k_here; k_dflt (refine LCg.CompSrc.ledger (by rfl) (by k_asm) (by k_asm) (by k_mem) (by rw [sizeLine_eq, List.size_toArray]; omega) ?_); intro g'; k_dflt (refine' rest_tups (f := true) ?hi ?hm (fun i9 t9 I9 oI9 C9 oC9 D9 ys9 led9 m9 h' tk9 E9 hC9 hx9 F' N' ne9 => ?_) (fun ys9 t9 hys9 hsep9 => ?_); (case hi => assumption); (case hm => k_mem)); (try k_fold))
  k_with "TupEnd" => (exact TupEnd.intro (by k_asm) (by k_asm) (by assumption))
  exact trivial
/-- the rest of a cell's ledger, out of the deeds' sight -/
@[irreducible] def gT (d : GD) (g : GS) (rest : List (Addr × Obj)) : List (Addr × Obj) := (d.c.R, d.oR) :: (d.c.W, d.oW) :: (g.C, listOf g.cs.toArray g.nc) :: ((led3b PBlk.led g.PB ++ (led3b goLb g.RB ++ g.tl)) ++ rest)
@[reducible] def gW (d : GD) (g : GS) (T : List (Addr × Obj)) : List (Addr × Obj) := (d.c.P, instObj 187 d.c.dP) :: (d.c.dP, d.c.d g.C) :: (d.rows, d.oS) :: (d.seen, listOf g.ss.toArray g.ns) :: (d.src, listOf #[.int g.x g.tx, .int g.y g.ty] g.nx) :: (d.lim, { cls := .type "tuple", data := .seq #[d.c.mv, .int d.c.span d.ts2, .int d.c.hold d.th2] }) :: T
theorem gW_sub {d : GD} {g : GS} {rest : List (Addr × Obj)} : ∀ q ∈ gW d g (gT d g rest), q ∈ gA d g ++ rest := by
  unfold gT
  exact sub_cons mm0 (sub_cons mm1 (sub_cons mm5 (sub_cons mm6 (sub_cons mm7 (sub_cons mm8 (sub_cons mm2 (sub_cons mm3 (sub_cons mm4 fun q hq => md9 hq))))))))
theorem gA_sub {d : GD} {g : GS} {rest : List (Addr × Obj)} : ∀ q ∈ gA d g ++ rest, q ∈ gW d g (gT d g rest) := by
  unfold gT
  exact sub_cons mm0 (sub_cons mm1 (sub_cons mm6 (sub_cons mm7 (sub_cons mm8 (sub_cons mm2 (sub_cons mm3 (sub_cons mm4 (sub_cons mm5 fun q hq => md9 hq))))))))
theorem gSep {w : World} {d : GD} {g : GS} {rest : List (Addr × Obj)} {KP KR : Nat} (G : Good w d g rest KP KR) :
    Off d.c.P ((d.c.dP, d.c.d g.C) :: (d.rows, d.oS) :: (d.seen, listOf g.ss.toArray g.ns) :: (d.src, listOf #[.int g.x g.tx, .int g.y g.ty] g.nx) :: (d.lim, { cls := .type "tuple", data := .seq #[d.c.mv, .int d.c.span d.ts2, .int d.c.hold d.th2] }) :: gT d g rest) ∧
    Off d.c.dP ((d.rows, d.oS) :: (d.seen, listOf g.ss.toArray g.ns) :: (d.src, listOf #[.int g.x g.tx, .int g.y g.ty] g.nx) :: (d.lim, { cls := .type "tuple", data := .seq #[d.c.mv, .int d.c.span d.ts2, .int d.c.hold d.th2] }) :: gT d g rest) ∧
    Off d.rows ((d.seen, listOf g.ss.toArray g.ns) :: (d.src, listOf #[.int g.x g.tx, .int g.y g.ty] g.nx) :: (d.lim, { cls := .type "tuple", data := .seq #[d.c.mv, .int d.c.span d.ts2, .int d.c.hold d.th2] }) :: gT d g rest) ∧
    Off d.seen ((d.src, listOf #[.int g.x g.tx, .int g.y g.ty] g.nx) :: (d.lim, { cls := .type "tuple", data := .seq #[d.c.mv, .int d.c.span d.ts2, .int d.c.hold d.th2] }) :: gT d g rest) ∧
    Off d.src ((d.lim, { cls := .type "tuple", data := .seq #[d.c.mv, .int d.c.span d.ts2, .int d.c.hold d.th2] }) :: gT d g rest) ∧ Off d.lim (gT d g rest) := by
  have S : Sep (gW d g ((d.c.R, d.oR) :: (d.c.W, d.oW) :: (g.C, listOf g.cs.toArray g.nc) :: (led3b PBlk.led g.PB ++ (led3b goLb g.RB ++ g.tl)))) rest := G.sep.perm (by
    refine List.Perm.cons _ (List.Perm.cons _ ?_)
    exact List.perm_append_comm_assoc [_, _, _] [_, _, _, _] (led3b PBlk.led g.PB ++ (led3b goLb g.RB ++ g.tl)))
  unfold gT
  have h1 := sep4 S
  have h2 := sep_c h1.2.2.2.2
  have h3 := sep_c h2.2
  exact ⟨h1.1, h1.2.1, h1.2.2.1, h1.2.2.2.1, h2.1, h3.1⟩
theorem gT_same {d : GD} {g : GS} {rest : List (Addr × Obj)} {x y : Int} {tx ty : Tok} : gT d { g with x := x, y := y, tx := tx, ty := ty } rest = gT d g rest := by unfold gT; rfl
theorem seen_step {w : World} {d : GD} {g : GS} {rest : List (Addr × Obj)} {KP KR KR' ns : Nat} {t : List (Addr × Obj)} {us : List Value} {ps : List (Int × Bool)} (G : Good w d g rest KP KR) (hk : KR ≤ KR') (hf : Sep t (gA d g ++ rest)) (T : TupsAre t us ps) (hl : (g.cS ++ ps).length ≤ 3 * KR') :
    ∃ g3, Good w d g3 rest KP KR' ∧ g3.PB = g.PB ∧ g3.RB = g.RB ∧ g3.cP = g.cP ∧ g3.cS = g.cS ++ ps ∧ g3.ss = g.ss ++ us ∧
      ∀ q ∈ gA d g3 ++ rest, q ∈ t ++ ((d.c.P, instObj 187 d.c.dP) :: (d.c.dP, d.c.d g.C) :: (d.rows, d.oS) :: (d.seen, listOf (g.ss ++ us).toArray ns) :: (d.src, listOf #[.int g.x g.tx, .int g.y g.ty] g.nx) :: (d.lim, { cls := .type "tuple", data := .seq #[d.c.mv, .int d.c.span d.ts2, .int d.c.hold d.th2] }) :: gT d g rest) := by
  refine ⟨_, G.seen (ns := ns) hk hf T hl, rfl, rfl, rfl, rfl, rfl, fun q hq => ?_⟩
  have h1 := perm_sub (R := rest) (permT (a := gH5 d g.C g.cs g.nc)).symm q hq
  rw [List.append_assoc] at h1
  rcases List.mem_append.mp h1 with h1 | h1
  · exact List.mem_append_left _ h1
  · refine List.mem_append_right _ ?_
    have h2 := gA_sub (d := d) (g := { g with ss := g.ss ++ us, ns := ns }) (rest := rest) q h1
    unfold gT at h2 ⊢
    exact h2
theorem src_step {w : World} {d : GD} {g : GS} {rest : List (Addr × Obj)} {KP KR : Nat} {x y : Int} {tx ty : Tok} (G : Good w d g rest KP KR) (hx : 0 ≤ x) (hy : 0 ≤ y) :
    ∃ g1, Good w d g1 rest KP KR ∧ g1.PB = g.PB ∧ g1.RB = g.RB ∧ g1.cP = g.cP ∧ g1.cS = g.cS ∧
      ∀ q ∈ gW d g1 (gT d g1 rest), q ∈ (d.c.P, instObj 187 d.c.dP) :: (d.c.dP, d.c.d g.C) :: (d.rows, d.oS) :: (d.seen, listOf g.ss.toArray g.ns) :: (d.src, listOf #[.int x tx, .int y ty] g.nx) :: (d.lim, { cls := .type "tuple", data := .seq #[d.c.mv, .int d.c.span d.ts2, .int d.c.hold d.th2] }) :: gT d g rest := by
  refine ⟨{ g with x := x, y := y, tx := tx, ty := ty }, ⟨sep_addr G.sep rfl, G.okP, G.okR, G.adP, G.adR, G.tP, G.tS, G.lP, G.lS, hx, hy⟩, rfl, rfl, rfl, rfl, ?_⟩
  rw [gT_same]
  exact fun q hq => hq
theorem clear_step {w : World} {d : GD} {g : GS} {rest : List (Addr × Obj)} {KP KR ns : Nat} (G : Good w d g rest KP KR) :
    ∃ g2, Good w d g2 rest KP KR ∧ g2.PB = g.PB ∧ g2.RB = g.RB ∧ g2.cP = g.cP ∧ g2.cS = [] ∧ g2.cs = g.cs ∧ g2.tl = g.tl ∧
      ∀ q ∈ gA d g2 ++ rest, q ∈ (d.c.P, instObj 187 d.c.dP) :: (d.c.dP, d.c.d g.C) :: (d.rows, d.oS) :: (d.seen, listOf ([] : List Value).toArray ns) :: (d.src, listOf #[.int g.x g.tx, .int g.y g.ty] g.nx) :: (d.lim, { cls := .type "tuple", data := .seq #[d.c.mv, .int d.c.span d.ts2, .int d.c.hold d.th2] }) :: gT d g rest := by
  refine ⟨{ g with ss := [], ns := ns, cS := [] }, ⟨sep_addr G.sep rfl, G.okP, G.okR, G.adP, G.adR, G.tP, .nil, G.lP, Nat.zero_le _, G.x0, G.y0⟩, rfl, rfl, rfl, rfl, rfl, rfl, fun q hq => ?_⟩
  have h2 := gA_sub q hq
  unfold gT at h2 ⊢
  exact h2
theorem Good.rest {w : World} {d : GD} {g : GS} {R R' : List (Addr × Obj)} {KP KR : Nat} (G : Good w d g R KP KR) (h : Sep (gA d g) R') : Good w d g R' KP KR := ⟨h, G.okP, G.okR, G.adP, G.adR, G.tP, G.tS, G.lP, G.lS, G.x0, G.y0⟩
theorem Good.more {w : World} {d : GD} {g : GS} {R : List (Addr × Obj)} {KP KR : Nat} {a : Addr} {o : Obj} (G : Good w d g R KP KR) (h : Off a (gA d g ++ R)) : Good w d g ((a, o) :: R) KP KR :=
  G.rest ⟨G.sep.1, fun q hq => off_cons.mpr ⟨fun e => h q (List.mem_append_left _ hq) e.symm, G.sep.2 q hq⟩⟩
theorem Good.less {w : World} {d : GD} {g : GS} {R : List (Addr × Obj)} {KP KR : Nat} {a : Addr} {o : Obj} (G : Good w d g ((a, o) :: R) KP KR) : Good w d g R KP KR := G.rest (G.sep.mono fun _ hq => .tail _ hq)
theorem Good.ups {w : World} {d : GD} {g : GS} {R : List (Addr × Obj)} {KP KR KP' KR' : Nat} (G : Good w d g R KP KR) (h1 : KP ≤ KP') (h2 : KR ≤ KR') : Good w d g R KP' KR' :=
  ⟨G.sep, fun k hk => (G.okP k hk).up h1, fun k hk => (G.okR k hk).up h2, G.adP, G.adR, G.tP, G.tS, Nat.le_trans G.lP (Nat.mul_le_mul_left 3 h1), Nat.le_trans G.lS (Nat.mul_le_mul_left 3 h2), G.x0, G.y0⟩
theorem tl_in {d : GD} {g : GS} {R : List (Addr × Obj)} : ∀ q ∈ g.tl, q ∈ gA d g ++ R := fun q hq => List.mem_append_left _ (List.mem_append_right _ (List.mem_append_right _ (List.mem_append_right _ (List.mem_append_right _ hq))))
theorem rest_in {d : GD} {g : GS} {R : List (Addr × Obj)} : ∀ q ∈ R, q ∈ gA d g ++ R := fun q hq => List.mem_append_right _ hq
theorem more_sub {l R X : List (Addr × Obj)} {a : Addr} {o : Obj} (h : ∀ q ∈ l ++ R, q ∈ X) : ∀ q ∈ l ++ (a, o) :: R, q ∈ (a, o) :: X := fun q hq => by
  rcases List.mem_append.mp hq with hq | hq
  · exact .tail _ (h q (List.mem_append_left _ hq))
  · rcases List.mem_cons.mp hq with rfl | hq
    · exact .head _
    · exact .tail _ (h q (List.mem_append_right _ hq))
theorem off_gW {d : GD} {g : GS} {rest : List (Addr × Obj)} {a : Addr} (h : ∀ q ∈ gW d g (gT d g rest), q.1 < a) : Off a (gA d g ++ rest) := fun q hq => Nat.ne_of_lt (h q (gA_sub q hq))
theorem Good.sl {w : World} {d : GD} {g : GS} {rest : List (Addr × Obj)} {KP KR : Nat} (G : Good w d g rest KP KR) (hK : KR < 300) : g.ss.length < 1000 := by rw [G.tS.length]; have := G.lS; omega
theorem sep_one {a : Addr} {o : Obj} {R : List (Addr × Obj)} (h : Off a R) : Sep [(a, o)] R := sep_mk h sep_nil
theorem tups_if {a : Addr} {n : Int} {t : Tok} {b f : Bool} : TupsAre [(a, tupOf n t f)] (if b = true then [.ref a] else []) (if b = true then [(n, f)] else []) := by
  cases b
  · exact .nil
  · exact .cons (.head _) .nil
theorem len_if {b : Bool} {α : Type} {x : α} {l : List α} {K : Nat} (h : l.length ≤ 3 * K) : (l ++ (if b = true then [x] else [])).length ≤ 3 * (K + 1) := by
  rw [List.length_append]
  cases b
  · show l.length + 0 ≤ _; omega
  · show l.length + 1 ≤ _; omega
/-- what was let go is written down -/
theorem go_step {w : World} {d : GD} {g : GS} {rest : List (Addr × Obj)} {KP KR ns : Nat} {t : List (Addr × Obj)} {ys : List Value} {ps : List (Int × Bool)} {fl D : Addr} {o oD : Obj} (G : Good w d g rest KP KR) (ofl : Off fl (gA d g ++ rest)) (hs : Sep t ((fl, o) :: gW d g (gT d g rest)))
   (T : TupsAre t ys ps) (hl : (g.cS ++ ps).length ≤ 3 * KR) (hD : Off D (t ++ (fl, o) :: gW d g (gT d g rest))) :
    (∃ g3, Good w d g3 ((fl, o) :: rest) KP KR ∧ g3.PB = g.PB ∧ g3.RB = g.RB ∧ g3.cP = g.cP ∧ g3.cS = g.cS ++ ps ∧
      ∀ q ∈ gA d g3 ++ (fl, o) :: rest, q ∈ (d.c.P, instObj 187 d.c.dP) :: (d.c.dP, d.c.d g.C) :: (d.rows, d.oS) :: (d.seen, listOf (g.ss ++ ys).toArray ns) :: (d.src, listOf #[.int g.x g.tx, .int g.y g.ty] g.nx) :: (d.lim, { cls := .type "tuple", data := .seq #[d.c.mv, .int d.c.span d.ts2, .int d.c.hold d.th2] }) :: (fl, o) :: (gT d g rest ++ t)) ∧
    UpdF d.seen (listOf g.ss.toArray g.ns) ((D, oD) :: gW d g ((fl, o) :: (gT d g rest ++ t))) (fun o' => (D, oD) :: (d.c.P, instObj 187 d.c.dP) :: (d.c.dP, d.c.d g.C) :: (d.rows, d.oS) :: (d.seen, o') :: (d.src, listOf #[.int g.x g.tx, .int g.y g.ty] g.nx) :: (d.lim, { cls := .type "tuple", data := .seq #[d.c.mv, .int d.c.span d.ts2, .int d.c.hold d.th2] }) :: (fl, o) :: (gT d g rest ++ t)) := by
  have h1 : Off fl (gW d g (gT d g rest)) := off_sub ofl gW_sub
  constructor
  · obtain ⟨g3, G3, a1, a2, a3, a4, _, sub3⟩ := seen_step (ns := ns) G (Nat.le_refl _) (hs.mono fun q hq => .tail _ (gA_sub q hq)) T hl
    refine ⟨g3, G3.more fun q hq => ?_, a1, a2, a3, a4, fun q hq => ?_⟩
    · rcases List.mem_append.mp (sub3 q hq) with h | h
      · exact (hs.2 q h _ (.head _)).symm
      · refine off_as 0 h1 ?_ q h
        exact rfl
    · have h := more_sub sub3 q hq
      rcases List.mem_cons.mp h with rfl | h
      · exact mm6
      · rcases List.mem_append.mp h with h | h
        · exact md7 (List.mem_append_right _ h)
        · exact sub_cons mm0 (sub_cons mm1 (sub_cons mm2 (sub_cons mm3 (sub_cons mm4 (sub_cons mm5 fun q hq => md7 (List.mem_append_left _ hq)))))) q h
  · obtain ⟨p1, p2, p3, p4, _, _⟩ := gSep G
    obtain ⟨p5, p6⟩ := off_cons.mp p4
    obtain ⟨p7, p8⟩ := off_cons.mp p6
    exact .tail (hD (d.seen, listOf g.ss.toArray g.ns) (List.mem_append_right _ (.tail _ mm3))).symm (.tail (p1 _ mm2).symm (.tail (p2 _ mm1).symm (.tail (p3 _ mm0).symm (.head (off_cons.mpr ⟨p5, off_cons.mpr ⟨p7, off_cons.mpr ⟨(h1 (d.seen, listOf g.ss.toArray g.ns) mm3).symm,
      off_append.mpr ⟨p8, fun q hq => (hs.2 q hq (d.seen, listOf g.ss.toArray g.ns) (.tail _ mm3)).symm⟩⟩⟩⟩)))))
theorem go_sub {d : GD} {g : GS} {T t : List (Addr × Obj)} {x y : Addr × Obj} : ∀ q ∈ y :: gW d g (x :: (T ++ t)), q ∈ y :: (t ++ x :: gW d g T) :=
  sub_cons mm0 (sub_cons (.tail _ (List.mem_append_right _ mm1)) (sub_cons (.tail _ (List.mem_append_right _ mm2)) (sub_cons (.tail _ (List.mem_append_right _ mm3)) (sub_cons (.tail _ (List.mem_append_right _ mm4)) (sub_cons (.tail _ (List.mem_append_right _ mm5))
    (sub_cons (.tail _ (List.mem_append_right _ mm6)) (sub_cons (.tail _ (List.mem_append_right _ mm0)) fun _ hq => .tail _ ((List.mem_append.mp hq).elim (fun h => List.mem_append_right _ (md7 h)) fun h => List.mem_append_left _ h))))))))
theorem go_end {g g1 g2 g3 g4 : GS} {span now : Int} (hS : ∀ n, In3 n → Sync span now (g.PB n).x (g.RB n).y) (hc : g.cP = g.cS) (f1 : g1.PB = g.PB) (f2 : g1.RB = g.RB) (f3 : g1.cP = g.cP) (f4 : g1.cS = g.cS) (e2 : g2.PB = g1.PB) (e3 : g2.cP = g1.cP) (e4 : g2.cS = g1.cS)
   (hB : ∀ k, In3 k → (g2.RB k).y = (goRow now (g1.RB k).y).1) (a1 : g3.PB = g2.PB) (a2 : g3.RB = g2.RB) (a3 : g3.cP = g2.cP) (a4 : g3.cS = g2.cS ++ (goneG (fun n => (goRow now (g1.RB n).y).2) 3).map fun n => (n, true))
   (b1 : g4.RB = g3.RB) (b2 : g4.cS = g3.cS) (b3 : g4.cP = g3.cP ++ (goneG (fun n => (prtGo now (g3.PB n).x).2) 3).map fun n => (n, true)) (hB4 : ∀ k, In3 k → (g4.PB k).x = (prtGo now (g3.PB k).x).1) :
   goneG (fun n => (prtGo now (g3.PB n).x).2) 3 = goneG (fun n => (goRow now (g1.RB n).y).2) 3 ∧ g4.cP = g4.cS ∧ ∀ m, In3 m → Sync span now (g4.PB m).x (g4.RB m).y := by
  have eP : g3.PB = g.PB := a1.trans (e2.trans f1)
  rw [eP] at b3 hB4
  rw [f2] at a4 hB
  have h := goneG_congr fun n hn => (sync_go (hS n hn)).1
  refine ⟨by rw [eP, f2]; exact h, ?_, fun m hm => ?_⟩
  · rw [b3, b2, a4, a3, e3, e4, f3, f4, hc, h]
  · rw [b1, a2, hB4 m hm, hB m hm]
    exact (sync_go (hS m hm)).2
theorem deed_end {g g1 g2 g3 g4 : GS} {n span now : Int} {k k4 : Res} {f : Bool} {S : Str} {isF : Res → Bool} {fP : PW → PW × Res} {fR : Row → Row × Res} (hF : ∀ k : Res, (k.str == S) = isF k) (hs : ∀ x y, Sync span now x y → (fP x).2 = (fR y).2 ∧ Sync span now (fP x).1 (fR y).1)
   (hS : ∀ n, In3 n → Sync span now (g.PB n).x (g.RB n).y) (hc : g.cP = g.cS) (hn : In3 n) (f1 : g1.PB = g.PB) (f2 : g1.RB = g.RB) (f3 : g1.cP = g.cP) (f4 : g1.cS = g.cS) (e2 : g2.PB = g1.PB) (e3 : g2.cP = g1.cP) (e4 : g2.cS = g1.cS) (hk : k = (fR (g1.RB n).y).2) (hB : onR g1 n (fR (g1.RB n).y).1 g2.RB)
   (a1 : g3.PB = g2.PB) (a2 : g3.RB = g2.RB) (a3 : g3.cP = g2.cP) (a4 : g3.cS = g2.cS ++ if (k.str == S) = true then [(n, f)] else []) (hk4 : k4 = (fP (g3.PB n).x).2) (b1 : g4.RB = g3.RB) (b2 : g4.cS = g3.cS) (b3 : g4.cP = g3.cP ++ if isF k4 = true then [(n, f)] else []) (hB4 : onP g3 n (fP (g3.PB n).x).1 g4.PB) :
   Value.bool (k4.str == k.str) = .bool true ∧ g4.cP = g4.cS ∧ ∀ m, In3 m → Sync span now (g4.PB m).x (g4.RB m).y := by
  have eP : g3.PB = g.PB := a1.trans (e2.trans f1)
  rw [eP] at hk4 hB4
  rw [f2] at hk hB
  have h1 := hs _ _ (hS n hn)
  have ek : k4 = k := by rw [hk4, hk, h1.1]
  refine ⟨by rw [ek, beq_self_eq_true], ?_, fun m hm => ?_⟩
  · rw [b3, b2, a4, a3, e3, e4, f3, f4, hc, hF, ek]
  · rw [b1, a2, hB4 m, hB m, eP, f2]
    by_cases e : m = n
    · rw [if_pos e, if_pos e]; exact h1.2
    · rw [if_neg e, if_neg e]; exact hS m hm
theorem deed_spec (w : World) (d : GD) (g : GS) (rest : List (Addr × Obj)) (K : Nat) (most : Option Int) (now : Int) (tn : Tok) (D : DOk w d most) (G : Good w d g rest K K) (hK : K < 200) (hc : g.cP = g.cS) (hS : ∀ n, In3 n → Sync d.c.span now (g.PB n).x (g.RB n).y) :
   Spec 5 w 248 [.ref d.src, .ref d.c.P, .ref d.rows, .ref d.seen, .int now tn, .ref d.lim] (gA d g ++ rest)
     (fun r nx => r = .bool true ∧ ∃ g', nx = gA d g' ++ rest ∧ Good w d g' rest (K + 1) (K + 1) ∧ g'.cP = g'.cS ∧ ∀ n, In3 n → Sync d.c.span now (g'.PB n).x (g'.RB n).y) := by
  intro dp' un gd cn cs' a ccd cl outer A₀ base h₀ L m p' loose mean mg mb s Q E B F X N T hk hd hu hret
  obtain ⟨q_P, q_dP, q_rows, q_seen, q_src, q_lim⟩ := gSep G
  replace N := news_drop N gW_sub
  have hx := G.x0
  have hy := G.y0
  refine wpAny_call ?_
  k_dflt cell_enter
  repeat' ((fail_if_success (with_reducible show wpAny _ _ (exec (Stmt.If _ _ _ _) _) _ _ _)); first | (k_unfold; (try dsimp only)) | (k_end; wrow_close) | walk1 | (dsimp only; walk1) | (leave1; try dsimp only))
  have hn : In3 (1 + i9) := by
    obtain ⟨h1, h2⟩ := hT9
    unfold In3
    omega
  obtain ⟨g1, G1, f1, f2, f3, f4, sub1⟩ := src_step (tx := tx9) (ty := ty9) G hx9 hy9
  have N2 := news_drop (news := gW d g1 (gT d g1 rest)) (by assumption) fun q hq => List.Mem.tail _ (sub1 q hq)
  have hSr := D.hS
  have hSl : valueAt [(1, Value.ref (d.ra 1)), (2, .ref (d.ra 2)), (3, .ref (d.ra 3))] (1 + i9) = some (.ref (d.ra (1 + i9))) := val3r hn

  repeat' ((fail_if_success (with_reducible show wpAny _ _ (call (Value.ref 229) _) _ _ _)); (fail_if_success (with_reducible show wpAny _ _ (call (Value.ref 163) _) _ _ _)); (fail_if_success (with_reducible show wpAny _ _ (call (Value.ref 236) _) _ _ _)); (fail_if_success (with_reducible show wpAny _ _ (call (Value.ref 170) _) _ _ _)); (fail_if_success (with_reducible show wpAny _ _ (call (Value.ref 243) _) _ _ _)); (fail_if_success (with_reducible show wpAny _ _ (call (Value.ref 177) _) _ _ _)); (fail_if_success (with_reducible show wpAny _ _ (call (Value.ref 184) _) _ _ _)); (fail_if_success (with_reducible show wpAny _ _ (exec (Stmt.Expr _ _) _) _ _ _)); first | (k_unfold; (try dsimp only)) | (k_end; wrow_close) | walk1 | (dsimp only; walk1) | (leave1; try dsimp only))
  · refine (lup_g D G1 hn (by omega)).use (by assumption) (by assumption) (by assumption) N2 gA_sub (by assumption) (by first | exact rfl | assumption) (by k_room) (by k_units) ?_
    rintro r nx h' tk' ⟨g2, k, tk, rfl, rfl, G2, e2, e3, e4, hk2, hB⟩ F' N'
    replace N' := news_drop N' gW_sub
    obtain ⟨q_P, q_dP, q_rows, q_seen, q_src, q_lim⟩ := gSep G2
    have hsl := G2.sl (by omega)
    repeat' ((fail_if_success (with_reducible show wpAny _ _ (call (Value.builtin "list.extend") _) _ _ _)); (fail_if_success (with_reducible show wpAny _ _ (call (Value.ref 229) _) _ _ _)); (fail_if_success (with_reducible show wpAny _ _ (call (Value.ref 163) _) _ _ _)); (fail_if_success (with_reducible show wpAny _ _ (call (Value.ref 236) _) _ _ _)); (fail_if_success (with_reducible show wpAny _ _ (call (Value.ref 170) _) _ _ _)); (fail_if_success (with_reducible show wpAny _ _ (call (Value.ref 243) _) _ _ _)); (fail_if_success (with_reducible show wpAny _ _ (call (Value.ref 177) _) _ _ _)); (fail_if_success (with_reducible show wpAny _ _ (call (Value.ref 184) _) _ _ _)); first | (k_unfold; (try dsimp only)) | (k_end; wrow_close) | walk1 | (dsimp only; walk1) | (leave1; try dsimp only))
    refine' ext_at ?xk1 ?xk2 ?xk3 ?xk4 ?xk5 ?xk6 ?_
    case xk1 => k_asm
    case xk2 => k_asm
    case xk3 => k_mem
    case xk4 => k_updF
    case xk5 => assumption
    case xk6 => exact len_if1
    k_whole
    intro n9 h' F' N'
    (try dsimp only at N')
    (try k_sweep)
    repeat' ((fail_if_success (with_reducible show wpAny _ _ (call (Value.ref 229) _) _ _ _)); (fail_if_success (with_reducible show wpAny _ _ (call (Value.ref 163) _) _ _ _)); (fail_if_success (with_reducible show wpAny _ _ (call (Value.ref 236) _) _ _ _)); (fail_if_success (with_reducible show wpAny _ _ (call (Value.ref 170) _) _ _ _)); (fail_if_success (with_reducible show wpAny _ _ (call (Value.ref 243) _) _ _ _)); (fail_if_success (with_reducible show wpAny _ _ (call (Value.ref 177) _) _ _ _)); (fail_if_success (with_reducible show wpAny _ _ (call (Value.ref 184) _) _ _ _)); first | (k_unfold; (try dsimp only)) | (k_end; wrow_close) | walk1 | (dsimp only; walk1) | (leave1; try dsimp only))
    obtain ⟨g3, G3, a1, a2, a3, a4, a5, sub3⟩ := seen_step (ns := n9) G2 (Nat.le_refl _) (sep_one (o := tupOf (1 + i9) tk9 true) (off_gW (by assumption))) (tups_if (b := k.str == Str.ofString "up")) (by rw [e4, f4]; exact len_if G.lS)
    refine (pup_g D G3 hn (by omega)).use (by assumption) (by assumption) (by assumption) N' (fun q hq => md2 (sub3 q hq)) (by assumption) (by first | exact rfl | assumption) (by k_room) (by k_units) ?_
    rintro r nx h' tk' ⟨g4, k4, tk4, rfl, hk4, rfl, G4, b1, b2, b3, hB4⟩ F' N'
    k_steps
    obtain ⟨z1, z2, z3⟩ := deed_end Res.str_up (fun _ _ => sync_up) hS hc hn f1 f2 f3 f4 e2 e3 e4 hk2 hB a1 a2 a3 a4 hk4 b1 b2 b3 hB4
    exact hret _ _ _ _ ⟨z1, g4, rfl, G4, z2, z3⟩ (by assumption) (by assumption)
  · refine (ldown_g G1 hn).use (by assumption) (by assumption) (by assumption) N2 gA_sub (by assumption) (by first | exact rfl | assumption) (by k_room) (by k_units) ?_
    rintro r nx h' tk' ⟨g2, k, tk, rfl, rfl, G2, e2, e3, e4, hk2, hB⟩ F' N'
    replace N' := news_drop N' gW_sub
    obtain ⟨q_P, q_dP, q_rows, q_seen, q_src, q_lim⟩ := gSep G2
    have hsl := G2.sl (by omega)
    repeat' ((fail_if_success (with_reducible show wpAny _ _ (call (Value.builtin "list.extend") _) _ _ _)); (fail_if_success (with_reducible show wpAny _ _ (call (Value.ref 229) _) _ _ _)); (fail_if_success (with_reducible show wpAny _ _ (call (Value.ref 163) _) _ _ _)); (fail_if_success (with_reducible show wpAny _ _ (call (Value.ref 236) _) _ _ _)); (fail_if_success (with_reducible show wpAny _ _ (call (Value.ref 170) _) _ _ _)); (fail_if_success (with_reducible show wpAny _ _ (call (Value.ref 243) _) _ _ _)); (fail_if_success (with_reducible show wpAny _ _ (call (Value.ref 177) _) _ _ _)); (fail_if_success (with_reducible show wpAny _ _ (call (Value.ref 184) _) _ _ _)); first | (k_unfold; (try dsimp only)) | (k_end; wrow_close) | walk1 | (dsimp only; walk1) | (leave1; try dsimp only))
    refine' ext_at ?xk1 ?xk2 ?xk3 ?xk4 ?xk5 ?xk6 ?_
    case xk1 => k_asm
    case xk2 => k_asm
    case xk3 => k_mem
    case xk4 => k_updF
    case xk5 => assumption
    case xk6 => exact len_if1
    k_whole
    intro n9 h' F' N'
    (try dsimp only at N')
    (try k_sweep)
    repeat' ((fail_if_success (with_reducible show wpAny _ _ (call (Value.ref 229) _) _ _ _)); (fail_if_success (with_reducible show wpAny _ _ (call (Value.ref 163) _) _ _ _)); (fail_if_success (with_reducible show wpAny _ _ (call (Value.ref 236) _) _ _ _)); (fail_if_success (with_reducible show wpAny _ _ (call (Value.ref 170) _) _ _ _)); (fail_if_success (with_reducible show wpAny _ _ (call (Value.ref 243) _) _ _ _)); (fail_if_success (with_reducible show wpAny _ _ (call (Value.ref 177) _) _ _ _)); (fail_if_success (with_reducible show wpAny _ _ (call (Value.ref 184) _) _ _ _)); first | (k_unfold; (try dsimp only)) | (k_end; wrow_close) | walk1 | (dsimp only; walk1) | (leave1; try dsimp only))
    obtain ⟨g3, G3, a1, a2, a3, a4, a5, sub3⟩ := seen_step (ns := n9) G2 (Nat.le_refl _) (sep_one (o := tupOf (1 + i9) tk9 false) (off_gW (by assumption))) (tups_if (b := k.str == Str.ofString "down")) (by rw [e4, f4]; exact len_if G.lS)
    refine (pdown_g D G3 hn (by omega)).use (by assumption) (by assumption) (by assumption) N' (fun q hq => md2 (sub3 q hq)) (by assumption) (by first | exact rfl | assumption) (by k_room) (by k_units) ?_
    rintro r nx h' tk' ⟨g4, k4, tk4, rfl, hk4, rfl, G4, b1, b2, b3, hB4⟩ F' N'
    k_steps
    obtain ⟨z1, z2, z3⟩ := deed_end Res.str_down (fun _ _ => sync_down) hS hc hn f1 f2 f3 f4 e2 e3 e4 hk2 hB a1 a2 a3 a4 hk4 b1 b2 b3 hB4
    exact hret _ _ _ _ ⟨z1, g4, rfl, G4, z2, z3⟩ (by assumption) (by assumption)
  · refine (lgo_g D G1 (by omega)).use (by assumption) (by assumption) (by assumption) N2 gA_sub (by assumption) (by first | exact rfl | assumption) (by k_room) (by k_units) ?_
    rintro r nx h' tk' ⟨fl, vs, nf, g2, rfl, rfl, ofl, hvs, G2, e2, e3, e4, hB⟩ F' N'
    have G2' := G2.more (o := listOf vs.toArray nf) ofl
    have hvl : vs.length < 1000 := by rw [hvs.length]; exact Nat.lt_of_le_of_lt (goneG_len _ _) (by decide)
    have hsl := G2.sl (by omega)
    replace N' := news_drop (news := (fl, listOf vs.toArray nf) :: gW d g2 (gT d g2 rest)) N' (sub_cons (.head _) fun q hq => .tail _ (gW_sub q hq))
    repeat' ((fail_if_success (with_reducible show wpAny _ _ (call (Value.builtin "list.extend") _) _ _ _)); (fail_if_success (with_reducible show wpAny _ _ (call (Value.ref 229) _) _ _ _)); (fail_if_success (with_reducible show wpAny _ _ (call (Value.ref 163) _) _ _ _)); (fail_if_success (with_reducible show wpAny _ _ (call (Value.ref 236) _) _ _ _)); (fail_if_success (with_reducible show wpAny _ _ (call (Value.ref 170) _) _ _ _)); (fail_if_success (with_reducible show wpAny _ _ (call (Value.ref 243) _) _ _ _)); (fail_if_success (with_reducible show wpAny _ _ (call (Value.ref 177) _) _ _ _)); (fail_if_success (with_reducible show wpAny _ _ (call (Value.ref 184) _) _ _ _)); first | (k_unfold; (try dsimp only)) | (k_end; wrow_close) | walk1 | (dsimp only; walk1) | (leave1; try dsimp only))
    have go := fun ns => go_step (ns := ns) (oD := LCg.lst ys9) G2 ofl hsep9 hys9 (by rw [List.length_append, List.length_map, e4, f4]; have h1 := goneG_len (fun n => (goRow now (g1.RB n).y).2) 3; have h2 := G.lS; omega) (by assumption)
    have N3 := news_drop N' go_sub
    refine ext_at (by assumption) N3 (.head _) (go 0).2 hsl (by rw [hys9.length, List.length_map]; exact Nat.lt_of_le_of_lt (goneG_len _ _) (by decide)) ?_
    intro n9 h' F' N'
    obtain ⟨g3, G3, a1, a2, a3, a4, sub3⟩ := (go n9).1
    repeat' ((fail_if_success (with_reducible show wpAny _ _ (call (Value.ref 229) _) _ _ _)); (fail_if_success (with_reducible show wpAny _ _ (call (Value.ref 163) _) _ _ _)); (fail_if_success (with_reducible show wpAny _ _ (call (Value.ref 236) _) _ _ _)); (fail_if_success (with_reducible show wpAny _ _ (call (Value.ref 170) _) _ _ _)); (fail_if_success (with_reducible show wpAny _ _ (call (Value.ref 243) _) _ _ _)); (fail_if_success (with_reducible show wpAny _ _ (call (Value.ref 177) _) _ _ _)); (fail_if_success (with_reducible show wpAny _ _ (call (Value.ref 184) _) _ _ _)); first | (k_unfold; (try dsimp only)) | (k_end; wrow_close) | walk1 | (dsimp only; walk1) | (leave1; try dsimp only))
    refine (exp_g D G3 (by omega)).use (by assumption) (by assumption) (by assumption) N' (fun q hq => .tail _ (sub3 q hq)) (by assumption) (by first | exact rfl | assumption) (by k_room) (by k_units) ?_
    rintro r nx h' tk' ⟨fl2, vs2, nf2, g4, rfl, rfl, ofl2, hvs2, G4, b1, b2, b3, hB4⟩ F' N'
    obtain ⟨z1, z2, z3⟩ := go_end hS hc f1 f2 f3 f4 e2 e3 e4 hB a1 a2 a3 a4 b1 b2 b3 hB4
    repeat' ((fail_if_success (with_reducible show wpAny _ _ (compareOp _ _ _) _ _ _)); first | (k_unfold; (try dsimp only)) | (k_end; wrow_close) | walk1 | (dsimp only; walk1) | (leave1; try dsimp only))
    refine eq_ints N' (.head _) (.tail _ (rest_in _ (.head _))) hvs2 (by rw [z1]; exact hvs) (by k_units) ?_
    k_steps
    exact hret _ _ _ _ ⟨rfl, g4, rfl, G4.less, z2, z3⟩ (by assumption) (news_drop (by assumption) fun q hq => .tail _ ((List.mem_append.mp hq).elim (fun h => List.mem_append_left _ h) fun h => List.mem_append_right _ (.tail _ h)))
  · obtain ⟨q_P, q_dP, q_rows, q_seen, q_src, q_lim⟩ := gSep G1
    have hsl := G1.sl (by omega)
    repeat' ((fail_if_success (with_reducible show wpAny _ _ (call (Value.ref 229) _) _ _ _)); (fail_if_success (with_reducible show wpAny _ _ (call (Value.ref 163) _) _ _ _)); (fail_if_success (with_reducible show wpAny _ _ (call (Value.ref 236) _) _ _ _)); (fail_if_success (with_reducible show wpAny _ _ (call (Value.ref 170) _) _ _ _)); (fail_if_success (with_reducible show wpAny _ _ (call (Value.ref 243) _) _ _ _)); (fail_if_success (with_reducible show wpAny _ _ (call (Value.ref 177) _) _ _ _)); (fail_if_success (with_reducible show wpAny _ _ (call (Value.ref 184) _) _ _ _)); first | (k_unfold; (try dsimp only)) | (k_end; wrow_close) | walk1 | (dsimp only; walk1) | (leave1; try dsimp only))
    obtain ⟨g2, G2, a1, a2, a3, a4, a5, a6, sub2⟩ := clear_step (ns := n9) G1
    refine (chg_g (G2.more (off_sub (by exact lt_as 0 (by assumption : ∀ q ∈ gW d g1 (gT d g1 rest), q.1 < D9) rfl) sub2))).use (by assumption) (by assumption) (by assumption) N' (more_sub sub2) (by assumption) (by first | exact rfl | assumption) (by k_room) (by k_units) ?_
    rintro r nx h' tk' ⟨rfl, g4, rfl, oC, G4, b1, b2, b3, b4, b5, b6⟩ F' N'
    repeat' ((fail_if_success (with_reducible show wpAny _ _ (compareOp _ _ _) _ _ _)); first | (k_unfold; (try dsimp only)) | (k_end; wrow_close) | walk1 | (dsimp only; walk1) | (leave1; try dsimp only))
    refine eq_tups (tl := g4.tl) (ps := g.cP) N' (.head _) (.tail _ (rest_in _ (.head _))) (fun q hq => .tail _ (tl_in q hq)) (by rw [b6]; have h := G2.tP; rw [a3, f3] at h; exact h) (by rw [b6, a6, hc, ← f4]; exact G1.tS) (by k_units) ?_
    k_steps
    exact hret _ _ _ _ ⟨rfl, g4, rfl, G4.less.ups (Nat.le_succ _) (Nat.le_succ _), b3.trans (b4.trans a4).symm, fun m hm => by rw [b1, a1, f1, b2, a2, f2]; exact hS m hm⟩ (by assumption) (news_drop (by assumption) fun q hq => .tail _ ((List.mem_append.mp hq).elim (fun h => List.mem_append_left _ h) fun h => List.mem_append_right _ (.tail _ h)))
end
section
example : True := by
  k_with_none
  k_with "K_ALL" => (first | assumption | exact List.forall_mem_nil _ | (refine' off_as 0 ?h8 ?m8; (case h8 => assumption); (case m8 => k_dflt (exact rfl))) | (refine' lt_as 0 ?h7 ?m7; (case h7 => assumption); (case m7 => k_dflt (exact rfl))) | (refine' off_c ?a9 ?b9; (case a9 => k_ne); (case b9 => k_all)) | (refine' List.forall_mem_cons.mpr ⟨?a, ?b⟩; (case a => k_ne); (case b => k_all)) | (refine' lt_off ?h9 ?m9; (case h9 => assumption); (case m9 => intro q9 hq9; (repeat (first | exact hq9 | refine List.Mem.tail _ ?_)))) | (refine' off_sub ?h9 ?m9; (case h9 => assumption); (case m9 => intro q9 hq9; (repeat (first | exact hq9 | refine List.Mem.tail _ ?_)))))
  k_with "K_NE" => (first | assumption | exact Ne.symm (by assumption) | (refine' lt_ne ?h9 ?m9; (case h9 => assumption); (case m9 => k_mem)) | (refine' lt_ne' ?h9 ?m9; (case h9 => assumption); (case m9 => k_mem)) | (refine' off_ne ?h9 ?m9; (case h9 => assumption); (case m9 => k_mem)) | (refine' off_ne' ?h9 ?m9; (case h9 => assumption); (case m9 => k_mem)) | (refine' lt_ne1 ?h9 ?m9; (case h9 => assumption); (case m9 => k_mem)) | (refine' lt_ne1' ?h9 ?m9; (case h9 => assumption); (case m9 => k_mem)) | (refine' lt_ne2 ?h9 ?m9; (case h9 => assumption); (case m9 => k_mem)) | (refine' lt_ne2' ?h9 ?m9; (case h9 => assumption); (case m9 => k_mem)) | (refine' lt_ne3 ?h9 ?m9; (case h9 => assumption); (case m9 => k_mem)) | (refine' lt_ne3' ?h9 ?m9; (case h9 => assumption); (case m9 => k_mem)) | (refine neN ?_; (try dsimp only); omega))
  k_with "K_MEM" => (first | with_reducible assumption | exact mm0 | exact mm1 | exact mm2 | exact mm3 | exact mm4 | exact mm5 | exact mm6 | exact mm7 | exact mm8 | exact mm9 | exact mm10 | exact mm11 | exact mm12 | ((repeat (first | with_reducible assumption | exact List.Mem.head _ | (refine mem_in ?_; with_reducible assumption) | refine' List.Mem.tail _ ?_)); done))
  k_with "K_SUB" => (first | exact hq | exact md1 hq | exact md2 hq | exact md3 hq | exact md4 hq | exact md5 hq | exact md6 hq | exact md7 hq | exact md8 hq | exact md9 hq | exact md10 hq | exact md11 hq | exact md12 hq | exact md13 hq | exact md14 hq | (repeat (first | exact hq | refine List.Mem.tail _ ?_)))
  k_with "ENTER" => (first | (refine' code_def ?k1 ?k2 ?k3 ?k4 ?k5 ?kA ?kF ?kK ?k6 ?k7 ?k8 ?k9 ?kB ?_ ?c2 ?c3 ?c4 ?c5; (case kA => exact rfl); (case kF => exact rfl); (case kK => first | assumption | exact rfl); (case k1 => k_asm); (case k2 => k_asm); (case k3 => k_asm); (case k4 => k_asm); (case k5 => k_asm); (case k6 => k_is); (case k7 => k_is); (case k8 => k_room); (case k9 => first | exact BindsTo.of_eq rfl | exact binds_K (by k_in) rfl (by k_is) rfl rfl rfl); (case c5 => decide); (case kB => exact locs rfl); (case c2 => exact rfl); (case c3 => exact rfl); (case c4 => exact rfl); k_whole; intro g' L' h' FG' F' N' B' X' T'; (try dsimp only); (try k_lift B'); (try k_fold)) | (refine' code_defC ?k1 ?k2 ?k3 ?k4 ?k5 ?kA ?kF ?kK ?k6 ?k7 ?k8 ?k9 ?kB ?kD ?_ ?c2 ?c3 ?c4; (case kA => exact rfl); (case kF => exact rfl); (case kK => first | assumption | exact rfl); (case k1 => k_asm); (case k2 => k_asm); (case k3 => k_asm); (case k4 => k_asm); (case k5 => k_asm); (case k6 => k_is); (case k7 => k_is); (case k8 => k_room); (case k9 => first | exact BindsTo.of_eq rfl | exact binds_K (by k_in) rfl (by k_is) rfl rfl rfl); (case kB => exact rfl); (case kD => decide +kernel); (case c2 => exact rfl); (case c3 => exact rfl); (case c4 => exact rfl); k_whole; intro g' L' h' tk' cells' FG' F' N' Y' B' X' T' l1; (try k_lt l1); k_cells Y'; (try simp only [List.cons_append, List.nil_append] at N'); (try dsimp only); (try k_lift B'); (try k_fold)))
  k_with "X FinE" => (((unfold LCg.FinE); intro D' h' tk' F' N' o1'; (have oD' := off_of_off1 o1'); (clear o1'); (try simp only [List.nil_append, List.cons_append] at N'); (try dsimp only)))
  k_with "X ALC" => ((k_here; with_reducible refine plainObj_wpAny_Assign_Attribute ?_ ?_; rotate_left; with_unfolding_all rfl))
  k_with "X FinA" => ((unfold LCg.FinA); intro upsA h' tk' F' N' o1'; (have oU := off_of_off1 o1'); (clear o1'); (try simp only [List.nil_append, List.cons_append] at N'); (try dsimp only))
  k_with "X FOR" => ((k_here; (rename Fr _ _ _ _ => lF'); (with_unfolding_all refine' For_invVF lF' ?k1 ?k2 ?_; (case k1 => exact rfl); (case k2 => exact rfl); k_whole)))
  k_with "K_ROOM" => (first | k_dflt (first | exact room_0 hd | exact room_of 1 hd | exact room_of 2 hd | exact room_of 3 hd | exact room_of 4 hd | exact room_of 5 hd | exact room_of 6 hd | exact room_of 7 hd | exact room_of 8 hd) | ktr_room)
  k_with "K_UNITS" => (first | k_dflt (first | exact units_of 103 hu | exact units_of 303 hu | exact units_of 203 hu | exact units_of 67 hu | exact units_of 503 hu | exact units_of 403 hu) | ktr_units)
  k_with "binaryOp Add ref ref" => (k_here; (with_reducible show wpAny _ _ (binaryOp _ (Value.ref _) (Value.ref _)) _ _ _); k_dflt (refine' addl_at ?k1 ?k2 ?k3 ?k4 ?k5 ?k6 ?_; (case k1 => k_asm); (case k2 => k_asm); (case k3 => k_mem); (case k4 => k_mem); (case k5 => first | assumption | decide | (simp only [List.length_cons, List.length_nil]; omega)); (case k6 => first | assumption | decide | (simp only [List.length_cons, List.length_nil]; omega)); k_whole); intro l' h' F' N' l1; (try k_lt l1); (try k_sweep))
  k_with "CompSrcT" => (k_here; k_dflt (refine LCt.CompSrcT.ledger (by rfl) (by k_asm) (by k_asm) (by k_mem) (by rw [sizeLine_eq, List.size_toArray]; omega) ?_); intro g'; k_dflt (refine' rest_filter _ ?hf ?hi ?hS (fun i9 t9 I9 oI9 C9 oC9 D9 ys9 m9 h' tk9 E9 hi9 hC9 hx9 F' N' off9 ne9 => ?_) (fun ys9 hys9 => ?_); (case hf => assumption); (case hi => assumption); (case hS => exact Or.inr ⟨_, by k_mem, rfl, _, rfl⟩)); (try k_fold))
  k_with "TestEnd" => (refine TestEnd.intro ?_ (by k_asm) (by k_asm); rfl)
  k_with "call builtin:len cons nil" => (k_here; (with_reducible show wpAny _ _ (call (Value.builtin "len") [Value.ref _]) _ _ _); k_dflt (refine' len_filt ?k1 ?k2 ?k3 ?k4 ?k5 ?_; (case k1 => k_asm); (case k2 => k_mem); (case k3 => assumption); (case k4 => assumption); (case k5 => assumption); k_whole))
  k_with "subscriptTail Attribute Name Name ref int" => (k_here; (with_reducible show wpAny _ _ (subscriptTail _ _ (Value.ref _) (Value.int _ _)) _ _ _); (try (k_dflt (refine kba_turn (value' := PySem.Expr.Name (PySem.Str.ofString "_") ⟨0, 0, 0, 0⟩) (fun _ => rfl) ?_))); k_dflt (refine' kda_item (knd := PySem.intKind _ _) ?N ?m ?d (intKind_is _ _ _ _) ?l ?_; (case N => k_asm); (case m => k_mem); (case d => assumption); (case l => assumption); k_whole))
  k_with "subscriptTail Name Name ref int" => (k_here; (with_reducible show wpAny _ _ (subscriptTail _ _ (Value.ref _) (Value.int _ _)) _ _ _); (try (k_dflt (refine kba_turn (value' := PySem.Expr.Name (PySem.Str.ofString "_") ⟨0, 0, 0, 0⟩) (fun _ => rfl) ?_))); k_dflt (refine' kda_item (knd := PySem.intKind _ _) ?N ?m ?d (intKind_is _ _ _ _) ?l ?_; (case N => k_asm); (case m => k_mem); (case d => assumption); (case l => assumption); k_whole))
  k_with "compareOp NotIn int ref" => (k_here; k_dflt (refine' kdg_notin (knd := PySem.intKind _ _) ?N ?m ?d ?lo (intKind_is _ _ _ _) true ?hb ?_; (case N => k_asm); (case m => k_mem); (case d => assumption); (case lo => assumption); (case hb => assumption); k_whole))
  k_with "call builtin:list.append nil" => (k_here; k_dflt (refine' append_at ?k1 ?k2 ?k3 ?k4 ?_; (case k1 => k_asm); (case k2 => k_asm); (case k3 => k_updF); (case k4 => first | assumption | exact filt_len (by assumption) (by assumption) (by assumption)); k_whole); intro h' F' N'; (try dsimp only at N'); (try k_sweep))
  k_with "call builtin:list.append cons nil" => (k_here; k_dflt (refine' append_at ?k1 ?k2 ?k3 ?k4 ?_; (case k1 => k_asm); (case k2 => k_asm); (case k3 => k_updF); (case k4 => first | assumption | exact filt_len (by assumption) (by assumption) (by assumption)); k_whole); intro h' F' N'; (try dsimp only at N'); (try k_sweep))
  k_with "call builtin:sorted cons nil" => (k_here; (with_reducible show wpAny _ _ (call (Value.builtin "sorted") [Value.ref _]) _ _ _); k_dflt (refine' sorted_at rfl ?k1 ?k2 ?k3 ?k4 ?k5 ?_; (case k1 => k_asm); (case k2 => k_asm); (case k3 => k_mem); (case k4 => assumption); (case k5 => assumption); k_whole); intro B' h' tk9 t3' t1' t2' F' N' l1; (try k_lt l1))
  exact trivial

theorem pool_spec (w : World) (sl : Addr) (ns : List Int) (hns : ns.length < 1000) (i : Int) (ti : Tok) (h0 : 0 ≤ i) (h1 : i ≤ 1) (news : List (Addr × Obj)) :
   SpecB 1 w 198 [.ref sl, .int i ti] sl ns news
     (fun r nx => ∃ l x tx y ty n, r = .ref l ∧ (∀ q ∈ news, q.1 < l) ∧ 0 ≤ x ∧ 0 ≤ y ∧ nx = (l, listOf #[.int x tx, .int y ty] n) :: news) := by
  intro dp un gd cn cs a ccd cl outer A₀ base h₀ L m p loose mean mg mb s us Q E hl hi B F X N T hk hd hu hret
  refine wpAny_call ?_
  k_dflt cell_enter
  k_steps
  all_goals (refine hret _ _ _ _ ⟨_, _, _, _, _, _, rfl, by assumption, ?_, ?_, rfl⟩ (by assumption) (by assumption))
  all_goals first | exact (fmod_range (by decide)).1 | omega
end
open PySem PySem.W PyProof.Rows PySem.Calls PySem.Spec
section
open LCg
section
variable {prog : Program} {w : World} {A : Around} {E : Value → Shared → Prop} {s : Shared} {h₀ : Heap} {L : Addr} {m : Str → Option Value} {env : Env} {kx vx iter : PySem.Expr} {x : Str} {px : Pos} {scope : Scope} {cl : List (Str × Addr)} {pos : Pos}
/-- what is left of a dict comprehension over a list: turn by turn a key and a value, which may be made anew -/
def DRest (prog : Program) (w : World) (A : Around) (h₀ : Heap) (L : Addr) (m : Str → Option Value) (env : Env) (kx vx : PySem.Expr) (x : Str) (scope : Scope) (cl : List (Str × Addr)) (s : Shared) (ax : Addr) (its : Array Value) (Fin : List (Int × Value) → List (Addr × Obj) → Prop) :
    Nat → Nat → List (Int × Value) → List (Addr × Obj) → Prop
  | 0, _, kvs, news => Fin kvs news
  | k + 1, i, kvs, news => ∀ v I oI C oC D oD m₂ h tk (E' : Value → Shared → Prop), its[i]? = some v → NsObj oC m₂ → m₂ x = some v → oD.IsDictOf (intKind prog w) kvs → Fr h₀ L h m → News h₀ L h ((I, oI) :: (C, oC) :: (D, oD) :: news) → Off3 I C D news → ((@Ne Nat I C) ∧ (@Ne Nat I D) ∧ (@Ne Nat C D)) →
      wpAny (model prog w) A (eval kx (compEnvC scope cl C env)) (fun kv s₄ => wpAny (model prog w) A (eval vx (compEnvC scope cl C env)) (fun vv s₅ => ∃ j t h' tk' news', kv = .int j t ∧ s₅ = { s with heap := h', toks := tk' } ∧ Fr h₀ L h' m ∧
        News h₀ L h' ((I, oI) :: (C, oC) :: (D, oD) :: news') ∧ Off3 I C D news' ∧ SrcAt h₀ ax its news' ∧ DRest prog w A h₀ L m env kx vx x scope cl s ax its Fin k (i + 1) (stored kvs j vv) news') E' s₄) E' { s with heap := h, toks := tk }
def DFin (prog : Program) (w : World) (h₀ : Heap) (L : Addr) (m : Str → Option Value) (s : Shared) (Q : Value → Shared → Prop) (kvs : List (Int × Value)) (news : List (Addr × Obj)) : Prop :=
  ∀ D oD h tk, oD.IsDictOf (intKind prog w) kvs → Fr h₀ L h m → News h₀ L h ((D, oD) :: news) → Off D news → Q (.ref D) { s with heap := h, toks := tk }
theorem ns_keep {h h' : Heap} {D C : Addr} {oD : Obj} {l : List (Addr × Obj)} (N : News h₀ L h ((D, oD) :: l)) (hs : h.SameBut C h') (h1 : D ≠ C) (h2 : ∀ p ∈ l, p.1 ≠ C) : News h₀ L h' ((D, oD) :: l) := fun p hp => by
  refine ⟨hs.extBut _ _ ?_ (N p hp).1, (N p hp).2⟩
  rcases List.mem_cons.mp hp with rfl | hp
  · exact h1
  · exact h2 p hp
theorem dblock {s₂ : Shared} {I ax : Addr} {its : Array Value} {news : List (Addr × Obj)} {Fin : List (Int × Value) → List (Addr × Obj) → Prop} {RR : Value → Addr → Result → Shared → Prop}
    (W : Walks prog w A I [I, ax] [I] its.size (fun i v => its[i]? = some v) (fun i h => h.IsListIter I ax i ∧ h.IsList ax its)) (hsz : its.size ≤ sizeLine)
    (hcell : ∀ y ∈ scope.names, y.2 ≠ .cell) (hkind : scope.kind = .function) (hx : scope.names.lookup x = some .local) (hst : s₂.heap.IsListIter I ax 0 ∧ s₂.heap.IsList ax its) (hI : I < s₂.heap.objs.size) (hax : ax < s₂.heap.objs.size)
    (F : Fr h₀ L s₂.heap m) (N : News h₀ L s₂.heap news) (hIL : L ≠ I) (hI₀ : h₀.get? I = none) (off : ∀ p ∈ news, p.1 ≠ I) (hS : SrcAt h₀ ax its news)
    (R : DRest prog w A h₀ L m env kx vx x scope cl s₂ ax its Fin its.size 0 [] news)
    (hRR : ∀ D C oD h tk m' kvs news', oD.IsDictOf (intKind prog w) kvs → Fr h₀ L h m → News h₀ L h ((D, oD) :: news') → Off D news' → h.Ns C m' → h₀.get? C = none → C ≠ L → D ≠ C → (∀ p ∈ news', p.1 ≠ C) → Fin kvs news' → RR (.ref D) C (.ok .next) { s₂ with heap := h, toks := tk }) :
    wpAny (model prog w) A newDict (fun acc s₃ => wpAny (model prog w) A (newFunctionEnv scope env.globals cl [] env.qual none .none (some env)) (fun cenv s₄ =>
      codeAny (model prog w) A (.compStart (.DictComp kx vx [⟨.Name x px, iter, [], 0⟩] scope pos) 0 (.ref I) acc { cenv with scope := relabel scope env }) (RR acc cenv.locals) s₄) E s₃) E s₂ := by
  refine wpAny_newObj_type (wpAny_newFunctionEnv hcell (by intro y hy; simp at hy) (fun h₁ hns₁ hsb₁ => ?_) hkind)
  dsimp only at hns₁ hsb₁ ⊢
  have hnew : (s₂.heap.push { cls := .type "dict", dict := none, data := .dict #[] }).DictOf (intKind prog w) s₂.heap.objs.size [] := Heap.DictOf.new s₂.heap
  generalize hH2 : s₂.heap.push { cls := .type "dict", dict := none, data := .dict #[] } = H2 at hns₁ hsb₁ hnew ⊢
  generalize hDs : s₂.heap.objs.size = D at hnew ⊢
  have hC : H2.objs.size = D + 1 := by rw [← hH2, Heap.size_push, hDs]
  generalize hCs : H2.objs.size = C at hns₁ hsb₁ hC ⊢
  have hDC : D ≠ C := by rw [hC]; exact Nat.ne_of_lt (Nat.lt_succ_self _)
  have below : ∀ b, b < D → b ≠ C ∧ b ≠ D := fun b hb => ⟨by rw [hC]; exact Nat.ne_of_lt (Nat.lt_succ_of_lt hb), Nat.ne_of_lt hb⟩
  rw [hDs] at hI hax
  have old : ∀ b o, s₂.heap.get? b = some o → h₁.get? b = some o := fun b o e => hsb₁.extBut b o (below b (hDs ▸ Heap.lt_size e)).1 (Heap.get?_push_of_some _ (hH2 ▸ Heap.get?_push_of_some _ e))
  have none₀ : ∀ a, D ≤ a → h₀.get? a = none := fun a ha => by
    cases e : h₀.get? a with
    | none => rfl
    | some o' => exact absurd (hDs ▸ Heap.lt_size (F.keep a o' e)) (Nat.not_lt.mpr ha)
  have hD₀ := none₀ D (Nat.le_refl _)
  have hC₀ := none₀ C (by rw [hC]; exact Nat.le_succ _)
  have hLlt : L < D := hDs ▸ F.ns.lt
  have hDL : D ≠ L := Ne.symm (below L hLlt).2
  have hCL : C ≠ L := Ne.symm (below L hLlt).1
  have hCI := (below I hI).1
  have hDI := (below I hI).2
  have hCf : C ∉ [I, ax] := fun hm => by
    rcases List.mem_cons.mp hm with e | hm
    · exact hCI e.symm
    · exact (below ax hax).1 (List.mem_singleton.mp hm).symm
  have hDf : D ∉ [I, ax] := fun hm => by
    rcases List.mem_cons.mp hm with e | hm
    · exact hDI e.symm
    · exact (below ax hax).2 (List.mem_singleton.mp hm).symm
  obtain ⟨oD₁, hoD₁, hdD₁⟩ := Heap.dictOf_iff.mp (hnew.at (h' := h₁) fun o e => hsb₁.extBut _ _ hDC (Heap.get?_push_of_some _ e))
  have off₀ : Off3 I C D news := Off3.of fun p hp => ⟨off p hp, below _ (hDs ▸ Heap.lt_size (N p hp).1)⟩
  have loop : ∀ s₃ : Shared, s₃ = { s₂ with heap := h₁, toks := s₂.toks + ([] : List (Str × Value)).length } →
      codeAny (model prog w) A (.compLoop (.DictComp kx vx [⟨.Name x px, iter, [], 0⟩] scope pos) 0 (.ref I) (.ref D) (compEnvC scope cl C env)) (RR (.ref D) C) s₃ := by
    rintro s₃ rfl
    refine codeAny_compLoop_testsD
      (fun k s' => ∃ h' tk i kvs oD m' news', s' = { s₂ with heap := h', toks := tk } ∧ i ≤ its.size ∧ k = its.size + 1 - i ∧ kvs.length ≤ i ∧ (h'.IsListIter I ax i ∧ h'.IsList ax its) ∧ oD.IsDictOf (intKind prog w) kvs ∧ Fr h₀ L h' m ∧ h'.Ns C m' ∧ News h₀ L h' ((D, oD) :: news') ∧
        Off3 I C D news' ∧ SrcAt h₀ ax its news' ∧ DRest prog w A h₀ L m env kx vx x scope cl s₂ ax its Fin (its.size - i) i kvs news') ?_ (its.size + 1)
      ⟨h₁, _, 0, [], oD₁, _, news, rfl, Nat.zero_le _, rfl, Nat.zero_le _, W.frame _ _ _ hst fun b _ o e => old b o e, hdD₁, F.keeps old, hns₁, fun p hp => ?_, off₀, hS, R⟩
    · rintro k s' ⟨h', tk, i, kvs, oD, m', news', rfl, hi, rfl, hkl, hst', hdD, F', hn', N', off', hS', R'⟩
      have off3 := off'.mem
      by_cases hlt : i < its.size
      · obtain ⟨j, hj⟩ : ∃ j, its.size - i = j + 1 := ⟨its.size - i - 1, by omega⟩
        rw [hj] at R'
        refine W.item i _ _ _ hlt hst' fun v h₂ tk₂ hPv hst₂ hk₂ => ?_
        refine wpAny_assign_Name (wpAny_storeName_local (lookup_relabel_local hx) (hn'.at' fun o e => hk₂ _ o (by simpa using Ne.symm hCI) e) (fun h₃ hn₃ hs₃ => ?_) (by simp [compEnvC, relabel, hkind]))
        refine wpAny_tests_nil ?_
        simp only [if_true]
        have hst₃ := W.frame _ _ h₃ hst₂ fun b hb o e => hs₃.extBut b o (fun (q : b = C) => hCf (q ▸ hb)) e
        obtain ⟨oI, heI, hoI⟩ := id hst₃.1
        obtain ⟨oC, heC, hoC⟩ := ns_obj hn₃
        have F₃ : Fr h₀ L h₃ m := (fr_but F' hk₂ hIL hI₀).change hs₃ hCL hC₀
        have N₂ : News h₀ L h₂ ((D, oD) :: news') := news_but N' hk₂ (off_cons.mpr ⟨Ne.symm hDI, fun p hp => (off3 p hp).1⟩)
        have N₃ : News h₀ L h₃ ((I, oI) :: (C, oC) :: (D, oD) :: news') := by
          have N4 := ns_keep N₂ hs₃ hDC fun p hp => (off3 p hp).2.1
          intro p hp
          rcases List.mem_cons.mp hp with rfl | hp
          · exact ⟨heI, Ne.symm hIL, hI₀⟩
          · rcases List.mem_cons.mp hp with rfl | hp
            · exact ⟨heC, hCL, hC₀⟩
            · exact N4 p hp
        refine wpAny_mono (R' v I oI C oC D oD _ h₃ _ _ hPv hoC (by simp) hdD F₃ N₃ off' ⟨hCI, hDI, Ne.symm hDC⟩) (fun kv s₄ h₄ => wpAny_mono h₄ (fun vv s₅ h₅ => ?_) fun _ _ e => e) fun _ _ e => e
        obtain ⟨jj, t, h₅, tk₅, news₅, rfl, rfl, F₅, N₅, off₅, hS₅, R₅⟩ := h₅
        have zI := (N₅ (I, oI) (.head _)).1
        have zC := (N₅ (C, oC) (.tail _ (.head _))).1
        have zD := (N₅ (D, oD) (.tail _ (.tail _ (.head _)))).1
        have N₆ : News h₀ L h₅ ((D, oD) :: news₅) := fun p hp => N₅ p (.tail _ (.tail _ hp))
        have hst₅ := list_st _ _ _ _ _ hst₃ heI zI F₅.keep (fun p hp => N₆ p (.tail _ hp)) hS₅
        have off5 := off₅.mem
        refine wpAny_dictSet_pairs (knd := intKind prog w) (k := jj) (hsz := by omega) (intKind_is _ _ _ _) (Heap.dictOf_iff.mpr ⟨oD, zD, hdD⟩) fun h₆ hl₆ hs₆ => ?_
        obtain ⟨oD₆, hoD₆, hd₆⟩ := Heap.dictOf_iff.mp hl₆
        refine ⟨its.size + 1 - (i + 1), by omega, h₆, _, i + 1, stored kvs jj vv, oD₆, _, news₅, rfl, hlt, rfl, Nat.le_trans (stored_length_le _ _ _) (Nat.succ_le_succ hkl), W.frame _ _ _ hst₅ fun b hb o e => hs₆.extBut b o (fun (q : b = D) => hDf (q ▸ hb)) e, hd₆, F₅.change hs₆ hDL hD₀,
          (hoC.ns zC).sameBut hs₆ (Ne.symm hDC), fun p hp => ?_, off₅, hS₅, ?_⟩
        · rcases List.mem_cons.mp hp with rfl | hp
          · exact ⟨hoD₆, hDL, hD₀⟩
          · exact ⟨hs₆.extBut _ _ (off5 p hp).2.2 (N₆ p (.tail _ hp)).1, (N₆ p (.tail _ hp)).2⟩
        · rw [show its.size - (i + 1) = j by omega]
          exact R₅
      · obtain rfl : i = its.size := Nat.le_antisymm hi (Nat.not_lt.mp hlt)
        rw [Nat.sub_self] at R'
        refine W.done _ _ _ hst' fun h₂ tk₂ hk₂ => ?_
        exact hRR _ _ oD h₂ tk₂ _ kvs news' hdD (fr_but F' hk₂ hIL hI₀) (news_but N' hk₂ (off_cons.mpr ⟨Ne.symm hDI, fun p hp => (off3 p hp).1⟩)) (fun p hp => (off3 p hp).2.2) (hn'.at' fun o e => hk₂ _ o (by simpa using Ne.symm hCI) e) hC₀ hCL hDC (fun p hp => (off3 p hp).2.1) R'
    · rcases List.mem_cons.mp hp with rfl | hp
      · exact ⟨hoD₁, hDL, hD₀⟩
      · exact ⟨old _ _ (N p hp).1, (N p hp).2⟩
  exact codeAny_compStart_dict (loop _ rfl) (W.self 0 _ _ _ (W.frame _ _ _ hst fun b _ o e => old b o e) (loop _ rfl))
def DSrc (prog : Program) (w : World) (A : Around) (h₀ : Heap) (L : Addr) (m : Str → Option Value) (env : Env) (kx vx : PySem.Expr) (x : Str) (scope : Scope) (cl : List (Str × Addr)) (Q : Value → Shared → Prop) (xv : Value) (s₁ : Shared) : Prop :=
  ∃ ax its k news, xv = .ref ax ∧ A.handled = none ∧ Fr h₀ L s₁.heap m ∧ News h₀ L s₁.heap news ∧ (ax, ({ cls := .type "list", data := .seq its k } : Obj)) ∈ news ∧ its.size ≤ sizeLine ∧
      ∀ g, DRest prog w A h₀ L m env kx vx x scope cl { s₁ with heap := g } ax its (DFin prog w h₀ L m { s₁ with heap := g } Q) its.size 0 [] news
theorem DSrc.intro {Q : Value → Shared → Prop} {s₁ : Shared} {ax : Addr} {its : Array Value} {k : Nat} {news : List (Addr × Obj)} (hh : A.handled = none) (F : Fr h₀ L s₁.heap m) (N : News h₀ L s₁.heap news) (hm : (ax, ({ cls := .type "list", data := .seq its k } : Obj)) ∈ news) (hsz : its.size ≤ sizeLine)
    (R : ∀ g, DRest prog w A h₀ L m env kx vx x scope cl { s₁ with heap := g } ax its (DFin prog w h₀ L m { s₁ with heap := g } Q) its.size 0 [] news) : DSrc prog w A h₀ L m env kx vx x scope cl Q (.ref ax) s₁ := ⟨ax, its, k, news, rfl, hh, F, N, hm, hsz, R⟩
theorem DictComp_L {Q : Value → Shared → Prop} (F₀ : Fr h₀ L s.heap m) (hclos : closureFor scope env = pure cl) (hcell : ∀ y ∈ scope.names, y.2 ≠ .cell) (hkind : scope.kind = .function)
    (hnames : ∀ y ∈ scope.names, y.2 = .local → scope.names.lookup y.1 = some .local) (hx : scope.names.lookup x = some .local)
    (h : wpAny (model prog w) A (eval iter env) (DSrc prog w A h₀ L m env kx vx x scope cl Q) E s)
    (hs : ∀ x, foldedSetIterable iter env x = pure x := by intro _; rfl) :
    wpAny (model prog w) A (eval (.DictComp kx vx [⟨.Name x px, iter, [], 0⟩] scope pos) env) Q E s := by
  rw [arm_eval_DictComp]
  refine wpAny_comprehension_free (use := none) rfl hs hclos hkind hnames (wpAny_mono h (fun xv s₁ h₁ => ?_) fun _ _ e => e)
  obtain ⟨ax, its, k, news, rfl, hh, F, N, hm, hsz, R⟩ := h₁
  have S : SrcAt h₀ ax its news := .inr ⟨_, hm, rfl, _, rfl⟩
  have hl := S.list F.keep N
  have hlt : ax < s₁.heap.objs.size := by obtain ⟨_, e, _⟩ := hl; exact Heap.lt_size e
  refine wpAny_pyIter_list hl ?_
  have up : ∀ b o, s₁.heap.get? b = some o → (s₁.heap.push { cls := .type "list_iterator", data := .fields #[.ref ax, .int 0 0] }).get? b = some o := fun b o e => Heap.get?_push_of_some _ e
  refine dblock (Walks.list hh s₁.heap.objs.size ax (Nat.ne_of_lt hlt) its) hsz hcell hkind hx ⟨⟨_, Heap.get?_push_size _ rfl, rfl, rfl⟩, hl.push _⟩ (by rw [Heap.size_push]; exact Nat.lt_succ_self _) (by rw [Heap.size_push]; exact Nat.lt_succ_of_lt hlt)
    (F.keeps up) (N.grown up) (Nat.ne_of_lt F.ns.lt) (next_is_new F) (fun p hp => Nat.ne_of_lt (Heap.lt_size (N p hp).1)) S (R _) ?_
  intro D C oD h tk m' kvs news' hd F' N' o1 hn hC₀ hCL hDC offC fin
  exact ⟨m', hn, fun h'' hs'' => fin D oD h'' tk hd (F'.change hs'' hCL hC₀) (ns_keep N' hs'' hDC offC) o1⟩
/-- a row, as the display makes it -/
def RowEnd (w : World) (h₀ : Heap) (L : Addr) (m : Str → Option Value) (s : Shared) (led : List (Addr × Obj)) (n : Int) (y : Row) (kv vv : Value) (s₅ : Shared) : Prop :=
  ∃ t r o u k h' tk', kv = .int n t ∧ vv = .ref r ∧ s₅ = { s with heap := h', toks := tk' } ∧ Fr h₀ L h' m ∧ News h₀ L h' ((r, o) :: (u, listOf ([] : List Value).toArray k) :: led) ∧ Off r led ∧ Off u ((r, o) :: led) ∧ RowObj w o y u .none
theorem RowEnd.intro {s : Shared} {led : List (Addr × Obj)} {n : Int} {y : Row} {t : Tok} {r u : Addr} {o : Obj} {k : Nat} {h' : Heap} {tk' : Nat} (F : Fr h₀ L h' m) (N : News h₀ L h' ((r, o) :: (u, listOf ([] : List Value).toArray k) :: led)) (h1 : Off r led) (h2 : Off u ((r, o) :: led)) (h3 : RowObj w o y u .none) :
    RowEnd w h₀ L m s led n y (.int n t) (.ref r) { s with heap := h', toks := tk' } := ⟨t, r, o, u, k, h', tk', rfl, rfl, rfl, F, N, h1, h2, h3⟩
def of3 {α : Type} (a b c : α) (n : Int) : α := if n = 1 then a else if n = 2 then b else c
theorem stored_new {kvs : List (Int × Value)} {k : Int} {v : Value} (h : kvs.any (fun kv => kv.1 = k) = false) : stored kvs k v = kvs ++ [(k, v)] := by
  unfold stored
  rw [h]
  rfl
open LCg in
theorem rest_rows {Y : Int → Row} {ax : Addr} {k : Nat} {news : List (Addr × Obj)} {Fin : List (Int × Value) → List (Addr × Obj) → Prop} {t1 t2 t3 : Tok} (hm : (ax, listOf #[.int 1 t1, .int 2 t2, .int 3 t3] k) ∈ news) (hY : ∀ n, (Y n).times = [])
    (turn : ∀ n t I oI C oC D oD led m₂ h tk (E' : Value → Shared → Prop), NsObj oC m₂ → m₂ x = some (.int n t) → Fr h₀ L h m → News h₀ L h ((I, oI) :: (C, oC) :: (D, oD) :: led) → (∀ q ∈ news, q ∈ led) → ((@Ne Nat I C) ∧ (@Ne Nat I D) ∧ (@Ne Nat C D)) →
      wpAny (model PySem.Challenge.rw_pb0539_01.prog w) A (eval kx (compEnvC scope cl C env)) (fun kv s₄ => wpAny (model PySem.Challenge.rw_pb0539_01.prog w) A (eval vx (compEnvC scope cl C env)) (RowEnd w h₀ L m s ((I, oI) :: (C, oC) :: (D, oD) :: led) n (Y n) kv) E' s₄) E' { s with heap := h, toks := tk })
    (fin : ∀ (B : Int → RBlk), (∀ n, In3 n → (B n).Ok w 0 ∧ (B n).y = Y n) → Sep (led3b goLb B) news → Fin [(1, .ref (B 1).r), (2, .ref (B 2).r), (3, .ref (B 3).r)] ((B 3).led ++ ((B 2).led ++ ((B 1).led ++ news)))) :
    DRest PySem.Challenge.rw_pb0539_01.prog w A h₀ L m env kx vx x scope cl s ax #[.int 1 t1, .int 2 t2, .int 3 t3] Fin 3 0 [] news := by
  -- one turn
  have one : ∀ (j : Nat) (i : Nat) (n : Int) (t : Tok) (kvs : List (Int × Value)) (led : List (Addr × Obj)), (#[Value.int 1 t1, .int 2 t2, .int 3 t3] : Array Value)[i]? = some (.int n t) → (∀ q ∈ news, q ∈ led) →
      (∀ b : RBlk, b.Ok w 0 → b.y = Y n → Sep b.led led → DRest PySem.Challenge.rw_pb0539_01.prog w A h₀ L m env kx vx x scope cl s ax #[.int 1 t1, .int 2 t2, .int 3 t3] Fin j (i + 1) (stored kvs n (.ref b.r)) (b.led ++ led)) →
      DRest PySem.Challenge.rw_pb0539_01.prog w A h₀ L m env kx vx x scope cl s ax #[.int 1 t1, .int 2 t2, .int 3 t3] Fin (j + 1) i kvs led := by
    intro j i n t kvs led hi hsub nxt v I oI C oC D oD m₂ h tk E' hv hC hx hd F N off ne
    rw [hi] at hv
    cases hv
    refine wpAny_mono (turn n t I oI C oC D oD led m₂ h tk E' hC hx F N hsub ne) (fun kv s₄ h₄ => wpAny_mono h₄ ?_ fun _ _ e => e) fun _ _ e => e
    rintro vv s₅ ⟨t', r, o, u, k', h', tk', rfl, rfl, rfl, F', N', o1, o2, ho⟩
    obtain ⟨p1, o3⟩ := off_cons.mp o2
    obtain ⟨p2, o3⟩ := off_cons.mp o3
    obtain ⟨p3, o3⟩ := off_cons.mp o3
    obtain ⟨p4, o3⟩ := off_cons.mp o3
    obtain ⟨p5, o4⟩ := off_cons.mp o1
    obtain ⟨p6, o4⟩ := off_cons.mp o4
    obtain ⟨p7, o4⟩ := off_cons.mp o4
    refine ⟨n, t', h', tk', (r, o) :: (u, listOf ([] : List Value).toArray k') :: led, rfl, rfl, F', fun q hq => N' q ?_, ⟨⟨Ne.symm p5, Ne.symm p6, Ne.symm p7⟩, ⟨Ne.symm p2, Ne.symm p3, Ne.symm p4⟩, off⟩, .inr ⟨_, .tail _ (.tail _ (hsub _ hm)), rfl, _, rfl⟩, nxt ⟨r, u, o, .none, [], k', Y n⟩ ⟨ho, by show IntsAre [] (Y n).times; rw [hY]; exact .nil, Nat.zero_le _⟩ rfl (sep_mk (off_cons.mpr ⟨Ne.symm p1, o4⟩) (sep_mk o3 sep_nil))⟩
    exact (sub_cons mm2 (sub_cons mm3 (sub_cons mm4 (sub_cons mm0 (sub_cons mm1 fun q hq => md5 hq))))) q hq
  refine one 2 0 1 t1 [] news rfl (fun _ h => h) fun b1 k1 y1 s1 => ?_
  refine one 1 1 2 t2 _ _ rfl (fun _ h => List.mem_append_right _ h) fun b2 k2 y2 s2 => ?_
  refine one 0 2 3 t3 _ _ rfl (fun _ h => List.mem_append_right _ (List.mem_append_right _ h)) fun b3 k3 y3 s3 => ?_
  rw [stored_new (kvs := []) rfl, stored_new rfl, stored_new rfl]
  refine fin (of3 b1 b2 b3) ?_ ?_
  · rintro n (rfl | rfl | rfl)
    · exact ⟨k1, y1⟩
    · exact ⟨k2, y2⟩
    · exact ⟨k3, y3⟩
  · have h : Sep (b3.led ++ (b2.led ++ b1.led)) news := sep_append.mpr ⟨by rw [List.append_assoc]; exact s3, sep_append.mpr ⟨s2, s1⟩⟩
    refine h.perm ?_
    show (b3.led ++ (b2.led ++ b1.led)).Perm (b1.led ++ (b2.led ++ b3.led))
    refine List.perm_append_comm.trans ?_
    rw [List.append_assoc]
    exact (List.perm_append_comm_assoc _ _ _)
end
end
section
example : True := by
  k_with_none
  k_with "K_ALL" => (first | assumption | exact List.forall_mem_nil _ | (refine' off_as 0 ?h8 ?m8; (case h8 => assumption); (case m8 => k_dflt (exact rfl))) | (refine' lt_as 0 ?h7 ?m7; (case h7 => assumption); (case m7 => k_dflt (exact rfl))) | (refine' off_c ?a9 ?b9; (case a9 => k_ne); (case b9 => k_all)) | (refine' List.forall_mem_cons.mpr ⟨?a, ?b⟩; (case a => k_ne); (case b => k_all)) | (refine' lt_off ?h9 ?m9; (case h9 => assumption); (case m9 => intro q9 hq9; (repeat (first | exact hq9 | refine List.Mem.tail _ ?_)))) | (refine' off_sub ?h9 ?m9; (case h9 => assumption); (case m9 => intro q9 hq9; (repeat (first | exact hq9 | refine List.Mem.tail _ ?_)))))
  k_with "K_NE" => (first | assumption | exact Ne.symm (by assumption) | (refine' lt_ne ?h9 ?m9; (case h9 => assumption); (case m9 => k_mem)) | (refine' lt_ne' ?h9 ?m9; (case h9 => assumption); (case m9 => k_mem)) | (refine' off_ne ?h9 ?m9; (case h9 => assumption); (case m9 => k_mem)) | (refine' off_ne' ?h9 ?m9; (case h9 => assumption); (case m9 => k_mem)) | (refine' lt_ne1 ?h9 ?m9; (case h9 => assumption); (case m9 => k_mem)) | (refine' lt_ne1' ?h9 ?m9; (case h9 => assumption); (case m9 => k_mem)) | (refine' lt_ne2 ?h9 ?m9; (case h9 => assumption); (case m9 => k_mem)) | (refine' lt_ne2' ?h9 ?m9; (case h9 => assumption); (case m9 => k_mem)) | (refine' lt_ne3 ?h9 ?m9; (case h9 => assumption); (case m9 => k_mem)) | (refine' lt_ne3' ?h9 ?m9; (case h9 => assumption); (case m9 => k_mem)) | (refine neN ?_; (try dsimp only); omega))
  k_with "K_MEM" => (first | with_reducible assumption | exact mm0 | exact mm1 | exact mm2 | exact mm3 | exact mm4 | exact mm5 | exact mm6 | exact mm7 | exact mm8 | exact mm9 | exact mm10 | exact mm11 | exact mm12 | ((repeat (first | with_reducible assumption | exact List.Mem.head _ | (refine mem_in ?_; with_reducible assumption) | refine' List.Mem.tail _ ?_)); done))
  k_with "K_SUB" => (first | exact hq | exact md1 hq | exact md2 hq | exact md3 hq | exact md4 hq | exact md5 hq | exact md6 hq | exact md7 hq | exact md8 hq | exact md9 hq | exact md10 hq | exact md11 hq | exact md12 hq | exact md13 hq | exact md14 hq | (repeat (first | exact hq | refine List.Mem.tail _ ?_)))
  k_with "ENTER" => (first | (refine' code_def ?k1 ?k2 ?k3 ?k4 ?k5 ?kA ?kF ?kK ?k6 ?k7 ?k8 ?k9 ?kB ?_ ?c2 ?c3 ?c4 ?c5; (case kA => exact rfl); (case kF => exact rfl); (case kK => first | assumption | exact rfl); (case k1 => k_asm); (case k2 => k_asm); (case k3 => k_asm); (case k4 => k_asm); (case k5 => k_asm); (case k6 => k_is); (case k7 => k_is); (case k8 => k_room); (case k9 => first | exact BindsTo.of_eq rfl | exact binds_K (by k_in) rfl (by k_is) rfl rfl rfl); (case c5 => decide); (case kB => exact locs rfl); (case c2 => exact rfl); (case c3 => exact rfl); (case c4 => exact rfl); k_whole; intro g' L' h' FG' F' N' B' X' T'; (try dsimp only); (try k_lift B'); (try k_fold)) | (refine' code_defC ?k1 ?k2 ?k3 ?k4 ?k5 ?kA ?kF ?kK ?k6 ?k7 ?k8 ?k9 ?kB ?kD ?_ ?c2 ?c3 ?c4; (case kA => exact rfl); (case kF => exact rfl); (case kK => first | assumption | exact rfl); (case k1 => k_asm); (case k2 => k_asm); (case k3 => k_asm); (case k4 => k_asm); (case k5 => k_asm); (case k6 => k_is); (case k7 => k_is); (case k8 => k_room); (case k9 => first | exact BindsTo.of_eq rfl | exact binds_K (by k_in) rfl (by k_is) rfl rfl rfl); (case kB => exact rfl); (case kD => decide +kernel); (case c2 => exact rfl); (case c3 => exact rfl); (case c4 => exact rfl); k_whole; intro g' L' h' tk' cells' FG' F' N' Y' B' X' T' l1; (try k_lt l1); k_cells Y'; (try simp only [List.cons_append, List.nil_append] at N'); (try dsimp only); (try k_lift B'); (try k_fold)))
  k_with "X FinE" => (((unfold LCg.FinE); intro D' h' tk' F' N' o1'; (have oD' := off_of_off1 o1'); (clear o1'); (try simp only [List.nil_append, List.cons_append] at N'); (try dsimp only)))
  k_with "X ALC" => ((k_here; with_reducible refine plainObj_wpAny_Assign_Attribute ?_ ?_; rotate_left; with_unfolding_all rfl))
  k_with "X FinA" => ((unfold LCg.FinA); intro upsA h' tk' F' N' o1'; (have oU := off_of_off1 o1'); (clear o1'); (try simp only [List.nil_append, List.cons_append] at N'); (try dsimp only))
  k_with "X FOR" => ((k_here; (rename Fr _ _ _ _ => lF'); (with_unfolding_all refine' For_invVF lF' ?k1 ?k2 ?_; (case k1 => exact rfl); (case k2 => exact rfl); k_whole)))
  k_with "K_ROOM" => (first | k_dflt (first | exact room_0 hd | exact room_of 1 hd | exact room_of 2 hd | exact room_of 3 hd | exact room_of 4 hd | exact room_of 5 hd | exact room_of 6 hd | exact room_of 7 hd | exact room_of 8 hd) | ktr_room)
  k_with "K_UNITS" => (first | k_dflt (first | exact units_of 103 hu | exact units_of 303 hu | exact units_of 203 hu | exact units_of 67 hu | exact units_of 503 hu | exact units_of 403 hu) | ktr_units)
  k_with "binaryOp Add ref ref" => (k_here; (with_reducible show wpAny _ _ (binaryOp _ (Value.ref _) (Value.ref _)) _ _ _); k_dflt (refine' addl_at ?k1 ?k2 ?k3 ?k4 ?k5 ?k6 ?_; (case k1 => k_asm); (case k2 => k_asm); (case k3 => k_mem); (case k4 => k_mem); (case k5 => first | assumption | decide | (simp only [List.length_cons, List.length_nil]; omega)); (case k6 => first | assumption | decide | (simp only [List.length_cons, List.length_nil]; omega)); k_whole); intro l' h' F' N' l1; (try k_lt l1); (try k_sweep))
  k_with "CompSrcT" => (k_here; k_dflt (refine LCt.CompSrcT.ledger (by rfl) (by k_asm) (by k_asm) (by k_mem) (by rw [sizeLine_eq, List.size_toArray]; omega) ?_); intro g'; k_dflt (refine' rest_filter _ ?hf ?hi ?hS (fun i9 t9 I9 oI9 C9 oC9 D9 ys9 m9 h' tk9 E9 hi9 hC9 hx9 F' N' off9 ne9 => ?_) (fun ys9 hys9 => ?_); (case hf => assumption); (case hi => assumption); (case hS => exact Or.inr ⟨_, by k_mem, rfl, _, rfl⟩)); (try k_fold))
  k_with "TestEnd" => (refine TestEnd.intro ?_ (by k_asm) (by k_asm); rfl)
  k_with "call builtin:len cons nil" => (k_here; (with_reducible show wpAny _ _ (call (Value.builtin "len") [Value.ref _]) _ _ _); k_dflt (refine' len_filt ?k1 ?k2 ?k3 ?k4 ?k5 ?_; (case k1 => k_asm); (case k2 => k_mem); (case k3 => assumption); (case k4 => assumption); (case k5 => assumption); k_whole))
  k_with "subscriptTail Attribute Name Name ref int" => (k_here; (with_reducible show wpAny _ _ (subscriptTail _ _ (Value.ref _) (Value.int _ _)) _ _ _); (try (k_dflt (refine kba_turn (value' := PySem.Expr.Name (PySem.Str.ofString "_") ⟨0, 0, 0, 0⟩) (fun _ => rfl) ?_))); k_dflt (refine' kda_item (knd := PySem.intKind _ _) ?N ?m ?d (intKind_is _ _ _ _) ?l ?_; (case N => k_asm); (case m => k_mem); (case d => assumption); (case l => assumption); k_whole))
  k_with "subscriptTail Name Name ref int" => (k_here; (with_reducible show wpAny _ _ (subscriptTail _ _ (Value.ref _) (Value.int _ _)) _ _ _); (try (k_dflt (refine kba_turn (value' := PySem.Expr.Name (PySem.Str.ofString "_") ⟨0, 0, 0, 0⟩) (fun _ => rfl) ?_))); k_dflt (refine' kda_item (knd := PySem.intKind _ _) ?N ?m ?d (intKind_is _ _ _ _) ?l ?_; (case N => k_asm); (case m => k_mem); (case d => assumption); (case l => assumption); k_whole))
  k_with "compareOp NotIn int ref" => (k_here; k_dflt (refine' kdg_notin (knd := PySem.intKind _ _) ?N ?m ?d ?lo (intKind_is _ _ _ _) true ?hb ?_; (case N => k_asm); (case m => k_mem); (case d => assumption); (case lo => assumption); (case hb => assumption); k_whole))
  k_with "call builtin:list.append nil" => (k_here; k_dflt (refine' append_at ?k1 ?k2 ?k3 ?k4 ?_; (case k1 => k_asm); (case k2 => k_asm); (case k3 => k_updF); (case k4 => first | assumption | exact filt_len (by assumption) (by assumption) (by assumption)); k_whole); intro h' F' N'; (try dsimp only at N'); (try k_sweep))
  k_with "call builtin:list.append cons nil" => (k_here; k_dflt (refine' append_at ?k1 ?k2 ?k3 ?k4 ?_; (case k1 => k_asm); (case k2 => k_asm); (case k3 => k_updF); (case k4 => first | assumption | exact filt_len (by assumption) (by assumption) (by assumption)); k_whole); intro h' F' N'; (try dsimp only at N'); (try k_sweep))
  k_with "call builtin:sorted cons nil" => (k_here; (with_reducible show wpAny _ _ (call (Value.builtin "sorted") [Value.ref _]) _ _ _); k_dflt (refine' sorted_at rfl ?k1 ?k2 ?k3 ?k4 ?k5 ?_; (case k1 => k_asm); (case k2 => k_asm); (case k3 => k_mem); (case k4 => assumption); (case k5 => assumption); k_whole); intro B' h' tk9 t3' t1' t2' F' N' l1; (try k_lt l1))
  exact trivial
def rowOf (ns : List Int) (n : Int) : Row := ⟨ns.any (· == n), ns.any (· == n), none, []⟩
def RowsPost (w : World) (ns : List Int) (rest : List (Addr × Obj)) (r : Value) (nx : List (Addr × Obj)) : Prop :=
  ∃ D oS B, r = .ref D ∧ nx = (D, oS) :: (led3b goLb B ++ rest) ∧ Sep ((D, oS) :: led3b goLb B) rest ∧ IntD w oS [(1, .ref (B 1).r), (2, .ref (B 2).r), (3, .ref (B 3).r)] ∧ ∀ n, In3 n → (B n).Ok w 0 ∧ (B n).y = rowOf ns n
example : True := by
  k_with "eval DictComp" => (k_here; k_dflt (refine DictComp_L (F₀ := by k_asm) (by rfl) (by decide) (by rfl) (by decide) (by rfl) ?_))
  k_with "compareOp In int ref" => (k_here; k_dflt (refine in_list_ints (News.isList (by k_asm) (by k_mem)) (by assumption) ?_))
  exact trivial
theorem rows_spec (w : World) (ups : Addr) (us : List Value) (ns : List Int) (k : Nat) (rest : List (Addr × Obj)) (hi : IntsAre us ns) (hl : us.length < 1000) :
   Spec 2 w 224 [.ref ups] ((ups, listOf us.toArray k) :: rest) (RowsPost w ns ((ups, listOf us.toArray k) :: rest)) := by
  intro dp' un gd cn cs' a ccd cl outer A₀ base h₀ L m p' loose mean mg mb s Q E B F X N T hk hd hu hret
  refine wpAny_call ?_
  k_dflt cell_enter
  k_steps
  refine DSrc.intro (by rfl) (by k_asm) (by k_asm) (by k_mem) (by rw [sizeLine_eq]; exact (by decide : 3 ≤ 16777216)) ?_
  intro g9
  refine rest_rows (Y := rowOf ns) (by k_mem) (fun _ => rfl) ?_ ?_
  · intro n t I oI C oC D oD led m₂ h tk E9 hC9 hx9 F9 N9 hsub ne9
    have hm1 := hsub (ups, listOf us.toArray k) (by k_mem)
    have hm2 := hsub _ (List.Mem.tail _ (List.Mem.head _))
    try k_fold
    k_steps
    refine RowEnd.intro (by k_asm) (news_drop (by assumption) (sub_cons mm1 (sub_cons mm0 fun q hq => md2 hq))) ?_ ?_ ⟨.none, by assumption⟩
    · k_all
    · k_all
  · intro B9 hB9 hs9 D9 oD9 h' tk9 hd9 F' N' hD9
    try k_fold
    k_steps
    refine hret _ _ _ _ ⟨D9, oD9, B9, rfl, rfl, ?_, hd9, hB9⟩ (by assumption) (news_drop (by assumption) ?_)
    · rw [off_append, off_append, off_append] at hD9
      have hs8 : Sep (led3b goLb B9) ((ups, listOf us.toArray k) :: rest) := hs9.mono fun q hq => .tail _ (.tail _ hq)
      refine sep_mk ?_ hs8
      rw [off_append]
      exact ⟨off_append.mpr ⟨hD9.2.2.1, off_append.mpr ⟨hD9.2.1, hD9.1⟩⟩, off_sub hD9.2.2.2 fun q hq => .tail _ (.tail _ hq)⟩
    · refine sub_cons (.head _) fun q hq => .tail _ ?_
      rcases List.mem_append.mp hq with hq | hq
      · rcases List.mem_append.mp hq with hq | hq
        · exact List.mem_append_right _ (List.mem_append_right _ (List.mem_append_left _ hq))
        · rcases List.mem_append.mp hq with hq | hq
          · exact List.mem_append_right _ (List.mem_append_left _ hq)
          · exact List.mem_append_left _ hq
      · exact List.mem_append_right _ (List.mem_append_right _ (List.mem_append_right _ (.tail _ (.tail _ hq))))
end
section
example : True := by
  k_with_none
  k_with "K_ALL" => (first | assumption | exact List.forall_mem_nil _ | (refine' off_as 0 ?h8 ?m8; (case h8 => assumption); (case m8 => k_dflt (exact rfl))) | (refine' lt_as 0 ?h7 ?m7; (case h7 => assumption); (case m7 => k_dflt (exact rfl))) | (refine' off_c ?a9 ?b9; (case a9 => k_ne); (case b9 => k_all)) | (refine' List.forall_mem_cons.mpr ⟨?a, ?b⟩; (case a => k_ne); (case b => k_all)) | (refine' lt_off ?h9 ?m9; (case h9 => assumption); (case m9 => intro q9 hq9; (repeat (first | exact hq9 | refine List.Mem.tail _ ?_)))) | (refine' off_sub ?h9 ?m9; (case h9 => assumption); (case m9 => intro q9 hq9; (repeat (first | exact hq9 | refine List.Mem.tail _ ?_)))))
  k_with "K_NE" => (first | assumption | exact Ne.symm (by assumption) | (refine' lt_ne ?h9 ?m9; (case h9 => assumption); (case m9 => k_mem)) | (refine' lt_ne' ?h9 ?m9; (case h9 => assumption); (case m9 => k_mem)) | (refine' off_ne ?h9 ?m9; (case h9 => assumption); (case m9 => k_mem)) | (refine' off_ne' ?h9 ?m9; (case h9 => assumption); (case m9 => k_mem)) | (refine' lt_ne1 ?h9 ?m9; (case h9 => assumption); (case m9 => k_mem)) | (refine' lt_ne1' ?h9 ?m9; (case h9 => assumption); (case m9 => k_mem)) | (refine' lt_ne2 ?h9 ?m9; (case h9 => assumption); (case m9 => k_mem)) | (refine' lt_ne2' ?h9 ?m9; (case h9 => assumption); (case m9 => k_mem)) | (refine' lt_ne3 ?h9 ?m9; (case h9 => assumption); (case m9 => k_mem)) | (refine' lt_ne3' ?h9 ?m9; (case h9 => assumption); (case m9 => k_mem)) | (refine neN ?_; (try dsimp only); omega))
  k_with "K_MEM" => (first | with_reducible assumption | exact mm0 | exact mm1 | exact mm2 | exact mm3 | exact mm4 | exact mm5 | exact mm6 | exact mm7 | exact mm8 | exact mm9 | exact mm10 | exact mm11 | exact mm12 | ((repeat (first | with_reducible assumption | exact List.Mem.head _ | (refine mem_in ?_; with_reducible assumption) | refine' List.Mem.tail _ ?_)); done))
  k_with "K_SUB" => (first | exact hq | exact md1 hq | exact md2 hq | exact md3 hq | exact md4 hq | exact md5 hq | exact md6 hq | exact md7 hq | exact md8 hq | exact md9 hq | exact md10 hq | exact md11 hq | exact md12 hq | exact md13 hq | exact md14 hq | (repeat (first | exact hq | refine List.Mem.tail _ ?_)))
  k_with "ENTER" => (first | (refine' code_def ?k1 ?k2 ?k3 ?k4 ?k5 ?kA ?kF ?kK ?k6 ?k7 ?k8 ?k9 ?kB ?_ ?c2 ?c3 ?c4 ?c5; (case kA => exact rfl); (case kF => exact rfl); (case kK => first | assumption | exact rfl); (case k1 => k_asm); (case k2 => k_asm); (case k3 => k_asm); (case k4 => k_asm); (case k5 => k_asm); (case k6 => k_is); (case k7 => k_is); (case k8 => k_room); (case k9 => first | exact BindsTo.of_eq rfl | exact binds_K (by k_in) rfl (by k_is) rfl rfl rfl); (case c5 => decide); (case kB => exact locs rfl); (case c2 => exact rfl); (case c3 => exact rfl); (case c4 => exact rfl); k_whole; intro g' L' h' FG' F' N' B' X' T'; (try dsimp only); (try k_lift B'); (try k_fold)) | (refine' code_defC ?k1 ?k2 ?k3 ?k4 ?k5 ?kA ?kF ?kK ?k6 ?k7 ?k8 ?k9 ?kB ?kD ?_ ?c2 ?c3 ?c4; (case kA => exact rfl); (case kF => exact rfl); (case kK => first | assumption | exact rfl); (case k1 => k_asm); (case k2 => k_asm); (case k3 => k_asm); (case k4 => k_asm); (case k5 => k_asm); (case k6 => k_is); (case k7 => k_is); (case k8 => k_room); (case k9 => first | exact BindsTo.of_eq rfl | exact binds_K (by k_in) rfl (by k_is) rfl rfl rfl); (case kB => exact rfl); (case kD => decide +kernel); (case c2 => exact rfl); (case c3 => exact rfl); (case c4 => exact rfl); k_whole; intro g' L' h' tk' cells' FG' F' N' Y' B' X' T' l1; (try k_lt l1); k_cells Y'; (try simp only [List.cons_append, List.nil_append] at N'); (try dsimp only); (try k_lift B'); (try k_fold)))
  k_with "X FinE" => (((unfold LCg.FinE); intro D' h' tk' F' N' o1'; (have oD' := off_of_off1 o1'); (clear o1'); (try simp only [List.nil_append, List.cons_append] at N'); (try dsimp only)))
  k_with "X ALC" => ((k_here; with_reducible refine plainObj_wpAny_Assign_Attribute ?_ ?_; rotate_left; with_unfolding_all rfl))
  k_with "X FinA" => ((unfold LCg.FinA); intro upsA h' tk' F' N' o1'; (have oU := off_of_off1 o1'); (clear o1'); (try simp only [List.nil_append, List.cons_append] at N'); (try dsimp only))
  k_with "X FOR" => ((k_here; (rename Fr _ _ _ _ => lF'); (with_unfolding_all refine' For_invVF lF' ?k1 ?k2 ?_; (case k1 => exact rfl); (case k2 => exact rfl); k_whole)))
  k_with "K_ROOM" => (first | k_dflt (first | exact room_0 hd | exact room_of 1 hd | exact room_of 2 hd | exact room_of 3 hd | exact room_of 4 hd | exact room_of 5 hd | exact room_of 6 hd | exact room_of 7 hd | exact room_of 8 hd) | ktr_room)
  k_with "K_UNITS" => (first | k_dflt (first | exact units_of 103 hu | exact units_of 303 hu | exact units_of 203 hu | exact units_of 67 hu | exact units_of 503 hu | exact units_of 403 hu) | ktr_units)
  k_with "binaryOp Add ref ref" => (k_here; (with_reducible show wpAny _ _ (binaryOp _ (Value.ref _) (Value.ref _)) _ _ _); k_dflt (refine' addl_at ?k1 ?k2 ?k3 ?k4 ?k5 ?k6 ?_; (case k1 => k_asm); (case k2 => k_asm); (case k3 => k_mem); (case k4 => k_mem); (case k5 => first | assumption | decide | (simp only [List.length_cons, List.length_nil]; omega)); (case k6 => first | assumption | decide | (simp only [List.length_cons, List.length_nil]; omega)); k_whole); intro l' h' F' N' l1; (try k_lt l1); (try k_sweep))
  k_with "CompSrcT" => (k_here; k_dflt (refine LCt.CompSrcT.ledger (by rfl) (by k_asm) (by k_asm) (by k_mem) (by rw [sizeLine_eq, List.size_toArray]; omega) ?_); intro g'; k_dflt (refine' rest_filter _ ?hf ?hi ?hS (fun i9 t9 I9 oI9 C9 oC9 D9 ys9 m9 h' tk9 E9 hi9 hC9 hx9 F' N' off9 ne9 => ?_) (fun ys9 hys9 => ?_); (case hf => assumption); (case hi => assumption); (case hS => exact Or.inr ⟨_, by k_mem, rfl, _, rfl⟩)); (try k_fold))
  k_with "TestEnd" => (refine TestEnd.intro ?_ (by k_asm) (by k_asm); rfl)
  k_with "call builtin:len cons nil" => (k_here; (with_reducible show wpAny _ _ (call (Value.builtin "len") [Value.ref _]) _ _ _); k_dflt (refine' len_filt ?k1 ?k2 ?k3 ?k4 ?k5 ?_; (case k1 => k_asm); (case k2 => k_mem); (case k3 => assumption); (case k4 => assumption); (case k5 => assumption); k_whole))
  k_with "subscriptTail Attribute Name Name ref int" => (k_here; (with_reducible show wpAny _ _ (subscriptTail _ _ (Value.ref _) (Value.int _ _)) _ _ _); (try (k_dflt (refine kba_turn (value' := PySem.Expr.Name (PySem.Str.ofString "_") ⟨0, 0, 0, 0⟩) (fun _ => rfl) ?_))); k_dflt (refine' kda_item (knd := PySem.intKind _ _) ?N ?m ?d (intKind_is _ _ _ _) ?l ?_; (case N => k_asm); (case m => k_mem); (case d => assumption); (case l => assumption); k_whole))
  k_with "subscriptTail Name Name ref int" => (k_here; (with_reducible show wpAny _ _ (subscriptTail _ _ (Value.ref _) (Value.int _ _)) _ _ _); (try (k_dflt (refine kba_turn (value' := PySem.Expr.Name (PySem.Str.ofString "_") ⟨0, 0, 0, 0⟩) (fun _ => rfl) ?_))); k_dflt (refine' kda_item (knd := PySem.intKind _ _) ?N ?m ?d (intKind_is _ _ _ _) ?l ?_; (case N => k_asm); (case m => k_mem); (case d => assumption); (case l => assumption); k_whole))
  k_with "compareOp NotIn int ref" => (k_here; k_dflt (refine' kdg_notin (knd := PySem.intKind _ _) ?N ?m ?d ?lo (intKind_is _ _ _ _) true ?hb ?_; (case N => k_asm); (case m => k_mem); (case d => assumption); (case lo => assumption); (case hb => assumption); k_whole))
  k_with "call builtin:list.append nil" => (k_here; k_dflt (refine' append_at ?k1 ?k2 ?k3 ?k4 ?_; (case k1 => k_asm); (case k2 => k_asm); (case k3 => k_updF); (case k4 => first | assumption | exact filt_len (by assumption) (by assumption) (by assumption)); k_whole); intro h' F' N'; (try dsimp only at N'); (try k_sweep))
  k_with "call builtin:list.append cons nil" => (k_here; k_dflt (refine' append_at ?k1 ?k2 ?k3 ?k4 ?_; (case k1 => k_asm); (case k2 => k_asm); (case k3 => k_updF); (case k4 => first | assumption | exact filt_len (by assumption) (by assumption) (by assumption)); k_whole); intro h' F' N'; (try dsimp only at N'); (try k_sweep))
  k_with "call builtin:sorted cons nil" => (k_here; (with_reducible show wpAny _ _ (call (Value.builtin "sorted") [Value.ref _]) _ _ _); k_dflt (refine' sorted_at rfl ?k1 ?k2 ?k3 ?k4 ?k5 ?_; (case k1 => k_asm); (case k2 => k_asm); (case k3 => k_mem); (case k4 => assumption); (case k5 => assumption); k_whole); intro B' h' tk9 t3' t1' t2' F' N' l1; (try k_lt l1))
  exact trivial
theorem call_new {K : Frag} {p : Program} {w : World} {A : Around} {E : Value → Shared → Prop} {s : Shared} {h₀ : Heap} {L C fI : Addr} {m : Str → Option Value} {news : List (Addr × Obj)} {Q : Value → Shared → Prop} {pos : List Value} {kw : List (Str × Value)} (F : Fr h₀ L s.heap m) (X₀ : K.In h₀) (N : News h₀ L s.heap news)
    (hm : makesIn K C = true) (hi : findIn K (.ref C) "__init__" = some (some (.ref fI))) (hf : isFn K (.ref fI) = true)
    (h : ∀ x dx h', Fr h₀ L h' m → News h₀ L h' ((x, instObj C dx) :: (dx, dictOf [] 0) :: news) → (∀ p ∈ news, p.1 < dx) → (∀ p ∈ (dx, dictOf [] 0) :: news, p.1 < x) →
      codeAny (model p w) (A.under (.builtin "type.__call__" ⟨.ref C :: pos, kw⟩)) (.call (.ref fI) ⟨.ref x :: pos, kw⟩) (InitBack x fun r s' => match r with | .ok (.ret v) => Q v s' | .ok _ => False | .error e => E e s') { s with heap := h' }) :
    wpAny (model p w) A (call (.ref C) pos kw) Q E s := call_cls F X₀ N hm hi hf fun x dx h' F' N' l1 l2 => h x dx h' F' N' l1 (List.forall_mem_cons.mpr ⟨l2, fun p hp => Nat.lt_trans (l1 p hp) l2⟩)
example : True := by
  k_with "call ref cons nil" => (k_here; k_dflt (refine' call_new ?k1 ?k2 ?k3 ?k4 ?k5 ?k6 ?_; (case k1 => k_asm); (case k2 => k_asm); (case k3 => k_asm); (case k4 => k_is); (case k5 => k_is); (case k6 => k_is); k_whole); intro x9 dx9 h' F' N' l1 l2; (try k_sweep); k_dflt cell_enter)
  k_with "X CALL" => (k_here; k_dflt (refine' call_new ?k1 ?k2 ?k3 ?k4 ?k5 ?k6 ?_; (case k1 => k_asm); (case k2 => k_asm); (case k3 => k_asm); (case k4 => k_is); (case k5 => k_is); (case k6 => k_is); k_whole); intro x9 dx9 h' F' N' l1 l2; (try k_sweep); k_dflt cell_enter)
  exact trivial
section
variable {a1 a2 a3 a4 a5 : Addr} {o1 o2 o3 o4 o5 : Obj} {R : List (Addr × Obj)}
theorem sep5i (h1 : Off a1 ((a2, o2) :: (a3, o3) :: (a4, o4) :: (a5, o5) :: R)) (h2 : Off a2 ((a3, o3) :: (a4, o4) :: (a5, o5) :: R)) (h3 : Off a3 ((a4, o4) :: (a5, o5) :: R)) (h4 : Off a4 ((a5, o5) :: R)) (h5 : Off a5 R) :
    Sep [(a1, o1), (a2, o2), (a3, o3), (a4, o4), (a5, o5)] R := sep_mk h1 (sep_mk h2 (sep_mk h3 (sep_mk h4 (sep_mk h5 sep_nil))))
end
def Ks.of (h : List Int) (t : List Tok) : Ks := ⟨fun i => h.getD i 0, fun i => t.getD i 0⟩
def PortsPost (w : World) (mv : Value) (span hold : Int) (rest : List (Addr × Obj)) (r : Value) (nx : List (Addr × Obj)) : Prop :=
  ∃ (c : PC) (C : Addr) (oR oW : Obj) (nC : Nat), r = .ref c.P ∧ (c.mv = mv ∧ c.span = span ∧ c.hold = hold) ∧ nx = (C, listOf ([] : List Value).toArray nC) :: (c.W, oW) :: (c.R, oR) :: (c.P, instObj 187 c.dP) :: (c.dP, c.d C) :: rest ∧
    Sep [(C, listOf ([] : List Value).toArray nC), (c.W, oW), (c.R, oR), (c.P, instObj 187 c.dP), (c.dP, c.d C)] rest ∧ IntD w oR [] ∧ IntD w oW [] ∧ (c.R == sysModules) = false ∧ (c.W == sysModules) = false
theorem ports_new (w : World) (mv : Value) (hmv : handedIn mv = true) (span hold : Int) (ts th : Tok) (rest : List (Addr × Obj)) :
   Spec 2 w 187 [mv, .int span ts, .int hold th] rest (PortsPost w mv span hold rest) := by
  intro dp' un gd cn cs' a ccd cl outer A₀ base h₀ L m p' loose mean mg mb s Q E B F X N T hk hd hu hret
  k_steps
  refine' hret _ _ _ _ ⟨⟨x9, dx9, _, _, .of [_, _, _, _, _, _] [_, _, _, _, _, _], _, _, _, _, _⟩, _, _, _, _, rfl, ⟨rfl, rfl, rfl⟩, rfl, ?S, ?i1, ?i2, ?i3, ?i4⟩ (by assumption) ?N
  case N => assumption
  case i1 => assumption
  case i2 => assumption
  case i3 => assumption
  case i4 => assumption
  case S => exact sep5i (by k_all) (by k_all) (by k_all) (by k_all) (by k_all)
def PortPost (n spd : Int) (tn ts : Tok) (up : Bool) (rest : List (Addr × Obj)) (r : Value) (nx : List (Addr × Obj)) : Prop :=
  ∃ p dp k fv mtu, r = .ref p ∧ nx = (p, instObj 76 dp) :: (dp, portD k n tn (.int spd ts) up fv mtu) :: rest ∧ Off p ((dp, portD k n tn (.int spd ts) up fv mtu) :: rest) ∧ Off dp rest
theorem port_new (w : World) (n spd : Int) (tn ts : Tok) (up : Bool) (rest : List (Addr × Obj)) :
   Spec 2 w 76 [.int n tn, .int spd ts, .bool up] rest (PortPost n spd tn ts up rest) := by
  intro dp' un gd cn cs' a ccd cl outer A₀ base h₀ L m p' loose mean mg mb s Q E B F X N T hk hd hu hret
  k_steps
  refine' hret _ _ _ _ ⟨x9, dx9, .of [_, _, _, _, _] [_, _, _, _, _], _, _, rfl, rfl, ?h1, ?h2⟩ (by assumption) ?N
  case N => assumption
  case h1 => k_all
  case h2 => k_all
theorem port_new2 (w : World) (n spd : Int) (tn ts : Tok) (rest : List (Addr × Obj)) :
   Spec 2 w 76 [.int n tn, .int spd ts] rest (PortPost n spd tn ts false rest) := by
  intro dp' un gd cn cs' a ccd cl outer A₀ base h₀ L m p' loose mean mg mb s Q E B F X N T hk hd hu hret
  k_steps
  refine' hret _ _ _ _ ⟨x9, dx9, .of [_, _, _, _, _] [_, _, _, _, _], _, _, rfl, rfl, ?h1, ?h2⟩ (by assumption) ?N
  case N => assumption
  case h1 => k_all
  case h2 => k_all
theorem valueAt_new {kvs : List (Int × Value)} {k : Int} {v : Value} (h : (valueAt kvs k).isSome = false) : valueAt (stored kvs k v) k = some v := by
  have h2 : valueAt kvs k = none := by cases e : valueAt kvs k with
    | none => rfl
    | some x => rw [e] at h; cases h
  rw [stored_absent h2]
  unfold valueAt at h2 ⊢
  rw [List.find?_append]
  cases e : List.find? (fun kv => decide (kv.1 = k)) kvs with
  | none => simp
  | some x => rw [e] at h2; cases h2
example : True := by
  k_with "compareOp In int ref" => (k_here; k_dflt (refine' kda_in (knd := PySem.intKind _ _) ?N ?m ?d ?lo (intKind_is _ _ _ _) false ?hb ?_; (case N => k_asm); (case m => k_mem); (case d => assumption); (case lo => assumption); (case hb => assumption); k_whole))
  k_with "setItem ref int" => (k_here; k_dflt (refine' kda_set (knd := PySem.intKind _ _) ?F ?N ?U ?d (intKind_is _ _ _ _) ?z ?_; (case F => k_asm); (case N => k_asm); (case U => k_updF); (case d => assumption); (case z => exact Nat.le_trans (by assumption) (by rw [sizeLine_eq]; decide))); intro h' o9 F' N' hd9; (try dsimp only at N'))
  k_with "subscriptTail Attribute" => (k_here; (with_reducible show wpAny _ _ (subscriptTail _ _ (Value.ref _) (Value.int _ _)) _ _ _); (try (k_dflt (refine kba_turn (value' := PySem.Expr.Name (PySem.Str.ofString "_") ⟨0, 0, 0, 0⟩) (fun _ => rfl) ?_))); k_dflt (refine' kda_item (knd := PySem.intKind _ _) ?N ?m ?d (intKind_is _ _ _ _) ?l ?_; (case N => k_asm); (case m => k_mem); (case d => assumption); (case l => exact valueAt_new (by assumption)); k_whole))
  exact trivial
theorem sep3i {a1 a2 a3 : Addr} {o1 o2 o3 : Obj} {R : List (Addr × Obj)} (h1 : Off a1 ((a2, o2) :: (a3, o3) :: R)) (h2 : Off a2 ((a3, o3) :: R)) (h3 : Off a3 R) : Sep [(a1, o1), (a2, o2), (a3, o3)] R := sep_mk h1 (sep_mk h2 (sep_mk h3 sep_nil))
def AddPost (w : World) (c : PC) (C p dp : Addr) (kp : Ks) (n : Int) (tn : Tok) (spd fv mtu : Value) (up : Bool) (kR kW : List (Int × Value)) (rest : List (Addr × Obj)) (r : Value) (nx : List (Addr × Obj)) : Prop :=
  r = .none ∧ ∃ w0 dw u kw nu oR oW, nx = (u, listOf ([] : List Value).toArray nu) :: (w0, instObj 109 dw) :: (dw, watchD kw u .none up) :: (c.P, instObj 187 c.dP) :: (c.dP, c.d C) :: (c.R, oR) :: (c.W, oW) :: (p, instObj 76 dp) :: (dp, portD kp n tn spd up fv mtu) :: rest ∧
    Sep [(u, listOf ([] : List Value).toArray nu), (w0, instObj 109 dw), (dw, watchD kw u .none up)] ((c.P, instObj 187 c.dP) :: (c.dP, c.d C) :: (c.R, oR) :: (c.W, oW) :: (p, instObj 76 dp) :: (dp, portD kp n tn spd up fv mtu) :: rest) ∧ IntD w oR (stored kR n (.ref p)) ∧ IntD w oW (stored kW n (.ref w0))
theorem add_spec (w : World) (c : PC) (C p dp : Addr) (kp : Ks) (n : Int) (tn : Tok) (spd fv mtu : Value) (up : Bool) (oR oW : Obj) (kR kW : List (Int × Value)) (rest : List (Addr × Obj))
   (hS : Sep [(c.P, instObj 187 c.dP), (c.dP, c.d C), (c.R, oR), (c.W, oW), (p, instObj 76 dp), (dp, portD kp n tn spd up fv mtu)] rest) (hn : 1 ≤ n) (hR : IntD w oR kR) (hW : IntD w oW kW) (hRn : (valueAt kR n).isSome = false) (hWn : (valueAt kW n).isSome = false) (hRl : kR.length ≤ 5) (hWl : kW.length ≤ 5) (hRs : (c.R == sysModules) = false) (hWs : (c.W == sysModules) = false) :
   Spec 4 w 135 [.ref c.P, .ref p] ((c.P, instObj 187 c.dP) :: (c.dP, c.d C) :: (c.R, oR) :: (c.W, oW) :: (p, instObj 76 dp) :: (dp, portD kp n tn spd up fv mtu) :: rest) (AddPost w c C p dp kp n tn spd fv mtu up kR kW rest) := by
  intro dp' un gd cn cs' a ccd cl outer A₀ base h₀ L m p' loose mean mg mb s Q E B F X N T hk hd hu hret
  obtain ⟨q_P, hS⟩ := sep_c hS
  obtain ⟨q_dP, hS⟩ := sep_c hS
  obtain ⟨q_R, q_W, q_p, q_dp, -⟩ := sep4 hS
  refine wpAny_call ?_
  k_dflt cell_enter
  repeat' ((fail_if_success (with_reducible show wpAny _ _ (exec (Stmt.Raise _ _ _) _) _ _ _)); first | (k_unfold; (try dsimp only)) | (k_end; wrow_close) | walk1 | (dsimp only; walk1) | (leave1; try dsimp only))
  refine' hret _ _ _ _ ⟨rfl, x9, dx9, _, .of [_, _, _] [_, _, _], _, _, _, rfl, ?S, ?i1, ?i2⟩ (by assumption) ?N
  case N => assumption
  case i1 => assumption
  case i2 => assumption
  case S => exact sep3i (by k_all) (by k_all) (by k_all)
end
section
example : True := by
  k_with_none
  k_with "K_ALL" => (first | assumption | exact List.forall_mem_nil _ | (refine' off_as 0 ?h8 ?m8; (case h8 => assumption); (case m8 => k_dflt (exact rfl))) | (refine' lt_as 0 ?h7 ?m7; (case h7 => assumption); (case m7 => k_dflt (exact rfl))) | (refine' off_c ?a9 ?b9; (case a9 => k_ne); (case b9 => k_all)) | (refine' List.forall_mem_cons.mpr ⟨?a, ?b⟩; (case a => k_ne); (case b => k_all)) | (refine' lt_off ?h9 ?m9; (case h9 => assumption); (case m9 => intro q9 hq9; (repeat (first | exact hq9 | refine List.Mem.tail _ ?_)))) | (refine' off_sub ?h9 ?m9; (case h9 => assumption); (case m9 => intro q9 hq9; (repeat (first | exact hq9 | refine List.Mem.tail _ ?_)))))
  k_with "K_NE" => (first | assumption | exact Ne.symm (by assumption) | (refine' lt_ne ?h9 ?m9; (case h9 => assumption); (case m9 => k_mem)) | (refine' lt_ne' ?h9 ?m9; (case h9 => assumption); (case m9 => k_mem)) | (refine' off_ne ?h9 ?m9; (case h9 => assumption); (case m9 => k_mem)) | (refine' off_ne' ?h9 ?m9; (case h9 => assumption); (case m9 => k_mem)) | (refine' lt_ne1 ?h9 ?m9; (case h9 => assumption); (case m9 => k_mem)) | (refine' lt_ne1' ?h9 ?m9; (case h9 => assumption); (case m9 => k_mem)) | (refine' lt_ne2 ?h9 ?m9; (case h9 => assumption); (case m9 => k_mem)) | (refine' lt_ne2' ?h9 ?m9; (case h9 => assumption); (case m9 => k_mem)) | (refine' lt_ne3 ?h9 ?m9; (case h9 => assumption); (case m9 => k_mem)) | (refine' lt_ne3' ?h9 ?m9; (case h9 => assumption); (case m9 => k_mem)) | (refine neN ?_; (try dsimp only); omega))
  k_with "K_MEM" => (first | with_reducible assumption | exact mm0 | exact mm1 | exact mm2 | exact mm3 | exact mm4 | exact mm5 | exact mm6 | exact mm7 | exact mm8 | exact mm9 | exact mm10 | exact mm11 | exact mm12 | ((repeat (first | with_reducible assumption | exact List.Mem.head _ | (refine mem_in ?_; with_reducible assumption) | refine' List.Mem.tail _ ?_)); done))
  k_with "K_SUB" => (first | exact hq | exact md1 hq | exact md2 hq | exact md3 hq | exact md4 hq | exact md5 hq | exact md6 hq | exact md7 hq | exact md8 hq | exact md9 hq | exact md10 hq | exact md11 hq | exact md12 hq | exact md13 hq | exact md14 hq | (repeat (first | exact hq | refine List.Mem.tail _ ?_)))
  k_with "ENTER" => (first | (refine' code_def ?k1 ?k2 ?k3 ?k4 ?k5 ?kA ?kF ?kK ?k6 ?k7 ?k8 ?k9 ?kB ?_ ?c2 ?c3 ?c4 ?c5; (case kA => exact rfl); (case kF => exact rfl); (case kK => first | assumption | exact rfl); (case k1 => k_asm); (case k2 => k_asm); (case k3 => k_asm); (case k4 => k_asm); (case k5 => k_asm); (case k6 => k_is); (case k7 => k_is); (case k8 => k_room); (case k9 => first | exact BindsTo.of_eq rfl | exact binds_K (by k_in) rfl (by k_is) rfl rfl rfl); (case c5 => decide); (case kB => exact locs rfl); (case c2 => exact rfl); (case c3 => exact rfl); (case c4 => exact rfl); k_whole; intro g' L' h' FG' F' N' B' X' T'; (try dsimp only); (try k_lift B'); (try k_fold)) | (refine' code_defC ?k1 ?k2 ?k3 ?k4 ?k5 ?kA ?kF ?kK ?k6 ?k7 ?k8 ?k9 ?kB ?kD ?_ ?c2 ?c3 ?c4; (case kA => exact rfl); (case kF => exact rfl); (case kK => first | assumption | exact rfl); (case k1 => k_asm); (case k2 => k_asm); (case k3 => k_asm); (case k4 => k_asm); (case k5 => k_asm); (case k6 => k_is); (case k7 => k_is); (case k8 => k_room); (case k9 => first | exact BindsTo.of_eq rfl | exact binds_K (by k_in) rfl (by k_is) rfl rfl rfl); (case kB => exact rfl); (case kD => decide +kernel); (case c2 => exact rfl); (case c3 => exact rfl); (case c4 => exact rfl); k_whole; intro g' L' h' tk' cells' FG' F' N' Y' B' X' T' l1; (try k_lt l1); k_cells Y'; (try simp only [List.cons_append, List.nil_append] at N'); (try dsimp only); (try k_lift B'); (try k_fold)))
  k_with "X FinE" => (((unfold LCg.FinE); intro D' h' tk' F' N' o1'; (have oD' := off_of_off1 o1'); (clear o1'); (try simp only [List.nil_append, List.cons_append] at N'); (try dsimp only)))
  k_with "X ALC" => ((k_here; with_reducible refine plainObj_wpAny_Assign_Attribute ?_ ?_; rotate_left; with_unfolding_all rfl))
  k_with "X FinA" => ((unfold LCg.FinA); intro upsA h' tk' F' N' o1'; (have oU := off_of_off1 o1'); (clear o1'); (try simp only [List.nil_append, List.cons_append] at N'); (try dsimp only))
  k_with "X FOR" => ((k_here; (rename Fr _ _ _ _ => lF'); (with_unfolding_all refine' For_invVF lF' ?k1 ?k2 ?_; (case k1 => exact rfl); (case k2 => exact rfl); k_whole)))
  k_with "K_ROOM" => (first | k_dflt (first | exact room_0 hd | exact room_of 1 hd | exact room_of 2 hd | exact room_of 3 hd | exact room_of 4 hd | exact room_of 5 hd | exact room_of 6 hd | exact room_of 7 hd | exact room_of 8 hd) | ktr_room)
  k_with "K_UNITS" => (first | k_dflt (first | exact units_of 103 hu | exact units_of 303 hu | exact units_of 203 hu | exact units_of 67 hu | exact units_of 503 hu | exact units_of 403 hu) | ktr_units)
  k_with "binaryOp Add ref ref" => (k_here; (with_reducible show wpAny _ _ (binaryOp _ (Value.ref _) (Value.ref _)) _ _ _); k_dflt (refine' addl_at ?k1 ?k2 ?k3 ?k4 ?k5 ?k6 ?_; (case k1 => k_asm); (case k2 => k_asm); (case k3 => k_mem); (case k4 => k_mem); (case k5 => first | assumption | decide | (simp only [List.length_cons, List.length_nil]; omega)); (case k6 => first | assumption | decide | (simp only [List.length_cons, List.length_nil]; omega)); k_whole); intro l' h' F' N' l1; (try k_lt l1); (try k_sweep))
  k_with "CompSrcT" => (k_here; k_dflt (refine LCt.CompSrcT.ledger (by rfl) (by k_asm) (by k_asm) (by k_mem) (by rw [sizeLine_eq, List.size_toArray]; omega) ?_); intro g'; k_dflt (refine' rest_filter _ ?hf ?hi ?hS (fun i9 t9 I9 oI9 C9 oC9 D9 ys9 m9 h' tk9 E9 hi9 hC9 hx9 F' N' off9 ne9 => ?_) (fun ys9 hys9 => ?_); (case hf => assumption); (case hi => assumption); (case hS => exact Or.inr ⟨_, by k_mem, rfl, _, rfl⟩)); (try k_fold))
  k_with "TestEnd" => (refine TestEnd.intro ?_ (by k_asm) (by k_asm); rfl)
  k_with "call builtin:len cons nil" => (k_here; (with_reducible show wpAny _ _ (call (Value.builtin "len") [Value.ref _]) _ _ _); k_dflt (refine' len_filt ?k1 ?k2 ?k3 ?k4 ?k5 ?_; (case k1 => k_asm); (case k2 => k_mem); (case k3 => assumption); (case k4 => assumption); (case k5 => assumption); k_whole))
  k_with "subscriptTail Attribute Name Name ref int" => (k_here; (with_reducible show wpAny _ _ (subscriptTail _ _ (Value.ref _) (Value.int _ _)) _ _ _); (try (k_dflt (refine kba_turn (value' := PySem.Expr.Name (PySem.Str.ofString "_") ⟨0, 0, 0, 0⟩) (fun _ => rfl) ?_))); k_dflt (refine' kda_item (knd := PySem.intKind _ _) ?N ?m ?d (intKind_is _ _ _ _) ?l ?_; (case N => k_asm); (case m => k_mem); (case d => assumption); (case l => assumption); k_whole))
  k_with "subscriptTail Name Name ref int" => (k_here; (with_reducible show wpAny _ _ (subscriptTail _ _ (Value.ref _) (Value.int _ _)) _ _ _); (try (k_dflt (refine kba_turn (value' := PySem.Expr.Name (PySem.Str.ofString "_") ⟨0, 0, 0, 0⟩) (fun _ => rfl) ?_))); k_dflt (refine' kda_item (knd := PySem.intKind _ _) ?N ?m ?d (intKind_is _ _ _ _) ?l ?_; (case N => k_asm); (case m => k_mem); (case d => assumption); (case l => assumption); k_whole))
  k_with "compareOp NotIn int ref" => (k_here; k_dflt (refine' kdg_notin (knd := PySem.intKind _ _) ?N ?m ?d ?lo (intKind_is _ _ _ _) true ?hb ?_; (case N => k_asm); (case m => k_mem); (case d => assumption); (case lo => assumption); (case hb => assumption); k_whole))
  k_with "call builtin:list.append nil" => (k_here; k_dflt (refine' append_at ?k1 ?k2 ?k3 ?k4 ?_; (case k1 => k_asm); (case k2 => k_asm); (case k3 => k_updF); (case k4 => first | assumption | exact filt_len (by assumption) (by assumption) (by assumption)); k_whole); intro h' F' N'; (try dsimp only at N'); (try k_sweep))
  k_with "call builtin:list.append cons nil" => (k_here; k_dflt (refine' append_at ?k1 ?k2 ?k3 ?k4 ?_; (case k1 => k_asm); (case k2 => k_asm); (case k3 => k_updF); (case k4 => first | assumption | exact filt_len (by assumption) (by assumption) (by assumption)); k_whole); intro h' F' N'; (try dsimp only at N'); (try k_sweep))
  k_with "call builtin:sorted cons nil" => (k_here; (with_reducible show wpAny _ _ (call (Value.builtin "sorted") [Value.ref _]) _ _ _); k_dflt (refine' sorted_at rfl ?k1 ?k2 ?k3 ?k4 ?k5 ?_; (case k1 => k_asm); (case k2 => k_asm); (case k3 => k_mem); (case k4 => assumption); (case k5 => assumption); k_whole); intro B' h' tk9 t3' t1' t2' F' N' l1; (try k_lt l1))
  exact trivial
theorem sorted_1 {w : World} {A : Around} {E : Value → Shared → Prop} {s : Shared} {h₀ : Heap} {L R : Addr} {oR : Obj} {m : Str → Option Value} {news : List (Addr × Obj)} {v : Value} {Q : Value → Shared → Prop}
    (hh : A.handled = none) (F : Fr h₀ L s.heap m) (N : News h₀ L s.heap news) (hm : (R, oR) ∈ news) (hR : IntD w oR [(4, v)]) (lo : (R == sysModules) = false)
    (h : ∀ (B : Addr) h' tk t, Fr h₀ L h' m → News h₀ L h' ((B, listOf #[.int 4 t] 0) :: news) → (∀ q ∈ news, q.1 < B) →
      wpAny (model PySem.Challenge.rw_pb0539_01.prog w) A.in1 (call (.builtin "list.sort") [.ref B]) (fun _ s' => Q (.ref B) s') E { s with heap := h', toks := tk }) :
    wpAny (model PySem.Challenge.rw_pb0539_01.prog w) A (call (.builtin "sorted") [.ref R]) Q E s := by
  have hD := kda_dict N hm hR
  obtain ⟨ep, hat⟩ := hD.dictAt
  refine kdu_sorted (kdl_dict (knd := intKind _ _) (kvs := [(4, v)]) (ep := ep) lo) hh F N hat (by rw [sizeLine_eq]; show 1 ≤ 16777216; omega) fun B h' tk vs F' N' l1 hl hv => ?_
  obtain ⟨u, rfl⟩ := List.length_eq_one_iff.mp (show vs.length = 1 from hl)
  obtain ⟨k, y, hk, hi⟩ := hv 0 u rfl
  cases hk
  obtain ⟨t, rfl⟩ := isInt_inv hi
  exact h B h' tk t F' N' l1
example : True := by
  k_with "call builtin:sorted cons nil" => (k_here; (with_reducible show wpAny _ _ (call (Value.builtin "sorted") [Value.ref _]) _ _ _); k_dflt (refine' sorted_1 rfl ?k1 ?k2 ?k3 ?k4 ?k5 ?_; (case k1 => k_asm); (case k2 => k_asm); (case k3 => k_mem); (case k4 => assumption); (case k5 => assumption); k_whole); intro B' h' tk9 t' F' N' l1; (try k_lt l1))
  exact trivial
theorem num1_spec (w : World) (C : Addr) (c : PC) (oR : Obj) (v : Value) (hR : IntD w oR [(4, v)]) (hRn : (c.R == sysModules) = false) : Numbers w C c oR (fun v => ∃ t, v = #[.int 4 t]) := by
  intro rest m1 m2 m3 dp' un gd cn cs' a ccd cl outer A₀ base h₀ L m p' loose mean mg mb s Q E B F X N T hk hd hu hret
  refine wpAny_call ?_
  k_dflt cell_enter
  k_steps
  refine' hret _ _ _ _ ⟨_, _, _, rfl, ⟨_, rfl⟩, rfl, ?l⟩ (by assumption) ?N
  case N => assumption
  case l => assumption
def Fin1 (c : PC) (C : Addr) (oR oW : Obj) (b : PBlk) (cs₀ : List Value) (rest : List (Addr × Obj)) (now : Int) (K : Nat) (fl : Addr) (nx : List (Addr × Obj)) : Prop :=
  ∃ (a : ExA) (b' : PBlk), nx = exHead c C fl oR oW a ++ (a.tl ++ (b'.led 4 ++ rest)) ∧ Sep (exLa c C fl oR oW a ++ b'.led 4) rest ∧ (b'.p = b.p ∧ b'.w0 = b.w0) ∧ b'.Ok (K + 1) ∧ b'.x = (prtGo now b.x).1 ∧ IntsAre a.vs (if (prtGo now b.x).2 then [4] else []) ∧ a.cs.length ≤ cs₀.length + 1
theorem ex_loop1 (w : World) (c : PC) (C : Addr) (oR oW : Obj) (b : PBlk) (kR kW : List (Int × Value)) (cs₀ : List Value) (nc : Nat) (rest : List (Addr × Obj)) (now : Int) (tn t : Tok) (K : Nat)
   (hA : Sep (pupLed c C 4 b oR oW cs₀ nc []) rest) (hK : K < 990) (hc : cs₀.length < 990) (hok : b.Ok K) (hRl : valueAt kR 4 = some (.ref b.p)) (hWl : valueAt kW 4 = some (.ref b.w0)) :
   ExLoop w C c oR oW kR kW now tn K #[.int 4 t] cs₀ nc (b.led 4 ++ rest) (Fin1 c C oR oW b cs₀ rest now K) := by
  intro A E s env h₀ x body Q l fl nn nf m₀ hh F N hl hfl hp turn done
  refine loop_S (σ := Unit) (vs := [.int 4 t]) (nn := nn) (fun _ => _) (fun i _ nx => if i = 0 then nx = (fl, listOf #[] nf) :: (c.P, instObj 187 c.dP) :: (c.dP, c.d C) :: (c.R, oR) :: (c.W, oW) :: (C, listOf cs₀.toArray nc) :: (b.led 4 ++ rest) else Fin1 c C oR oW b cs₀ rest now K fl nx) () hh F N hl hp (by rw [if_pos rfl]) ?_ ?_
  · intro i v _ nx u h tk own hv hsep hJ F₁ N₁
    obtain rfl : i = 0 := by
      cases i with
      | zero => rfl
      | succ i => simp at hv
    rw [if_pos rfl] at hJ
    subst hJ
    cases hv
    have S0 : Sep ((fl, listOf #[] nf) :: pupLed c C 4 b oR oW cs₀ nc []) rest := sep_mk hfl hA
    have S1 : Sep ((fl, listOf #[] nf) :: pupLed c C 4 b oR oW cs₀ nc []) (rest ++ own) := S0.own fun p hp b hb => hsep p hp b (by
      rw [show ((fl, listOf #[] nf) :: (c.P, instObj 187 c.dP) :: (c.dP, c.d C) :: (c.R, oR) :: (c.W, oW) :: (C, listOf cs₀.toArray nc) :: (PBlk.led 4 _ ++ rest)) = ((fl, listOf #[] nf) :: pupLed c C 4 _ oR oW cs₀ nc []) ++ rest from rfl, List.map_append]
      exact List.mem_append_left _ hb)
    refine wpAny_mono (turn 4 t ⟨[], nf, cs₀, nc, []⟩ b (rest ++ own) u h tk (by show 0 < 1000; omega) (by show cs₀.length < 1000; omega) (Nat.lt_of_le_of_lt hok.len (by omega)) hok hRl (by rw [hRl]; rfl) hWl S1 F₁ N₁) ?_ fun _ _ e => e
    rintro f s₂ ⟨hf, a', b', h', tk', m', rfl, F', hp', N', S', c1, c2, c3, ⟨t', c4⟩, us', c5, c6⟩
    have key : InvEndG h₀ env.locals (fun m' nx' => ∃ _ : Unit, (∀ p ∈ [(Str.ofString "self", Value.ref c.P), (Str.ofString "now", .int now tn), (Str.ofString "found", .ref fl)], m' p.1 = some p.2) ∧ if 0 + 1 = 0 then nx' = (fl, listOf #[] nf) :: (c.P, instObj 187 c.dP) :: (c.dP, c.d C) :: (c.R, oR) :: (c.W, oW) :: (C, listOf cs₀.toArray nc) :: (b.led 4 ++ rest) else Fin1 c C oR oW b cs₀ rest now K fl nx') own { s with heap := h, toks := tk } { s with heap := h', toks := tk' } := by
      refine InvEndG.intro (nx := exHead c C fl oR oW a' ++ (a'.tl ++ (b'.led 4 ++ rest))) F' N' ⟨(), hp', ?_⟩ ?_ ?_ ?_
      · rw [if_neg (by decide)]
        refine ⟨a', b', rfl, S'.mono fun q hq => List.mem_append_left _ hq, c1, c2, c3, ?_, ?_⟩
        · rw [c4]
          cases (prtGo now b.x).2
          · exact .nil
          · exact .cons _ _ .nil
        · rw [c5, List.length_append, c6.length]
          cases (prtGo now b.x).2
          · exact Nat.le_succ _
          · exact Nat.le_refl _
      · intro p hp q hq
        obtain ⟨z, hz, rfl⟩ := List.mem_map.mp hq
        have : z ∈ exLa c C fl oR oW a' ++ b'.led 4 ∨ z ∈ rest := by
          rw [← List.append_assoc, ← List.append_assoc] at hz
          rcases List.mem_append.mp hz with h | h
          · exact .inl h
          · exact .inr h
        rcases this with h | h
        · exact S'.2 z h p (List.mem_append_right _ hp)
        · exact hsep p hp _ (List.mem_map.mpr ⟨z, md6 (List.mem_append_right _ h), rfl⟩)
      · intro q hq
        simp only [exLa, List.mem_append] at hq ⊢
        rcases hq with h | h | h | h
        · exact .inl (.inl h)
        · exact .inl (.inr h)
        · exact .inr (.inl h)
        · exact .inr (.inr (.inl h))
      · intro q hq
        simp only [List.mem_append]
        exact .inr (.inr (.inr hq))
    cases f with
    | ret v => exact hf.elim
    | brk => exact hf.elim
    | next => exact key
    | cont => exact key
  · intro _ nx u h tk hJ F₁ N₁
    rw [if_neg (show ¬ [Value.int 4 t].length = 0 from Nat.succ_ne_zero 0)] at hJ
    exact done nx u h tk hJ F₁ N₁
end
section
section
variable {w : World} {c : PC} {C : Addr} {b : PBlk} {oR oW : Obj} {cs : List Value} {nc K : Nat} {X : List (Addr × Obj)} {x : PW} {most : Option Int} {now : Int} {tn tnw : Tok}
/-- a Ports of the one port 4 -/
structure Good1 (w : World) (c : PC) (C : Addr) (b : PBlk) (oR oW : Obj) (cs : List Value) (nc : Nat) (X : List (Addr × Obj)) (K : Nat) (x : PW) : Prop where
  sep : Sep (pupLed c C 4 b oR oW cs nc []) X
  ok : b.Ok K
  x : b.x = x
  cl : cs.length ≤ K
  hR : IntD w oR [(4, .ref b.p)]
  hW : IntD w oW [(4, .ref b.w0)]
  hRn : (c.R == sysModules) = false
theorem Good1.next {b' : PBlk} {cs' : List Value} {nc' : Nat} {x' : PW} (G : Good1 w c C b oR oW cs nc X K x) (ok : b'.Ok (K + 1)) (hx : b'.x = x') (ha : b'.p = b.p ∧ b'.dp = b.dp ∧ b'.w0 = b.w0 ∧ b'.dw = b.dw) (hu : b'.u = b.u ∨ Off b'.u (pupLed c C 4 b oR oW cs nc X)) (hc : cs'.length ≤ cs.length + 1) :
    Good1 w c C b' oR oW cs' nc' X (K + 1) x' :=
  ⟨pup_sep G.sep ha hu, ok, hx, Nat.le_trans hc (Nat.succ_le_succ G.cl), by rw [ha.1]; exact G.hR, by rw [ha.2.2.1]; exact G.hW, G.hRn⟩
theorem Added.len {n : Int} {f v : Bool} {old : List (Addr × Obj)} {u : Addr} {cs cs' : List Value} {t : List (Addr × Obj)} (h : Added n f old u cs v cs' t) : cs'.length ≤ cs.length + 1 := by
  cases h with
  | no => exact Nat.le_succ _
  | yes a tk _ _ => rw [List.length_append]; exact Nat.le_refl _
theorem pup_drop {n : Int} {t : List (Addr × Obj)} : ∀ q ∈ pupLed c C n b oR oW cs nc X, q ∈ pupLed c C n b oR oW cs nc (t ++ X) :=
  sub_cons mm0 (sub_cons mm1 (sub_cons mm2 (sub_cons mm3 (sub_cons mm4 (sub_cons mm5 (sub_cons mm6 (sub_cons mm7 (sub_cons mm8 (sub_cons mm9 fun q hq => md10 (List.mem_append_right _ hq))))))))))
theorem up4 (hm : HeldV c.mv most) (G : Good1 w c C b oR oW cs nc X K x) (hK : K < 900) :
    Spec 3 w 163 [.ref c.P, .int 4 tn, .int now tnw] (pupLed c C 4 b oR oW cs nc X)
      (fun r nx => ∃ b' cs' nc' tk, r = .str (prtUp now most c.span c.hold x).2.str tk ∧ nx = pupLed c C 4 b' oR oW cs' nc' X ∧ Good1 w c C b' oR oW cs' nc' X (K + 1) (prtUp now most c.span c.hold x).1) := by
  refine (pup_spec w c C 4 now b oR oW _ _ most tn tnw cs nc K X G.sep hm G.ok (by omega) (Nat.lt_of_le_of_lt G.cl (by omega)) G.hR rfl rfl G.hRn G.hW rfl).conv (fun _ h => h) ?_
  rintro r nx ⟨b', k, cs', nc', t, tk, e, rfl, ok, ha, hu, had, rfl⟩
  rw [G.x] at e
  refine ⟨pupLed c C 4 b' oR oW cs' nc' X, ?_, b', cs', nc', tk, by rw [e], rfl, G.next ok (by rw [e]) ha hu had.len⟩
  exact pup_drop
theorem down4 (G : Good1 w c C b oR oW cs nc X K x) (hK : K < 900) :
    Spec 3 w 170 [.ref c.P, .int 4 tn] (pupLed c C 4 b oR oW cs nc X)
      (fun r nx => ∃ b' cs' nc' tk, r = .str (prtDown x).2.str tk ∧ nx = pupLed c C 4 b' oR oW cs' nc' X ∧ Good1 w c C b' oR oW cs' nc' X (K + 1) (prtDown x).1) := by
  refine (pdown_spec w c C 4 b oR oW _ _ tn cs nc X G.sep (Nat.lt_of_le_of_lt G.cl (by omega)) G.hR rfl rfl G.hRn G.hW rfl).conv (fun _ h => h) ?_
  rintro r nx ⟨up, k, cs', nc', t, tk, e, rfl, had, rfl⟩
  rw [G.x] at e
  refine ⟨_, ?_, { b with x := ⟨up, false, b.x.held, b.x.ups⟩ }, cs', nc', tk, by rw [e], rfl, G.next ⟨G.ok.held, G.ok.itsI, Nat.le_succ_of_le G.ok.len⟩ (by rw [e, G.x]) ⟨rfl, rfl, rfl, rfl⟩ (.inl rfl) had.len⟩
  exact pup_drop
theorem exp4 (G : Good1 w c C b oR oW cs nc X K x) (hK : K < 900) :
    Spec 3 w 177 [.ref c.P, .int now tn] (pupLed c C 4 b oR oW cs nc X)
      (fun r nx => ∃ fl vs nf b' cs' nc', r = .ref fl ∧ nx = (fl, listOf vs.toArray nf) :: pupLed c C 4 b' oR oW cs' nc' X ∧ Off fl (pupLed c C 4 b' oR oW cs' nc' X) ∧ IntsAre vs (if (prtGo now x).2 then [4] else []) ∧ Good1 w c C b' oR oW cs' nc' X (K + 1) (prtGo now x).1) := by
  refine (exp_gen w c C oR oW _ _ cs nc (b.led 4 ++ X) now tn K _ (Fin1 c C oR oW b cs X now K) G.hR G.hRn G.hW (num1_spec w C c oR _ G.hR G.hRn) ?_).conv (fun _ h => h) ?_
  · rintro v ⟨t, rfl⟩
    exact ex_loop1 w c C oR oW b _ _ cs nc X now tn t K G.sep (by omega) (Nat.lt_of_le_of_lt G.cl (by omega)) G.ok rfl rfl
  · rintro r nx ⟨fl, rfl, a, b', rfl, S, ha, ok, hx, hv, hc⟩
    have S2 : Sep ((fl, listOf a.vs.toArray a.n) :: pupLed c C 4 b' oR oW a.cs a.nc []) X := by
      have S3 : Sep (exHead c C fl oR oW a ++ (a.tl ++ b'.led 4)) X := by rw [← List.append_assoc]; exact S
      have S4 : Sep ((exHead c C fl oR oW a ++ b'.led 4) ++ a.tl) X := S3.perm (by rw [List.append_assoc]; exact List.Perm.append_left _ List.perm_append_comm)
      have S5 := (sep_append.mp S4).1
      exact S5.mono fun q hq => List.mem_append_right _ hq
    obtain ⟨o1, S3⟩ := sep_c S2
    refine ⟨(fl, listOf a.vs.toArray a.n) :: pupLed c C 4 b' oR oW a.cs a.nc X, ?_, fl, a.vs, a.n, b', a.cs, a.nc, rfl, rfl, o1, by rw [← G.x]; exact hv, ⟨S3, ok, by rw [hx, G.x], Nat.le_trans hc (Nat.succ_le_succ G.cl), by rw [ha.1]; exact G.hR, by rw [ha.2]; exact G.hW, G.hRn⟩⟩
    exact sub_cons mm0 (sub_cons mm1 (sub_cons mm2 (sub_cons mm3 (sub_cons mm4 (sub_cons mm5 fun q hq => md6 (List.mem_append_right (bs := b'.led 4 ++ X) a.tl hq))))))
theorem Good1.mono {X' : List (Addr × Obj)} (G : Good1 w c C b oR oW cs nc X K x) (h : Sep (pupLed c C 4 b oR oW cs nc []) X') : Good1 w c C b oR oW cs nc X' K x := ⟨h, G.ok, G.x, G.cl, G.hR, G.hW, G.hRn⟩
end
end
section
@[reducible] def H5 (c : PC) (C : Addr) (oR oW : Obj) (cs : List Value) (nc : Nat) : List (Addr × Obj) := [(c.P, instObj 187 c.dP), (c.dP, c.d C), (c.R, oR), (c.W, oW), (C, listOf cs.toArray nc)]
theorem ports_g (w : World) (mv : Value) (hmv : handedIn mv = true) (span hold : Int) (ts th : Tok) (rest : List (Addr × Obj)) :
   Spec 2 w 187 [mv, .int span ts, .int hold th] rest (fun r nx => ∃ (c : PC) (C : Addr) (oR oW : Obj) (nC : Nat), r = .ref c.P ∧ (c.mv = mv ∧ c.span = span ∧ c.hold = hold) ∧ nx = H5 c C oR oW [] nC ++ rest ∧ Sep (H5 c C oR oW [] nC) rest ∧ IntD w oR [] ∧ IntD w oW [] ∧ (c.R == sysModules) = false ∧ (c.W == sysModules) = false) := by
  refine (ports_new w mv hmv span hold ts th rest).conv (fun _ h => h) ?_
  rintro r nx ⟨c, C, oR, oW, nC, rfl, h, rfl, S, h2⟩
  refine ⟨H5 c C oR oW [] nC ++ rest, sub_cons mm3 (sub_cons mm4 (sub_cons mm2 (sub_cons mm1 (sub_cons mm0 fun q hq => md5 hq)))), c, C, oR, oW, nC, rfl, h, rfl, S.perm ?_, h2⟩
  exact ((List.perm_append_comm_assoc [_] [_] [_, _, _]).trans ((List.Perm.cons _ (List.perm_append_comm_assoc [_] [_] [_, _])).trans (List.perm_append_comm_assoc [_, _] [_] [_, _] |>.trans ((List.perm_append_comm_assoc [_, _, _] [_, _] []).trans (List.Perm.cons _ (List.Perm.cons _ (List.perm_append_comm_assoc [_] [_] [_] |>.trans (List.perm_append_comm_assoc [_, _] [_] [] |>.trans (.refl _)))))))))
theorem add_g (w : World) (c : PC) (C p dp : Addr) (kp : Ks) (n : Int) (tn : Tok) (spd fv mtu : Value) (up : Bool) (oR oW : Obj) (kR kW : List (Int × Value)) (cs : List Value) (nc : Nat) (Bs rest : List (Addr × Obj))
   (S : Sep (H5 c C oR oW cs nc ++ Bs) rest) (o1 : Off p ((dp, portD kp n tn spd up fv mtu) :: (H5 c C oR oW cs nc ++ (Bs ++ rest)))) (o2 : Off dp (H5 c C oR oW cs nc ++ (Bs ++ rest))) (hn : 1 ≤ n) (hR : IntD w oR kR) (hW : IntD w oW kW) (hRn : (valueAt kR n).isSome = false) (hWn : (valueAt kW n).isSome = false) (hRl : kR.length ≤ 5) (hWl : kW.length ≤ 5) (hRs : (c.R == sysModules) = false) (hWs : (c.W == sysModules) = false) :
   Spec 4 w 135 [.ref c.P, .ref p] ((p, instObj 76 dp) :: (dp, portD kp n tn spd up fv mtu) :: (H5 c C oR oW cs nc ++ (Bs ++ rest)))
     (fun r nx => r = .none ∧ ∃ (b : PBlk) (oR' oW' : Obj), nx = H5 c C oR' oW' cs nc ++ ((b.led n ++ Bs) ++ rest) ∧ Sep (H5 c C oR' oW' cs nc ++ (b.led n ++ Bs)) rest ∧ b.p = p ∧ b.Ok 0 ∧ b.x = ⟨up, up, none, []⟩ ∧ IntD w oR' (stored kR n (.ref p)) ∧ IntD w oW' (stored kW n (.ref b.w0))) := by
  have S1 : Sep ((p, instObj 76 dp) :: (dp, portD kp n tn spd up fv mtu) :: (H5 c C oR oW cs nc ++ Bs)) rest := sep_mk (by rw [List.cons_append, List.append_assoc]; exact o1) (sep_mk (by rw [List.append_assoc]; exact o2) S)
  have S2 : Sep ([(c.P, instObj 187 c.dP), (c.dP, c.d C), (c.R, oR), (c.W, oW), (p, instObj 76 dp), (dp, portD kp n tn spd up fv mtu)] ++ ((C, listOf cs.toArray nc) :: Bs)) rest :=
    S1.perm (List.perm_append_comm_assoc [_, _] [_, _, _, _] ((C, listOf cs.toArray nc) :: Bs))
  obtain ⟨S3, S4⟩ := sep_append.mp S2
  refine (add_spec w c C p dp kp n tn spd fv mtu up oR oW kR kW (((C, listOf cs.toArray nc) :: Bs) ++ rest) S3 hn hR hW hRn hWn hRl hWl hRs hWs).conv ?_ ?_
  · exact sub_cons mm2 (sub_cons mm3 (sub_cons mm4 (sub_cons mm5 (sub_cons mm0 (sub_cons mm1 fun q hq => md6 hq)))))
  · rintro r nx ⟨rfl, w0, dw, u, kw, nu, oR', oW', rfl, S5, iR, iW⟩
    refine ⟨H5 c C oR' oW' cs nc ++ ((PBlk.led n ⟨p, dp, w0, dw, u, kp, kw, tn, spd, fv, mtu, .none, [], nu, ⟨up, up, none, []⟩⟩ ++ Bs) ++ rest), ?_, rfl, ⟨p, dp, w0, dw, u, kp, kw, tn, spd, fv, mtu, .none, [], nu, ⟨up, up, none, []⟩⟩, oR', oW', rfl, ?_, rfl, ⟨.none, .nil, Nat.zero_le _⟩, rfl, iR, iW⟩
    · exact sub_cons mm3 (sub_cons mm4 (sub_cons mm5 (sub_cons mm6 (sub_cons mm9 (sub_cons mm7 (sub_cons mm8 (sub_cons mm1 (sub_cons mm2 (sub_cons mm0 fun q hq => md10 hq)))))))))
    · have S6 : Sep (([(u, listOf ([] : List Value).toArray nu), (w0, instObj 109 dw), (dw, watchD kw u .none up)] ++ [(c.P, instObj 187 c.dP), (c.dP, c.d C), (c.R, oR'), (c.W, oW'), (p, instObj 76 dp), (dp, portD kp n tn spd up fv mtu)]) ++ ((C, listOf cs.toArray nc) :: Bs)) rest :=
        sep_append.mpr ⟨sep_append.mpr ⟨S5, sep_addr S3 rfl⟩, S4⟩
      refine S6.perm ?_
      show ([(u, _), (w0, _), (dw, _)] ++ ([(c.P, _), (c.dP, _), (c.R, _), (c.W, _)] ++ ([(p, _), (dp, _)] ++ ((C, _) :: Bs)))).Perm ([(c.P, _), (c.dP, _), (c.R, _), (c.W, _)] ++ ((C, _) :: ([(p, _), (dp, _)] ++ ([(w0, _), (dw, _), (u, _)] ++ Bs))))
      refine (List.perm_append_comm_assoc _ _ _).trans (List.Perm.append_left _ ?_)
      refine (List.perm_append_comm_assoc _ _ _).trans ?_
      refine (List.Perm.append_left _ (List.perm_append_comm_assoc _ [_] _)).trans ?_
      exact (List.perm_append_comm_assoc _ [_] _).trans (List.Perm.cons _ (List.Perm.append_left [(p, _), (dp, _)] (List.perm_append_comm_assoc [_] [_, _] Bs)))
end
section
example : True := by
  k_with_none
  k_with "K_ALL" => (first | assumption | exact List.forall_mem_nil _ | (refine' off_as 0 ?h8 ?m8; (case h8 => assumption); (case m8 => k_dflt (exact rfl))) | (refine' lt_as 0 ?h7 ?m7; (case h7 => assumption); (case m7 => k_dflt (exact rfl))) | (refine' off_c ?a9 ?b9; (case a9 => k_ne); (case b9 => k_all)) | (refine' List.forall_mem_cons.mpr ⟨?a, ?b⟩; (case a => k_ne); (case b => k_all)) | (refine' lt_off ?h9 ?m9; (case h9 => assumption); (case m9 => intro q9 hq9; (repeat (first | exact hq9 | refine List.Mem.tail _ ?_)))) | (refine' off_sub ?h9 ?m9; (case h9 => assumption); (case m9 => intro q9 hq9; (repeat (first | exact hq9 | refine List.Mem.tail _ ?_)))))
  k_with "K_NE" => (first | assumption | exact Ne.symm (by assumption) | (refine' lt_ne ?h9 ?m9; (case h9 => assumption); (case m9 => k_mem)) | (refine' lt_ne' ?h9 ?m9; (case h9 => assumption); (case m9 => k_mem)) | (refine' off_ne ?h9 ?m9; (case h9 => assumption); (case m9 => k_mem)) | (refine' off_ne' ?h9 ?m9; (case h9 => assumption); (case m9 => k_mem)) | (refine' lt_ne1 ?h9 ?m9; (case h9 => assumption); (case m9 => k_mem)) | (refine' lt_ne1' ?h9 ?m9; (case h9 => assumption); (case m9 => k_mem)) | (refine' lt_ne2 ?h9 ?m9; (case h9 => assumption); (case m9 => k_mem)) | (refine' lt_ne2' ?h9 ?m9; (case h9 => assumption); (case m9 => k_mem)) | (refine' lt_ne3 ?h9 ?m9; (case h9 => assumption); (case m9 => k_mem)) | (refine' lt_ne3' ?h9 ?m9; (case h9 => assumption); (case m9 => k_mem)) | (refine neN ?_; (try dsimp only); omega))
  k_with "K_MEM" => (first | with_reducible assumption | exact mm0 | exact mm1 | exact mm2 | exact mm3 | exact mm4 | exact mm5 | exact mm6 | exact mm7 | exact mm8 | exact mm9 | exact mm10 | exact mm11 | exact mm12 | ((repeat (first | with_reducible assumption | exact List.Mem.head _ | (refine mem_in ?_; with_reducible assumption) | refine' List.Mem.tail _ ?_)); done))
  k_with "K_SUB" => (first | exact hq | exact md1 hq | exact md2 hq | exact md3 hq | exact md4 hq | exact md5 hq | exact md6 hq | exact md7 hq | exact md8 hq | exact md9 hq | exact md10 hq | exact md11 hq | exact md12 hq | exact md13 hq | exact md14 hq | (repeat (first | exact hq | refine List.Mem.tail _ ?_)))
  k_with "ENTER" => (first | (refine' code_def ?k1 ?k2 ?k3 ?k4 ?k5 ?kA ?kF ?kK ?k6 ?k7 ?k8 ?k9 ?kB ?_ ?c2 ?c3 ?c4 ?c5; (case kA => exact rfl); (case kF => exact rfl); (case kK => first | assumption | exact rfl); (case k1 => k_asm); (case k2 => k_asm); (case k3 => k_asm); (case k4 => k_asm); (case k5 => k_asm); (case k6 => k_is); (case k7 => k_is); (case k8 => k_room); (case k9 => first | exact BindsTo.of_eq rfl | exact binds_K (by k_in) rfl (by k_is) rfl rfl rfl); (case c5 => decide); (case kB => exact locs rfl); (case c2 => exact rfl); (case c3 => exact rfl); (case c4 => exact rfl); k_whole; intro g' L' h' FG' F' N' B' X' T'; (try dsimp only); (try k_lift B'); (try k_fold)) | (refine' code_defC ?k1 ?k2 ?k3 ?k4 ?k5 ?kA ?kF ?kK ?k6 ?k7 ?k8 ?k9 ?kB ?kD ?_ ?c2 ?c3 ?c4; (case kA => exact rfl); (case kF => exact rfl); (case kK => first | assumption | exact rfl); (case k1 => k_asm); (case k2 => k_asm); (case k3 => k_asm); (case k4 => k_asm); (case k5 => k_asm); (case k6 => k_is); (case k7 => k_is); (case k8 => k_room); (case k9 => first | exact BindsTo.of_eq rfl | exact binds_K (by k_in) rfl (by k_is) rfl rfl rfl); (case kB => exact rfl); (case kD => decide +kernel); (case c2 => exact rfl); (case c3 => exact rfl); (case c4 => exact rfl); k_whole; intro g' L' h' tk' cells' FG' F' N' Y' B' X' T' l1; (try k_lt l1); k_cells Y'; (try simp only [List.cons_append, List.nil_append] at N'); (try dsimp only); (try k_lift B'); (try k_fold)))
  k_with "X FinE" => (((unfold LCg.FinE); intro D' h' tk' F' N' o1'; (have oD' := off_of_off1 o1'); (clear o1'); (try simp only [List.nil_append, List.cons_append] at N'); (try dsimp only)))
  k_with "X ALC" => ((k_here; with_reducible refine plainObj_wpAny_Assign_Attribute ?_ ?_; rotate_left; with_unfolding_all rfl))
  k_with "X FinA" => ((unfold LCg.FinA); intro upsA h' tk' F' N' o1'; (have oU := off_of_off1 o1'); (clear o1'); (try simp only [List.nil_append, List.cons_append] at N'); (try dsimp only))
  k_with "X FOR" => ((k_here; (rename Fr _ _ _ _ => lF'); (with_unfolding_all refine' For_invVF lF' ?k1 ?k2 ?_; (case k1 => exact rfl); (case k2 => exact rfl); k_whole)))
  k_with "K_ROOM" => (first | k_dflt (first | exact room_0 hd | exact room_of 1 hd | exact room_of 2 hd | exact room_of 3 hd | exact room_of 4 hd | exact room_of 5 hd | exact room_of 6 hd | exact room_of 7 hd | exact room_of 8 hd) | ktr_room)
  k_with "K_UNITS" => (first | k_dflt (first | exact units_of 103 hu | exact units_of 303 hu | exact units_of 203 hu | exact units_of 67 hu | exact units_of 503 hu | exact units_of 403 hu) | ktr_units)
  k_with "binaryOp Add ref ref" => (k_here; (with_reducible show wpAny _ _ (binaryOp _ (Value.ref _) (Value.ref _)) _ _ _); k_dflt (refine' addl_at ?k1 ?k2 ?k3 ?k4 ?k5 ?k6 ?_; (case k1 => k_asm); (case k2 => k_asm); (case k3 => k_mem); (case k4 => k_mem); (case k5 => first | assumption | decide | (simp only [List.length_cons, List.length_nil]; omega)); (case k6 => first | assumption | decide | (simp only [List.length_cons, List.length_nil]; omega)); k_whole); intro l' h' F' N' l1; (try k_lt l1); (try k_sweep))
  k_with "CompSrcT" => (k_here; k_dflt (refine LCt.CompSrcT.ledger (by rfl) (by k_asm) (by k_asm) (by k_mem) (by rw [sizeLine_eq, List.size_toArray]; omega) ?_); intro g'; k_dflt (refine' rest_filter _ ?hf ?hi ?hS (fun i9 t9 I9 oI9 C9 oC9 D9 ys9 m9 h' tk9 E9 hi9 hC9 hx9 F' N' off9 ne9 => ?_) (fun ys9 hys9 => ?_); (case hf => assumption); (case hi => assumption); (case hS => exact Or.inr ⟨_, by k_mem, rfl, _, rfl⟩)); (try k_fold))
  k_with "TestEnd" => (refine TestEnd.intro ?_ (by k_asm) (by k_asm); rfl)
  k_with "call builtin:len cons nil" => (k_here; (with_reducible show wpAny _ _ (call (Value.builtin "len") [Value.ref _]) _ _ _); k_dflt (refine' len_filt ?k1 ?k2 ?k3 ?k4 ?k5 ?_; (case k1 => k_asm); (case k2 => k_mem); (case k3 => assumption); (case k4 => assumption); (case k5 => assumption); k_whole))
  k_with "subscriptTail Attribute Name Name ref int" => (k_here; (with_reducible show wpAny _ _ (subscriptTail _ _ (Value.ref _) (Value.int _ _)) _ _ _); (try (k_dflt (refine kba_turn (value' := PySem.Expr.Name (PySem.Str.ofString "_") ⟨0, 0, 0, 0⟩) (fun _ => rfl) ?_))); k_dflt (refine' kda_item (knd := PySem.intKind _ _) ?N ?m ?d (intKind_is _ _ _ _) ?l ?_; (case N => k_asm); (case m => k_mem); (case d => assumption); (case l => assumption); k_whole))
  k_with "subscriptTail Name Name ref int" => (k_here; (with_reducible show wpAny _ _ (subscriptTail _ _ (Value.ref _) (Value.int _ _)) _ _ _); (try (k_dflt (refine kba_turn (value' := PySem.Expr.Name (PySem.Str.ofString "_") ⟨0, 0, 0, 0⟩) (fun _ => rfl) ?_))); k_dflt (refine' kda_item (knd := PySem.intKind _ _) ?N ?m ?d (intKind_is _ _ _ _) ?l ?_; (case N => k_asm); (case m => k_mem); (case d => assumption); (case l => assumption); k_whole))
  k_with "compareOp NotIn int ref" => (k_here; k_dflt (refine' kdg_notin (knd := PySem.intKind _ _) ?N ?m ?d ?lo (intKind_is _ _ _ _) true ?hb ?_; (case N => k_asm); (case m => k_mem); (case d => assumption); (case lo => assumption); (case hb => assumption); k_whole))
  k_with "call builtin:list.append nil" => (k_here; k_dflt (refine' append_at ?k1 ?k2 ?k3 ?k4 ?_; (case k1 => k_asm); (case k2 => k_asm); (case k3 => k_updF); (case k4 => first | assumption | exact filt_len (by assumption) (by assumption) (by assumption)); k_whole); intro h' F' N'; (try dsimp only at N'); (try k_sweep))
  k_with "call builtin:list.append cons nil" => (k_here; k_dflt (refine' append_at ?k1 ?k2 ?k3 ?k4 ?_; (case k1 => k_asm); (case k2 => k_asm); (case k3 => k_updF); (case k4 => first | assumption | exact filt_len (by assumption) (by assumption) (by assumption)); k_whole); intro h' F' N'; (try dsimp only at N'); (try k_sweep))
  k_with "call builtin:sorted cons nil" => (k_here; (with_reducible show wpAny _ _ (call (Value.builtin "sorted") [Value.ref _]) _ _ _); k_dflt (refine' sorted_at rfl ?k1 ?k2 ?k3 ?k4 ?k5 ?_; (case k1 => k_asm); (case k2 => k_asm); (case k3 => k_mem); (case k4 => assumption); (case k5 => assumption); k_whole); intro B' h' tk9 t3' t1' t2' F' N' l1; (try k_lt l1))
  exact trivial
def nowAt (i : Nat) : Int := ([0, 9, 10, 11] : List Int).getD i 0
def st4 : Nat → PW
  | 0 => ⟨false, false, none, []⟩
  | i + 1 => (prtDown (prtUp (nowAt i) (some 2) 10 5 (st4 i)).1).1
def kd4 (i : Nat) : Str := (prtUp (nowAt i) (some 2) 10 5 (st4 i)).2.str
theorem told_off {c : PC} {C a : Addr} {o oR oW : Obj} {b : PBlk} {cs : List Value} {nc : Nat} {n : Int} {R : List (Addr × Obj)} (S : Sep (pupLed c C n b oR oW cs nc []) ((a, o) :: R)) (h : Off a R) : Off a (pupLed c C n b oR oW cs nc R) := fun q hq => by
  rcases List.mem_append.mp (show q ∈ pupLed c C n b oR oW cs nc [] ++ R from hq) with hq | hq
  · exact (S.2 q hq (a, o) (.head _)).symm
  · exact h q hq
theorem pup_out {c : PC} {C : Addr} {oR oW : Obj} {b : PBlk} {cs : List Value} {nc : Nat} {n : Int} {R : List (Addr × Obj)} {x : Addr × Obj} : ∀ q ∈ x :: pupLed c C n b oR oW cs nc R, q ∈ pupLed c C n b oR oW cs nc (x :: R) :=
  sub_cons mm10 (sub_cons mm0 (sub_cons mm1 (sub_cons mm2 (sub_cons mm3 (sub_cons mm4 (sub_cons mm5 (sub_cons mm6 (sub_cons mm7 (sub_cons mm8 (sub_cons mm9 fun q hq => md11 hq))))))))))
theorem pup_in {c : PC} {C : Addr} {oR oW : Obj} {b : PBlk} {cs : List Value} {nc : Nat} {n : Int} {R : List (Addr × Obj)} {x : Addr × Obj} : ∀ q ∈ pupLed c C n b oR oW cs nc (x :: R), q ∈ x :: pupLed c C n b oR oW cs nc R :=
  sub_cons mm1 (sub_cons mm2 (sub_cons mm3 (sub_cons mm4 (sub_cons mm5 (sub_cons mm6 (sub_cons mm7 (sub_cons mm8 (sub_cons mm9 (sub_cons mm10 (sub_cons mm0 fun q hq => md11 hq))))))))))
theorem Good1.obj {w : World} {c : PC} {C a : Addr} {o o' oR oW : Obj} {b : PBlk} {cs : List Value} {nc K : Nat} {R : List (Addr × Obj)} {x : PW} (G : Good1 w c C b oR oW cs nc ((a, o) :: R) K x) : Good1 w c C b oR oW cs nc ((a, o') :: R) K x :=
  G.mono ⟨G.sep.1, fun q hq => off_cons.mpr (off_cons.mp (G.sep.2 q hq))⟩
theorem Good1.put {w : World} {c : PC} {C a : Addr} {o oR oW : Obj} {b : PBlk} {cs : List Value} {nc K : Nat} {R : List (Addr × Obj)} {x : PW} (G : Good1 w c C b oR oW cs nc R K x) (h : Off a (pupLed c C 4 b oR oW cs nc R)) : Good1 w c C b oR oW cs nc ((a, o) :: R) K x :=
  G.mono ⟨G.sep.1, fun q hq => off_cons.mpr ⟨(h q (show q ∈ pupLed c C 4 b oR oW cs nc [] ++ R from List.mem_append_left _ hq)).symm, G.sep.2 q hq⟩⟩
structure S4 where
  b : PBlk
  cs : List Value
  nc : Nat
  vs : List Value
  nt : Nat
def J4 (w : World) (c : PC) (C told : Addr) (oR oW : Obj) (rest : List (Addr × Obj)) (i : Nat) (s : S4) (nx : List (Addr × Obj)) : Prop :=
  nx = (told, listOf s.vs.toArray s.nt) :: pupLed c C 4 s.b oR oW s.cs s.nc rest ∧ Good1 w c C s.b oR oW s.cs s.nc ((told, listOf s.vs.toArray s.nt) :: rest) (i + i) (st4 i) ∧ StrsAre s.vs ((List.range i).map kd4) ∧ Off told rest
theorem J4.own {w : World} {c : PC} {C told : Addr} {oR oW : Obj} {rest own : List (Addr × Obj)} {i : Nat} {s : S4} {nx : List (Addr × Obj)} (J : J4 w c C told oR oW rest i s nx) (h : OwnOff own (nx.map (·.1))) :
    Good1 w c C s.b oR oW s.cs s.nc ((told, listOf s.vs.toArray s.nt) :: (rest ++ own)) (i + i) (st4 i) ∧ Off told (rest ++ own) := by
  obtain ⟨rfl, G, _, hto⟩ := J
  have h2 : ∀ q ∈ (told, listOf s.vs.toArray s.nt) :: pupLed c C 4 s.b oR oW s.cs s.nc rest, Off q.1 own := fun q hq p hp => h p hp _ (List.mem_map.mpr ⟨q, hq, rfl⟩)
  refine ⟨G.mono ⟨G.sep.1, fun q hq => ?_⟩, off_append.mpr ⟨hto, h2 _ (.head _)⟩⟩
  obtain ⟨p1, p2⟩ := off_cons.mp (G.sep.2 q hq)
  exact off_cons.mpr ⟨p1, off_append.mpr ⟨p2, h2 q (.tail _ (show q ∈ pupLed c C 4 s.b oR oW s.cs s.nc [] ++ rest from List.mem_append_left _ hq))⟩⟩
theorem strs_snoc {vs : List Value} {ys : List Str} {y : Str} {t : Tok} : StrsAre vs ys → StrsAre (vs ++ [.str y t]) (ys ++ [y])
  | .nil => .cons _ _ .nil
  | .cons _ _ r => .cons _ _ (strs_snoc r)
theorem J4.end {w : World} {c : PC} {C told : Addr} {oR oW : Obj} {rest own : List (Addr × Obj)} {i : Nat} {s : S4} {nx : List (Addr × Obj)} {b : PBlk} {cs vs : List Value} {nc nt : Nat} {t : Tok} (J : J4 w c C told oR oW rest i s nx) (h : OwnOff own (nx.map (·.1)))
    (G : Good1 w c C b oR oW cs nc ((told, listOf vs.toArray nt) :: (rest ++ own)) (i + i + 1 + 1) (st4 (i + 1))) (hv : vs = s.vs ++ [.str (kd4 i) t]) :
    J4 w c C told oR oW rest (i + 1) ⟨b, cs, nc, vs, nt⟩ ((told, listOf vs.toArray nt) :: pupLed c C 4 b oR oW cs nc rest) ∧ OwnOff own (((told, listOf vs.toArray nt) :: pupLed c C 4 b oR oW cs nc rest).map (·.1)) := by
  obtain ⟨rfl, G0, hs, hto⟩ := J
  subst hv
  refine ⟨⟨rfl, ?_, ?_, hto⟩, ?_⟩
  · rw [show i + 1 + (i + 1) = i + i + 1 + 1 by omega]
    exact G.mono (G.sep.mono fun q hq => by
      rcases List.mem_cons.mp hq with rfl | hq
      · exact .head _
      · exact .tail _ (List.mem_append_left _ hq))
  · rw [List.range_succ, List.map_append]
    exact strs_snoc hs
  · intro p hp q hq
    obtain ⟨z, hz, rfl⟩ := List.mem_map.mp hq
    rcases List.mem_cons.mp hz with rfl | hz
    · exact h p hp _ (List.mem_map.mpr ⟨_, .head _, rfl⟩)
    · rcases List.mem_append.mp (show z ∈ pupLed c C 4 b oR oW cs nc [] ++ rest from hz) with hz | hz
      · exact G.sep.2 z hz p (.tail _ (List.mem_append_right _ hp))
      · exact h p hp _ (List.mem_map.mpr ⟨z, .tail _ (show z ∈ pupLed c C 4 _ oR oW _ _ [] ++ rest from List.mem_append_right _ hz), rfl⟩)
def Turn4 (w : World) (c : PC) (C told : Addr) (oR oW : Obj) (R : List (Addr × Obj)) (i : Nat) (vs : List Value) (h₀ : Heap) (L : Addr) (s₁ : Shared) (f : Flow) (s₂ : Shared) : Prop :=
  (match f with | .next => True | .cont => True | _ => False) ∧ ∃ b cs nc nt t h' tk' m', s₂ = { s₁ with heap := h', toks := tk' } ∧ Fr h₀ L h' m' ∧ (∀ p ∈ [(Str.ofString "ports", Value.ref c.P), (Str.ofString "told", .ref told)], m' p.1 = some p.2) ∧
    News h₀ L h' ((told, listOf (vs ++ [Value.str (kd4 i) t]).toArray nt) :: pupLed c C 4 b oR oW cs nc R) ∧ Good1 w c C b oR oW cs nc ((told, listOf (vs ++ [Value.str (kd4 i) t]).toArray nt) :: R) (i + i + 1 + 1) (st4 (i + 1))
theorem Turn4.intro {w : World} {c : PC} {C told : Addr} {oR oW : Obj} {R news : List (Addr × Obj)} {i : Nat} {vs : List Value} {h₀ : Heap} {L : Addr} {s₁ : Shared} {b : PBlk} {cs : List Value} {nc nt : Nat} {t : Tok} {o : Obj} {h' : Heap} {tk' : Nat} {m' : Str → Option Value} (F : Fr h₀ L h' m')
    (hp : ∀ p ∈ [(Str.ofString "ports", Value.ref c.P), (Str.ofString "told", .ref told)], m' p.1 = some p.2) (N : News h₀ L h' news) (sub : ∀ q ∈ (told, listOf (vs ++ [Value.str (kd4 i) t]).toArray nt) :: pupLed c C 4 b oR oW cs nc R, q ∈ news) (G : Good1 w c C b oR oW cs nc ((told, o) :: R) (i + i + 1 + 1) (st4 (i + 1))) :
    Turn4 w c C told oR oW R i vs h₀ L s₁ .next { s₁ with heap := h', toks := tk' } := ⟨trivial, b, cs, nc, nt, t, h', tk', m', rfl, F, hp, news_drop N sub, G.obj⟩
theorem fixed_loop {prog : Program} {w : World} {A : Around} {E : Value → Shared → Prop} {s : Shared} {env : Env} {h₀ : Heap} {x : Str} {body : List Stmt} {Q : Flow → Shared → Prop} {l told C : Addr} {c : PC} {oR oW : Obj} {b : PBlk} {nn n0 nc : Nat} {t1 t2 t3 t4 : Tok} {m₀ : Str → Option Value} {rest : List (Addr × Obj)} (hh : A.handled = none) (F : Fr h₀ env.locals s.heap m₀)
    (N : News h₀ env.locals s.heap ((l, listOf #[.int 0 t1, .int 9 t2, .int 10 t3, .int 11 t4] nn) :: (told, listOf #[] n0) :: pupLed c C 4 b oR oW [] nc rest)) (hl : Off l ((told, listOf #[] n0) :: pupLed c C 4 b oR oW [] nc rest)) (ht : Off told (pupLed c C 4 b oR oW [] nc rest))
    (hp : ∀ p ∈ [(Str.ofString "ports", Value.ref c.P), (Str.ofString "told", .ref told)], m₀ p.1 = some p.2) (G : Good1 w c C b oR oW [] nc rest 0 (st4 0))
    (turn : ∀ i t (σ : S4) R (u : Str → Option Value) h tk, i < 4 → σ.vs.length < 1000 → Off told R → Good1 w c C σ.b oR oW σ.cs σ.nc ((told, listOf σ.vs.toArray σ.nt) :: R) (i + i) (st4 i) →
      Fr h₀ env.locals h (fun y => if y = x then some (.int (nowAt i) t) else kstB u [(Str.ofString "ports", Value.ref c.P), (Str.ofString "told", .ref told)] y) → News h₀ env.locals h ((told, listOf σ.vs.toArray σ.nt) :: pupLed c C 4 σ.b oR oW σ.cs σ.nc R) →
      wpAny (model prog w) A (execs body env) (Turn4 w c C told oR oW R i σ.vs h₀ env.locals { s with heap := h, toks := tk }) E { s with heap := h, toks := tk })
    (done : ∀ (σ : S4) (u : Str → Option Value) h tk, Good1 w c C σ.b oR oW σ.cs σ.nc ((told, listOf σ.vs.toArray σ.nt) :: rest) 8 (st4 4) → StrsAre σ.vs ((List.range 4).map kd4) → Off told rest →
      Fr h₀ env.locals h (fun y => kstB u [(Str.ofString "ports", Value.ref c.P), (Str.ofString "told", .ref told)] y) → News h₀ env.locals h ((told, listOf σ.vs.toArray σ.nt) :: pupLed c C 4 σ.b oR oW σ.cs σ.nc rest) → Q .next { s with heap := h, toks := tk }) :
    wpAny (model prog w) A (pyIter (.ref l)) (fun it s₂ => LoopAtV prog w A h₀ env x body Q E it s₂) E s := by
  refine loop_S (σ := S4) (vs := [.int 0 t1, .int 9 t2, .int 10 t3, .int 11 t4]) (nn := nn) (fun _ => _) (J4 w c C told oR oW rest) ⟨b, [], nc, [], n0⟩ hh F N hl hp ⟨rfl, G.put ht, .nil, off_sub ht fun q hq => md10 hq⟩ ?_ ?_
  · intro i v σ nx u h tk own hv hsep hJ F' N'
    obtain ⟨G1, hto⟩ := hJ.own hsep
    have hk : ∃ t, v = .int (nowAt i) t ∧ i < 4 := by
      match i, hv with
      | 0, hv => exact ⟨_, (Option.some.inj hv).symm, by decide⟩
      | 1, hv => exact ⟨_, (Option.some.inj hv).symm, by decide⟩
      | 2, hv => exact ⟨_, (Option.some.inj hv).symm, by decide⟩
      | 3, hv => exact ⟨_, (Option.some.inj hv).symm, by decide⟩
    obtain ⟨tv, rfl, hi⟩ := hk
    have hJ2 := hJ
    obtain ⟨rfl, -, hst, -⟩ := hJ2
    refine wpAny_mono (turn i tv σ (rest ++ own) u h tk hi (by rw [hst.length, List.length_map, List.length_range]; omega) hto G1 F' N') ?_ fun _ _ e => e
    rintro f s₂ ⟨hf, b', cs', nc', nt', t', h', tk', m', rfl, F', hp', N', G'⟩
    obtain ⟨J', ho⟩ := hJ.end hsep G' rfl
    have key : InvEndG h₀ env.locals (fun m' nx' => ∃ c' : S4, (∀ p ∈ [(Str.ofString "ports", Value.ref c.P), (Str.ofString "told", .ref told)], m' p.1 = some p.2) ∧ J4 w c C told oR oW rest (i + 1) c' nx') own { s with heap := h, toks := tk } { s with heap := h', toks := tk' } :=
      InvEndG.intro F' N' ⟨_, hp', J'⟩ ho (fun q hq => List.mem_append_left own (show q ∈ (told, _) :: pupLed c C 4 b' oR oW cs' nc' rest from hq)) fun q hq => List.mem_append_right ((told, _) :: pupLed c C 4 b' oR oW cs' nc' rest) hq
    cases f with
    | ret v => exact hf.elim
    | brk => exact hf.elim
    | next => exact key
    | cont => exact key
  · rintro σ nx u h tk ⟨rfl, G1, hs, hto⟩ F' N'
    exact done σ u h tk G1 hs hto F' N'
theorem up4f {w : World} {c : PC} {C : Addr} {b : PBlk} {oR oW : Obj} {cs : List Value} {nc K : Nat} {X : List (Addr × Obj)} {x : PW} {most : Option Int} {now : Int} {tn tnw : Tok} (hsp : c.span = 10) (hho : c.hold = 5) (hm : HeldV c.mv most) (G : Good1 w c C b oR oW cs nc X K x) (hK : K < 900) :
    Spec 3 w 163 [.ref c.P, .int 4 tn, .int now tnw] (pupLed c C 4 b oR oW cs nc X)
      (fun r nx => ∃ b' cs' nc' tk, r = .str (prtUp now most 10 5 x).2.str tk ∧ nx = pupLed c C 4 b' oR oW cs' nc' X ∧ Good1 w c C b' oR oW cs' nc' X (K + 1) (prtUp now most 10 5 x).1) := by
  have U := up4 hm G hK (now := now) (tn := tn) (tnw := tnw)
  rw [hsp, hho] at U
  exact U
theorem fixed_spec (w : World) (rest : List (Addr × Obj)) : Spec 6 w 255 [] rest (fun r nx => r = .bool true ∧ nx = rest) := by
  intro dp' un gd cn cs' a ccd cl outer A₀ base h₀ L m p' loose mean mg mb s Q E B F X N T hk hd hu hret
  refine wpAny_call ?_
  k_dflt cell_enter
  repeat' ((fail_if_success (with_reducible show wpAny _ _ (call (Value.ref 187) _) _ _ _)); (fail_if_success (with_reducible show wpAny _ _ (call (Value.ref 76) _) _ _ _)); (fail_if_success (with_reducible show wpAny _ _ (call (Value.ref 135) _) _ _ _)); (fail_if_success (with_reducible show wpAny _ _ (call (Value.ref 163) _) _ _ _)); (fail_if_success (with_reducible show wpAny _ _ (call (Value.ref 170) _) _ _ _)); (fail_if_success (with_reducible show wpAny _ _ (call (Value.ref 177) _) _ _ _)); (fail_if_success (with_reducible show wpAny _ _ (compareOp CmpOp.Eq _ _) _ _ _)); (fail_if_success (with_reducible show wpAny _ _ (pyIter (Value.ref _)) (fun it s₂ => LoopAtV _ _ _ _ _ _ _ _ _ it s₂) _ _)); first | (k_unfold; (try dsimp only)) | (k_end; wrow_close) | walk1 | (dsimp only; walk1) | (leave1; try dsimp only))
  refine' Spec.use (ports_g w _ rfl 10 5 _ _ rest) ?B1 ?F1 ?X1 ?N1 ?S1 ?T1 ?hk1 ?hd1 ?hu1 ?ret1
  case N1 => assumption
  case S1 => exact (fun q hq => hq)
  case B1 => assumption
  case F1 => assumption
  case X1 => assumption
  case T1 => assumption
  case hk1 => first | exact rfl | assumption
  case hd1 => k_room
  case hu1 => k_units
  rintro r nx h' tk' ⟨c, C, oR, oW, nC, rfl, ⟨hm, hsp, hho⟩, rfl, S5, iR, iW, lR, lW⟩ F' N'
  repeat' ((fail_if_success (with_reducible show wpAny _ _ (call (Value.ref 187) _) _ _ _)); (fail_if_success (with_reducible show wpAny _ _ (call (Value.ref 76) _) _ _ _)); (fail_if_success (with_reducible show wpAny _ _ (call (Value.ref 135) _) _ _ _)); (fail_if_success (with_reducible show wpAny _ _ (call (Value.ref 163) _) _ _ _)); (fail_if_success (with_reducible show wpAny _ _ (call (Value.ref 170) _) _ _ _)); (fail_if_success (with_reducible show wpAny _ _ (call (Value.ref 177) _) _ _ _)); (fail_if_success (with_reducible show wpAny _ _ (compareOp CmpOp.Eq _ _) _ _ _)); (fail_if_success (with_reducible show wpAny _ _ (pyIter (Value.ref _)) (fun it s₂ => LoopAtV _ _ _ _ _ _ _ _ _ it s₂) _ _)); first | (k_unfold; (try dsimp only)) | (k_end; wrow_close) | walk1 | (dsimp only; walk1) | (leave1; try dsimp only))
  refine' Spec.use (port_new2 w 4 100 _ _ (H5 c C oR oW [] nC ++ rest)) ?B2 ?F2 ?X2 ?N2 ?S2 ?T2 ?hk2 ?hd2 ?hu2 ?ret2
  case N2 => assumption
  case S2 => exact (fun q hq => hq)
  case B2 => assumption
  case F2 => assumption
  case X2 => assumption
  case T2 => assumption
  case hk2 => first | exact rfl | assumption
  case hd2 => k_room
  case hu2 => k_units
  rintro r nx h' tk' ⟨p, dp, kp, fv, mtu, rfl, rfl, o1, o2⟩ F' N'
  repeat' ((fail_if_success (with_reducible show wpAny _ _ (call (Value.ref 187) _) _ _ _)); (fail_if_success (with_reducible show wpAny _ _ (call (Value.ref 76) _) _ _ _)); (fail_if_success (with_reducible show wpAny _ _ (call (Value.ref 135) _) _ _ _)); (fail_if_success (with_reducible show wpAny _ _ (call (Value.ref 163) _) _ _ _)); (fail_if_success (with_reducible show wpAny _ _ (call (Value.ref 170) _) _ _ _)); (fail_if_success (with_reducible show wpAny _ _ (call (Value.ref 177) _) _ _ _)); (fail_if_success (with_reducible show wpAny _ _ (compareOp CmpOp.Eq _ _) _ _ _)); (fail_if_success (with_reducible show wpAny _ _ (pyIter (Value.ref _)) (fun it s₂ => LoopAtV _ _ _ _ _ _ _ _ _ it s₂) _ _)); first | (k_unfold; (try dsimp only)) | (k_end; wrow_close) | walk1 | (dsimp only; walk1) | (leave1; try dsimp only))
  refine' Spec.use (add_g w c C p dp kp 4 _ _ fv mtu false oR oW [] [] [] nC [] rest S5 o1 o2 (by decide) iR iW rfl rfl (by decide) (by decide) lR lW) ?B3 ?F3 ?X3 ?N3 ?S3 ?T3 ?hk3 ?hd3 ?hu3 ?ret3
  case N3 => assumption
  case S3 => exact (fun q hq => hq)
  case B3 => assumption
  case F3 => assumption
  case X3 => assumption
  case T3 => assumption
  case hk3 => first | exact rfl | assumption
  case hd3 => k_room
  case hu3 => k_units
  rintro r nx h' tk' ⟨rfl, b, oR', oW', rfl, S6, rfl, ok0, x0, iR', iW'⟩ F' N'
  have G0 : Good1 w c C b oR' oW' [] nC rest 0 (st4 0) := ⟨S6, ok0, x0, Nat.le_refl _, iR', iW', lR⟩
  have hM : HeldV c.mv (some 2) := by rw [hm]; exact .int _ _
  replace N' : News _ _ _ (pupLed c C 4 b oR' oW' [] nC rest) := N'
  repeat' ((fail_if_success (with_reducible show wpAny _ _ (call (Value.ref 187) _) _ _ _)); (fail_if_success (with_reducible show wpAny _ _ (call (Value.ref 76) _) _ _ _)); (fail_if_success (with_reducible show wpAny _ _ (call (Value.ref 135) _) _ _ _)); (fail_if_success (with_reducible show wpAny _ _ (call (Value.ref 163) _) _ _ _)); (fail_if_success (with_reducible show wpAny _ _ (call (Value.ref 170) _) _ _ _)); (fail_if_success (with_reducible show wpAny _ _ (call (Value.ref 177) _) _ _ _)); (fail_if_success (with_reducible show wpAny _ _ (compareOp CmpOp.Eq _ _) _ _ _)); (fail_if_success (with_reducible show wpAny _ _ (pyIter (Value.ref _)) (fun it s₂ => LoopAtV _ _ _ _ _ _ _ _ _ it s₂) _ _)); first | (k_unfold; (try dsimp only)) | (k_end; wrow_close) | walk1 | (dsimp only; walk1) | (leave1; try dsimp only))
  refine fixed_loop rfl (by assumption) (by assumption) ?_ ?_ ?_ G0 ?_ ?_
  · k_all
  · k_all
  · exact List.forall_mem_cons.mpr ⟨rfl, List.forall_mem_cons.mpr ⟨rfl, fun _ h => nomatch h⟩⟩
  · intro i t σ R u h tk hi hvl hto G1 F' N'
    (try k_fold)
    repeat' ((fail_if_success (with_reducible show wpAny _ _ (call (Value.ref 187) _) _ _ _)); (fail_if_success (with_reducible show wpAny _ _ (call (Value.ref 76) _) _ _ _)); (fail_if_success (with_reducible show wpAny _ _ (call (Value.ref 135) _) _ _ _)); (fail_if_success (with_reducible show wpAny _ _ (call (Value.ref 163) _) _ _ _)); (fail_if_success (with_reducible show wpAny _ _ (call (Value.ref 170) _) _ _ _)); (fail_if_success (with_reducible show wpAny _ _ (call (Value.ref 177) _) _ _ _)); (fail_if_success (with_reducible show wpAny _ _ (compareOp CmpOp.Eq _ _) _ _ _)); (fail_if_success (with_reducible show wpAny _ _ (pyIter (Value.ref _)) (fun it s₂ => LoopAtV _ _ _ _ _ _ _ _ _ it s₂) _ _)); first | (k_unfold; (try dsimp only)) | (k_end; wrow_close) | walk1 | (dsimp only; walk1) | (leave1; try dsimp only))
    refine' Spec.use (up4f hsp hho hM G1 (by omega)) ?B4 ?F4 ?X4 ?N4 ?S4 ?T4 ?hk4 ?hd4 ?hu4 ?ret4
    case N4 => assumption
    case S4 => exact pup_in
    case B4 => assumption
    case F4 => assumption
    case X4 => assumption
    case T4 => assumption
    case hk4 => first | exact rfl | assumption
    case hd4 => k_room
    case hu4 => k_units
    rintro r nx h' tk' ⟨b2, cs2, nc2, tk2, rfl, rfl, G2⟩ F' N'
    replace N' := news_drop N' pup_out
    have oT := told_off G2.sep hto
    repeat' ((fail_if_success (with_reducible show wpAny _ _ (call (Value.ref 187) _) _ _ _)); (fail_if_success (with_reducible show wpAny _ _ (call (Value.ref 76) _) _ _ _)); (fail_if_success (with_reducible show wpAny _ _ (call (Value.ref 135) _) _ _ _)); (fail_if_success (with_reducible show wpAny _ _ (call (Value.ref 163) _) _ _ _)); (fail_if_success (with_reducible show wpAny _ _ (call (Value.ref 170) _) _ _ _)); (fail_if_success (with_reducible show wpAny _ _ (call (Value.ref 177) _) _ _ _)); (fail_if_success (with_reducible show wpAny _ _ (compareOp CmpOp.Eq _ _) _ _ _)); (fail_if_success (with_reducible show wpAny _ _ (pyIter (Value.ref _)) (fun it s₂ => LoopAtV _ _ _ _ _ _ _ _ _ it s₂) _ _)); first | (k_unfold; (try dsimp only)) | (k_end; wrow_close) | walk1 | (dsimp only; walk1) | (leave1; try dsimp only))
    refine' Spec.use (down4 G2.obj (by omega)) ?B5 ?F5 ?X5 ?N5 ?S5 ?T5 ?hk5 ?hd5 ?hu5 ?ret5
    case N5 => assumption
    case S5 => exact pup_in
    case B5 => assumption
    case F5 => assumption
    case X5 => assumption
    case T5 => assumption
    case hk5 => first | exact rfl | assumption
    case hd5 => k_room
    case hu5 => k_units
    rintro r nx h' tk' ⟨b3, cs3, nc3, tk3, rfl, rfl, G3⟩ F' N'
    k_steps
    refine Turn4.intro (by assumption) ?_ (by assumption) pup_out G3
    exact List.forall_mem_cons.mpr ⟨rfl, List.forall_mem_cons.mpr ⟨rfl, fun _ h => nomatch h⟩⟩
  · intro σ u h tk G1 hs hto F' N'
    (try k_fold)
    repeat' ((fail_if_success (with_reducible show wpAny _ _ (call (Value.ref 187) _) _ _ _)); (fail_if_success (with_reducible show wpAny _ _ (call (Value.ref 76) _) _ _ _)); (fail_if_success (with_reducible show wpAny _ _ (call (Value.ref 135) _) _ _ _)); (fail_if_success (with_reducible show wpAny _ _ (call (Value.ref 163) _) _ _ _)); (fail_if_success (with_reducible show wpAny _ _ (call (Value.ref 170) _) _ _ _)); (fail_if_success (with_reducible show wpAny _ _ (call (Value.ref 177) _) _ _ _)); (fail_if_success (with_reducible show wpAny _ _ (compareOp CmpOp.Eq _ _) _ _ _)); (fail_if_success (with_reducible show wpAny _ _ (pyIter (Value.ref _)) (fun it s₂ => LoopAtV _ _ _ _ _ _ _ _ _ it s₂) _ _)); first | (k_unfold; (try dsimp only)) | (k_end; wrow_close) | walk1 | (dsimp only; walk1) | (leave1; try dsimp only))
    refine' Spec.use (up4f hsp hho hM G1 (by omega)) ?B6 ?F6 ?X6 ?N6 ?S6 ?T6 ?hk6 ?hd6 ?hu6 ?ret6
    case N6 => assumption
    case S6 => exact pup_in
    case B6 => assumption
    case F6 => assumption
    case X6 => assumption
    case T6 => assumption
    case hk6 => first | exact rfl | assumption
    case hd6 => k_room
    case hu6 => k_units
    rintro r nx h' tk' ⟨b2, cs2, nc2, tk2, rfl, rfl, G2⟩ F' N'
    repeat' ((fail_if_success (with_reducible show wpAny _ _ (call (Value.ref 187) _) _ _ _)); (fail_if_success (with_reducible show wpAny _ _ (call (Value.ref 76) _) _ _ _)); (fail_if_success (with_reducible show wpAny _ _ (call (Value.ref 135) _) _ _ _)); (fail_if_success (with_reducible show wpAny _ _ (call (Value.ref 163) _) _ _ _)); (fail_if_success (with_reducible show wpAny _ _ (call (Value.ref 170) _) _ _ _)); (fail_if_success (with_reducible show wpAny _ _ (call (Value.ref 177) _) _ _ _)); (fail_if_success (with_reducible show wpAny _ _ (compareOp CmpOp.Eq _ _) _ _ _)); (fail_if_success (with_reducible show wpAny _ _ (pyIter (Value.ref _)) (fun it s₂ => LoopAtV _ _ _ _ _ _ _ _ _ it s₂) _ _)); first | (k_unfold; (try dsimp only)) | (k_end; wrow_close) | walk1 | (dsimp only; walk1) | (leave1; try dsimp only))
    refine eq_strs (ys := [Str.ofString "up", Str.ofString "up", Str.ofString "up", Str.ofString "held"]) (by assumption) (.tail _ mm10) (zs := [.str _ _, .str _ _, .str _ _, .str _ _]) (.head _) (by
      rw [show (List.range 4).map kd4 = [Str.ofString "up", Str.ofString "up", Str.ofString "up", Str.ofString "held"] by decide +kernel] at hs
      exact hs) (.cons _ _ (.cons _ _ (.cons _ _ (.cons _ _ .nil)))) (by decide +kernel) (by k_units) ?_
    repeat' ((fail_if_success (with_reducible show wpAny _ _ (call (Value.ref 187) _) _ _ _)); (fail_if_success (with_reducible show wpAny _ _ (call (Value.ref 76) _) _ _ _)); (fail_if_success (with_reducible show wpAny _ _ (call (Value.ref 135) _) _ _ _)); (fail_if_success (with_reducible show wpAny _ _ (call (Value.ref 163) _) _ _ _)); (fail_if_success (with_reducible show wpAny _ _ (call (Value.ref 170) _) _ _ _)); (fail_if_success (with_reducible show wpAny _ _ (call (Value.ref 177) _) _ _ _)); (fail_if_success (with_reducible show wpAny _ _ (compareOp CmpOp.Eq _ _) _ _ _)); (fail_if_success (with_reducible show wpAny _ _ (pyIter (Value.ref _)) (fun it s₂ => LoopAtV _ _ _ _ _ _ _ _ _ it s₂) _ _)); first | (k_unfold; (try dsimp only)) | (k_end; wrow_close) | walk1 | (dsimp only; walk1) | (leave1; try dsimp only))
    refine' Spec.use (exp4 G2 (by omega)) ?B7 ?F7 ?X7 ?N7 ?S7 ?T7 ?hk7 ?hd7 ?hu7 ?ret7
    case N7 => assumption
    case S7 => exact (fun q hq => .tail _ hq)
    case B7 => assumption
    case F7 => assumption
    case X7 => assumption
    case T7 => assumption
    case hk7 => first | exact rfl | assumption
    case hd7 => k_room
    case hu7 => k_units
    rintro r nx h' tk' ⟨f1, v1, n1, b3, cs3, nc3, rfl, rfl, o3, i3, G3⟩ F' N'
    have G3' := G3.put (o := listOf v1.toArray n1) o3
    repeat' ((fail_if_success (with_reducible show wpAny _ _ (call (Value.ref 187) _) _ _ _)); (fail_if_success (with_reducible show wpAny _ _ (call (Value.ref 76) _) _ _ _)); (fail_if_success (with_reducible show wpAny _ _ (call (Value.ref 135) _) _ _ _)); (fail_if_success (with_reducible show wpAny _ _ (call (Value.ref 163) _) _ _ _)); (fail_if_success (with_reducible show wpAny _ _ (call (Value.ref 170) _) _ _ _)); (fail_if_success (with_reducible show wpAny _ _ (call (Value.ref 177) _) _ _ _)); (fail_if_success (with_reducible show wpAny _ _ (compareOp CmpOp.Eq _ _) _ _ _)); (fail_if_success (with_reducible show wpAny _ _ (pyIter (Value.ref _)) (fun it s₂ => LoopAtV _ _ _ _ _ _ _ _ _ it s₂) _ _)); first | (k_unfold; (try dsimp only)) | (k_end; wrow_close) | walk1 | (dsimp only; walk1) | (leave1; try dsimp only))
    refine' Spec.use (exp4 G3' (by omega)) ?B8 ?F8 ?X8 ?N8 ?S8 ?T8 ?hk8 ?hd8 ?hu8 ?ret8
    case N8 => assumption
    case S8 => exact pup_in
    case B8 => assumption
    case F8 => assumption
    case X8 => assumption
    case T8 => assumption
    case hk8 => first | exact rfl | assumption
    case hd8 => k_room
    case hu8 => k_units
    rintro r nx h' tk' ⟨f2, v2, n2, b4, cs4, nc4, rfl, rfl, o4, i4, G4⟩ F' N'
    have G4' := G4.put (o := listOf v2.toArray n2) o4
    repeat' ((fail_if_success (with_reducible show wpAny _ _ (call (Value.ref 187) _) _ _ _)); (fail_if_success (with_reducible show wpAny _ _ (call (Value.ref 76) _) _ _ _)); (fail_if_success (with_reducible show wpAny _ _ (call (Value.ref 135) _) _ _ _)); (fail_if_success (with_reducible show wpAny _ _ (call (Value.ref 163) _) _ _ _)); (fail_if_success (with_reducible show wpAny _ _ (call (Value.ref 170) _) _ _ _)); (fail_if_success (with_reducible show wpAny _ _ (call (Value.ref 177) _) _ _ _)); (fail_if_success (with_reducible show wpAny _ _ (compareOp CmpOp.Eq _ _) _ _ _)); (fail_if_success (with_reducible show wpAny _ _ (pyIter (Value.ref _)) (fun it s₂ => LoopAtV _ _ _ _ _ _ _ _ _ it s₂) _ _)); first | (k_unfold; (try dsimp only)) | (k_end; wrow_close) | walk1 | (dsimp only; walk1) | (leave1; try dsimp only))
    refine' Spec.use (exp4 G4' (by omega)) ?B9 ?F9 ?X9 ?N9 ?S9 ?T9 ?hk9 ?hd9 ?hu9 ?ret9
    case N9 => assumption
    case S9 => exact pup_in
    case B9 => assumption
    case F9 => assumption
    case X9 => assumption
    case T9 => assumption
    case hk9 => first | exact rfl | assumption
    case hd9 => k_room
    case hu9 => k_units
    rintro r nx h' tk' ⟨f3, v3, n3, b5, cs5, nc5, rfl, rfl, o5, i5, G5⟩ F' N'
    repeat' ((fail_if_success (with_reducible show wpAny _ _ (call (Value.ref 187) _) _ _ _)); (fail_if_success (with_reducible show wpAny _ _ (call (Value.ref 76) _) _ _ _)); (fail_if_success (with_reducible show wpAny _ _ (call (Value.ref 135) _) _ _ _)); (fail_if_success (with_reducible show wpAny _ _ (call (Value.ref 163) _) _ _ _)); (fail_if_success (with_reducible show wpAny _ _ (call (Value.ref 170) _) _ _ _)); (fail_if_success (with_reducible show wpAny _ _ (call (Value.ref 177) _) _ _ _)); (fail_if_success (with_reducible show wpAny _ _ (compareOp CmpOp.Eq _ _) _ _ _)); (fail_if_success (with_reducible show wpAny _ _ (pyIter (Value.ref _)) (fun it s₂ => LoopAtV _ _ _ _ _ _ _ _ _ it s₂) _ _)); first | (k_unfold; (try dsimp only)) | (k_end; wrow_close) | walk1 | (dsimp only; walk1) | (leave1; try dsimp only))
    have j3 : IntsAre v1 [] := by rw [if_neg (by decide +kernel)] at i3; exact i3
    have j4 : IntsAre v2 [4] := by rw [if_pos (by decide +kernel)] at i4; exact i4
    have j5 : IntsAre v3 [] := by rw [if_neg (by decide +kernel)] at i5; exact i5
    refine eq_nest (nss := [[], [4], []]) (xs := [.ref f1, .ref f2, .ref f3]) (ys := [.ref _, .ref _, .ref _]) (by assumption) mm4 mm0 (.cons (md12 mm5) j3 (.cons (md12 mm4) j4 (.cons mm5 j5 .nil))) (.cons (us := []) mm3 .nil (.cons (us := [.int 4 _]) mm2 (.cons _ _ .nil) (.cons (us := []) mm1 .nil .nil))) (List.forall_mem_cons.mpr ⟨flat_nil, List.forall_mem_cons.mpr ⟨flat_one 4, List.forall_mem_cons.mpr ⟨flat_nil, fun _ h => nomatch h⟩⟩⟩) (by k_units) ?_
    k_steps
    exact hret _ _ _ _ ⟨rfl, rfl⟩ (by assumption) (news_drop (by assumption) fun q hq => md14 (md5 hq))
end
section
/-- what the tail of an own exception class below Exception holds -/
structure TailX (bm : List Value) : Prop where
  exc : bm.contains (.type "Exception") = true
  base : bm.contains (.type "BaseException") = true
  noAttr : bm.contains (.type "AttributeError") = false
  noName : bm.contains (.type "NameError") = false
  obj : bm.contains (.type "object") = true
  refuse : ∀ self, refuseLoop self "__setattr__" bm = pure ()
section
variable {M : Model} {A : Around} {E : Value → Shared → Prop} {h : Heap} {g : Array GenState} {d : Drawn} {t : Nat} {os : OsState}
variable {nm q : Str} {C N : Addr} {bs bm : List Value} {hdct : Bool} {sn : List Str} {sub : List Value} {ab : Bool} {col : Option Bool} {dd : Option Addr} {k0 k1 k2 k3 k5 : Option Value}
theorem cont_cons {C : Addr} {bm : List Value} {T : String} {b : Bool} (h : bm.contains (.type T) = b) : (Value.ref C :: bm).contains (.type T) = b := by rw [List.contains_cons, h]; rfl
theorem check_new_x (T : TailX bm) {rest : List Value} {Q : Unit → Shared → Prop} (hC : h.get? C = some (excClassObj nm q C N bs bm hdct sn sub ab col dd k0 k1 k2 k3 k5 "Exception.__new__"))
    (hq : Q () ⟨h, g, d, t, os⟩) : wpAny M A (checkBuiltinCall "Exception.__new__" ⟨.ref C :: rest, []⟩) Q E ⟨h, g, d, t, os⟩ := by
  have F := PySem.F.excBase_Exception
  have hcont := cont_cons (C := C) T.exc
  have hstar := F.noStar
  simp only [checkBuiltinCall, F.newKind, F.newSplit, F.newRow]
  repeat (first | refine wpAny_loadPart_at hC ?_ | (refine wpAny_isSubtype_exc hC ?_; rw [hcont]) | refine wpAny_staticBase_exc hC ?_ | refine wpAny_madeBy_exc hC ?_ | simp only [bne_self_eq_false, Bool.false_eq_true, if_false] | wp_step)
  exact hq
end
section
variable {prog : Program} {w : World} {A : Around} {R : Result → Shared → Prop} {h : Heap} {g : Array GenState} {d : Drawn} {t : Nat} {os : OsState}
variable {nm q : Str} {C N : Addr} {bs bm : List Value} {hdct : Bool} {sn : List Str} {sub : List Value} {ab : Bool} {col : Option Bool} {dd : Option Addr} {k0 k1 k2 k3 k5 : Option Value}
abbrev tupO (vs : List Value) : Obj := { cls := .type "tuple", data := .seq vs.toArray }
abbrev excO (C t : Addr) (dx : Option Addr) : Obj := { cls := .ref C, dict := dx, data := .fields #[.ref t, .none, .none, .none, .bool false, .none] }
theorem exc_new_x (T : TailX bm) {rest : List Value} (hC : h.get? C = some (excClassObj nm q C N bs bm hdct sn sub ab col dd k0 k1 k2 k3 k5 "Exception.__new__"))
    (hq : R (.ok (.ret (.ref (h.objs.size + 1)))) ⟨(h.push (tupO rest)).push (excO C h.objs.size none), g, d, t, os⟩) (hrest : rest.length ≤ sizeLine) :
    codeAny (model prog w) A (.builtin "Exception.__new__" ⟨.ref C :: rest, []⟩) R ⟨h, g, d, t, os⟩ := by
  have F := PySem.F.excBase_Exception
  have hends := F.ends
  have hcB := cont_cons (C := C) T.exc
  have hcA := cont_cons (C := C) T.noAttr
  have hcN := cont_cons (C := C) T.noName
  refine codeAny_builtinAt F.entry ?_
  unfold Builtin.«BaseException.__new__»
  refine PySem.wpAt_bind ?_
  show PySem.wpAt _ _ _ (stack >>= _) _ _ _
  refine PySem.wpAt_bind (PySem.wpAt_stack fun p below => PySem.wpAt_of_wpAny ?_)
  wp_walk
  refine PySem.wpAt_of_wpAny ?_
  rw [F.owner]
  repeat (first | with_reducible refine wpAny_madeHere_exc F.canon hC ?_ | with_reducible refine wpAny_loadPart_at hC ?_ | (with_reducible refine wpAny_isSubtype_exc hC ?_; first | rw [hcB] | rw [hcA] | rw [hcN]) | wp_step)
  show R _ _
  rw [Heap.size_push]
  exact hq
/-- an own exception class as K knows it -/
structure ClsX (K : Frag) (C : Addr) : Prop where
  call : specialIn K (.ref C) "__call__" = some (some (.builtin "type.__call__"))
  typ : instIn K (.ref C) (.type "type") = some true
  init : findIn K (.ref C) "__init__" = some (some (.ref 28))
  fn : typeIn K (.ref 28) = some (.type "function")
  obj : ∃ nm q N bs bm hdct sn sub ab col dd k0 k1 k2 k3 k5, K.lookup C = some (excClassObj nm q C N bs bm hdct sn sub ab col dd k0 k1 k2 k3 k5 "Exception.__new__") ∧ TailX bm
theorem make_X {K : Frag} {rest : List Value} (X : K.In h) (Y : ClsX K C) (hrest : rest.length ≤ sizeLine)
    (hq : codeAny (model prog w) (A.under (.builtin "type.__call__" ⟨.ref C :: rest, []⟩)) (.call (.ref 28) ⟨.ref (h.objs.size + 1) :: rest, []⟩) (InitBack (h.objs.size + 1) R) ⟨(h.push (tupO rest)).push (excO C h.objs.size none), g, d, t, os⟩) :
    codeAny (model prog w) A (.call (.ref C) ⟨rest, []⟩) R ⟨h, g, d, t, os⟩ := by
  have F := PySem.F.excBase_Exception
  obtain ⟨Ycall, Ytyp, Yinit, Yfn, nm, q, N, bs, bm, hdct, sn, sub, ab, col, dd, k0, k1, k2, k3, k5, hK, T⟩ := Y
  have hC := X _ _ hK
  have call : Looks (model prog w) h (specialOf (.ref C) "__call__") (some (.builtin "type.__call__")) := looks_specialIn X Ycall
  have typ : Looks (model prog w) h (isInstance (.ref C) (.type "type")) true := looks_instIn X Ytyp
  have hi : Looks (model prog w) h (typeLookup (.ref C) "__init__") (some (.ref 28)) := looks_findIn X Yinit
  have hb : ∀ self, Looks (model prog w) h (bindSpecial (.ref 28) self) (.ref 28, [self]) := fun self => bind_fn X self Yfn
  refine codeAny_of_tree ?_
  show wpAny _ _ (callAny (.ref C) _) _ _ _
  refine nd_load hC ?_
  show wpAny _ _ (callAny.viaDunder (.ref C) _) _ _ _
  unfold callAny.viaDunder
  refine wpAny_bind (call.at ?_)
  dsimp only
  rw [tc_bind]
  refine wpAny_bind (wpAny_pure (wpAny_bind (wpAny_pure ?_)))
  refine wpAny_pure (a := Fin.again (.call (.builtin "type.__call__") ⟨.ref C :: rest, []⟩)) (And.intro rfl ?_)
  refine codeAny_call_builtin_at (Code.quiet_builtin _ (by decide +kernel)) entry_typeCall (check_slot tc_kind tc_split typ (tc_args _ _ _) ?_)
  unfold Builtin.«type.__call__»
  repeat (first | with_reducible refine wpAny_loadPart_at hC ?_ | with_reducible refine wpAny_madeBy_exc hC ?_ | wp_step)
  refine codeAny_call_builtin_code (Code.quiet_builtin _ F.quiet) (check_new_x T hC ?_)
  refine exc_new_x T hC ?_ hrest
  show wpAny _ _ _ _ _ _
  have k : ∀ b o, h.get? b = some o → ((h.push (tupO rest)).push (excO C h.objs.size none)).get? b = some o := fun b o e => Heap.get?_push_of_some _ (Heap.get?_push_of_some _ e)
  have hx : ((h.push (tupO rest)).push (excO C h.objs.size none)).get? (h.objs.size + 1) = some (excO C h.objs.size none) := by heap_get
  have t1 : Looks (model prog w) ((h.push (tupO rest)).push (excO C h.objs.size none)) (typeOf (.ref (h.objs.size + 1))) (.ref C) := (Looks.ld hx).andThen .now
  have s1 : Looks (model prog w) ((h.push (tupO rest)).push (excO C h.objs.size none)) (isSubtype (.ref C) (.ref C)) true := by
    intro A Q E s k2 q
    obtain ⟨hp, g, d, tk, os⟩ := s
    refine wpAny_isSubtype_exc (k2 _ _ (k _ _ hC)) ?_
    rw [show (Value.ref C :: bm).contains (.ref C) = true by simp]
    exact q
  have i1 := hi.keeps k
  have b1 := (hb (.ref (h.objs.size + 1))).keeps k
  unfold isInstance callSpecial? specialOf
  repeat (first | with_reducible refine wpAny_call ?_ | lk)
  refine codeAny_mono hq fun r s' z => ?_
  rcases r with e | (v | _ | _ | _) <;> first | exact z | exact z.elim | skip
  obtain ⟨rfl, z⟩ := z
  exact wpAny_pure (wpAny_pure z)
/-- a call of an own exception class -/
theorem call_newX {K : Frag} {p : Program} {A : Around} {E : Value → Shared → Prop} {s : Shared} {h₀ : Heap} {L C : Addr} {m : Str → Option Value} {news : List (Addr × Obj)} {Q : Value → Shared → Prop} {pos : List Value} (F : Fr h₀ L s.heap m) (X₀ : K.In h₀) (N : News h₀ L s.heap news)
    (Y : ClsX K C) (hz : pos.length ≤ sizeLine)
    (h : ∀ x t h', Fr h₀ L h' m → News h₀ L h' ((x, excO C t none) :: (t, tupO pos) :: news) → (∀ p ∈ news, p.1 < t) → (∀ p ∈ (t, tupO pos) :: news, p.1 < x) →
      codeAny (model p w) (A.under (.builtin "type.__call__" ⟨.ref C :: pos, []⟩)) (.call (.ref 28) ⟨.ref x :: pos, []⟩) (InitBack x fun r s' => match r with | .ok (.ret v) => Q v s' | .ok _ => False | .error e => E e s') { s with heap := h' }) :
    wpAny (model p w) A (call (.ref C) pos []) Q E s := by
  obtain ⟨hh, g, d, t, os⟩ := s
  refine wpAny_call (make_X (X₀.keeps F.keep) Y hz (h _ hh.objs.size _ ((F.push _).push _) ?_ (fun p hp => Heap.lt_size (N p hp).1) (List.forall_mem_cons.mpr ⟨Nat.lt_succ_self _, fun p hp => Nat.lt_succ_of_lt (Heap.lt_size (N p hp).1)⟩)))
  have := (N.push F (tupO pos)).push (F.push _) (excO C hh.objs.size none)
  rwa [Heap.size_push] at this
theorem check_init_x {M : Model} {E : Value → Shared → Prop} (T : TailX bm) {e : Addr} {oe : Obj} {rest : List Value} {Q : Unit → Shared → Prop}
    (hC : h.get? C = some (excClassObj nm q C N bs bm hdct sn sub ab col dd k0 k1 k2 k3 k5 "Exception.__new__")) (he : h.get? e = some oe) (hcls : oe.cls = .ref C) (hq : Q () ⟨h, g, d, t, os⟩) :
    wpAny M A (checkBuiltinCall "Exception.__init__" ⟨.ref e :: rest, []⟩) Q E ⟨h, g, d, t, os⟩ := by
  have F := PySem.F.excBase_Exception
  have hcB := cont_cons (C := C) T.exc
  have hshort := F.noStar
  simp only [checkBuiltinCall, F.initKind, F.initSplit, F.initRow]
  repeat (first | (with_reducible refine wpAny_loadPart_at he ?_; rw [hcls]) | with_reducible refine wpAny_loadPart_at hC ?_ | (with_reducible refine wpAny_isSubtype_exc hC ?_; rw [hcB]) | wp_step)
  refine wpAny_onRaise ?_
  rw [show ∀ (a b : String) (n : Nat), Bind.check ⟨.positional, "*", "Exception", .self, [⟨"args", .varPos, false⟩]⟩ a b n (List.map (fun x => x.fst) ({ pos := Value.ref e :: rest } : Args).kw) = pure () from
    fun a b n => check_star_args _ _ _ _ _ _]
  exact wpAny_pure hq
theorem exc_init_at {E : Value → Shared → Prop} (T : TailX bm) {e t0 : Addr} {dx : Option Addr} {rest : List Value} {Q : Value → Shared → Prop}
    (hC : h.get? C = some (excClassObj nm q C N bs bm hdct sn sub ab col dd k0 k1 k2 k3 k5 "Exception.__new__")) (he : h.get? e = some (excO C t0 dx)) (hz : rest.length ≤ sizeLine)
    (hq : Q .none ⟨(h.push (tupO rest)).update e (Obj.mapFields (·.setIfInBounds 0 (.ref h.objs.size))), g, d, t, os⟩) :
    wpAny (model prog w) A (call (.builtin "Exception.__init__") (.ref e :: rest)) Q E ⟨h, g, d, t, os⟩ := by
  have F := PySem.F.excBase_Exception
  refine wpAny_call (codeAny_call_builtin F.init.plain F.initEntry (check_init_x T hC he rfl ?_))
  wp_walk
  exact hq
end
end
section
section
variable {K : Frag} {prog : Program} {w : World} {A : Around} {E : Value → Shared → Prop} {s : Shared} {h₀ : Heap} {L C e t0 : Addr} {m : Str → Option Value} {rest : List (Addr × Obj)} {vs : List Value}
theorem exc_init_led {Q : Value → Shared → Prop} (Y : ClsX K C) (X₀ : K.In h₀) (F : Fr h₀ L s.heap m) (N : News h₀ L s.heap ((e, excO C t0 none) :: rest)) (off : Off e rest) (hz : vs.length ≤ sizeLine)
    (h : ∀ t h', Fr h₀ L h' m → News h₀ L h' ((e, excO C t none) :: (t, tupO vs) :: rest) → (∀ q ∈ (e, excO C t0 none) :: rest, q.1 < t) → Q .none { s with heap := h' }) :
    wpAny (model prog w) A (call (.builtin "Exception.__init__") (.ref e :: vs)) Q E s := by
  obtain ⟨_, _, _, _, nm, q, NS, bs, bm, hdct, sn, sub, ab, col, dd, k0, k1, k2, k3, k5, hK, T⟩ := Y
  obtain ⟨hh, g, d, tk, os⟩ := s
  have hC := X₀.keeps F.keep _ _ hK
  have he := (N _ (.head _)).1
  have F1 := F.push (tupO vs)
  have N1 := N.push F (tupO vs)
  have lt : ∀ q ∈ (e, excO C t0 none) :: rest, q.1 < hh.objs.size := fun q hq => Heap.lt_size (N q hq).1
  obtain ⟨U1, U2⟩ := news_upd (f := Obj.mapFields (·.setIfInBounds 0 (.ref hh.objs.size))) (pre := [(hh.objs.size, tupO vs)]) (post := rest) F1 N1 (by
    intro p hp
    rw [List.mem_singleton.mp hp]
    exact Nat.ne_of_gt (lt _ (.head _))) (fun p hp => off p hp) (o' := excO C hh.objs.size none) rfl rfl
  refine exc_init_at T hC he hz ?_
  exact h _ _ U1 (news_drop U2 (sub_cons mm1 (sub_cons mm0 fun q hq => md2 hq))) lt
theorem osa_newX {R : Result → Shared → Prop} {name : Str} {tk0 : Tok} {v : Value} (Y : ClsX K C) (X₀ : K.In h₀) (F : Fr h₀ L s.heap m) (N : News h₀ L s.heap ((e, excO C t0 none) :: rest)) (off : Off e rest)
    (ht : takerIn K C name = some none) (hh : hasDictIn K C = true)
    (h : ∀ d h' o tk, Fr h₀ L h' m → News h₀ L h' ((e, excO C t0 (some d)) :: (d, o) :: rest) → R (.ok (.ret .none)) { s with heap := h', toks := tk }) :
    codeAny (model prog w) A (.call (.builtin "object.__setattr__") ⟨[.ref e, .str name tk0, v], []⟩) R s := by
  obtain ⟨_, _, _, _, nm, q, NS, bs, bm, hdct, sn, sub, ab, col, dd, k0, k1, k2, k3, k5, hK, T⟩ := Y
  have X := X₀.keeps F.keep
  have hC := X _ _ hK
  have he := (N _ (.head _)).1
  have I : InstAt s.heap e (excO C t0 none) C none := ⟨he, rfl, rfl, trivial⟩
  obtain ⟨cd, hc, hd'⟩ := any_some hh
  have SF := PySem.F.store_object
  have sub : Looks (model prog w) s.heap (isInstance (.ref e) (.type "object")) true := I.type.andThen (by
    intro A Q E s2 k2 q
    obtain ⟨hp, g, d, tk, os⟩ := s2
    refine wpAny_isSubtype_exc (k2 _ _ hC) ?_
    rw [cont_cons T.obj]
    exact q)
  refine codeAny_call_builtin SF.slot.plain SF.entry (@check_slot (model prog w) _ _ s "object.__setattr__" "object" "__setattr__" (.ref e) [.str name tk0, v] [] _ SF.kind SF.split sub (SF.args (.ref e) (.str name tk0) v) ?_)
  obtain ⟨attr, ha, hr⟩ := Option.bind_eq_some_iff.mp ht
  have hm : Looks (model prog w) s.heap (mroOf (.ref C)) (.ref C :: bm) := by
    intro A Q E s2 k2 q
    obtain ⟨hp, g, d, tk, os⟩ := s2
    exact wpAny_mroOf_exc (k2 _ _ hC) q
  have L3 : Looks (model prog w) s.heap (PySem.Builtin.ObjectAttr.storeTaker? attr) none := by
    cases attr with
    | none => exact .now
    | some a =>
      obtain ⟨b, hb, hr⟩ := Option.map_eq_some_iff.mp hr
      refine (looks_takesIn X hb).andThen ?_
      cases b with
      | true => cases hr
      | false => exact .now
  rw [osa_eq, refuse_eq]
  refine wpAny_bind (wpAny_bind (I.type.here (wpAny_bind (hm.here ?_))))
  rw [refuseLoop_ref, T.refuse]
  refine wpAny_pure (wpAny_bind (I.type.here (wpAny_bind ((looks_findIn X ha).here (wpAny_bind (L3.here ?_))))))
  refine wpAny_bind (wpAny_pure (wpAny_bind (wpAny_bind (wpAny_loadPart he (wpAny_bind ((looks_clsIn X hc).here ?_))))))
  rw [hd']
  have FD := F.push emptyDict
  have ND := N.push F emptyDict
  have lt : ∀ q ∈ (e, excO C t0 none) :: rest, q.1 < s.heap.objs.size := fun q hq => Heap.lt_size (N q hq).1
  obtain ⟨U1, U2⟩ := news_upd (f := fun o => { o with dict := some s.heap.objs.size }) (pre := [(s.heap.objs.size, emptyDict)]) (post := rest) FD ND (by
    intro p hp
    rw [List.mem_singleton.mp hp]
    exact Nat.ne_of_gt (lt _ (.head _))) (fun p hp => off p hp) (o' := excO C t0 (some s.heap.objs.size)) rfl rfl
  obtain ⟨W1, W2⟩ := news_upd (f := Obj.putName name (PyData.keyHash w.params name) (.str name s.toks) v) (pre := []) (post := (e, excO C t0 (some s.heap.objs.size)) :: rest) U1 U2 (fun _ h => nomatch h) (fun p hp => by
    rcases List.mem_cons.mp hp with rfl | hp
    · exact Nat.ne_of_lt (lt (e, excO C t0 none) (.head _))
    · exact Nat.ne_of_lt (lt _ (.tail _ hp))) (putName_dict name (PyData.keyHash w.params name) (.str name s.toks) v [] 0) rfl
  have D := (U2 (s.heap.objs.size, emptyDict) (.head _)).1
  have D' := (W2 _ (.head _)).1
  show wpAny _ _ (alloc emptyDict >>= _) _ _ _
  refine wpAny_bind (wpAny_alloc (wpAny_bind (wpAny_update (ND _ (.tail _ (.head _))).1 (wpAny_pure ?_))))
  refine wpAny_bind (wpAny_pure (wpAny_bind ?_))
  unfold nsSet
  refine wpAny_bind (wpAny_bind (wpAny_askSetting (wpAny_pure (wpAny_bind (wpAny_mkText (wpAny_bind (wpAny_loadPart D ?_)))))))
  dsimp only
  rw [aRefKeyMayBeTheName_at, show (!(#[] : Array DictEntry).any (·.key.isStr name) && (#[] : Array DictEntry).any (·.refKey)) = false by simp]
  refine wpAny_updatePart D ?_
  refine wpAny_bind (wpAny_lookBehind D' (pastItsLine_dict (Nat.le_of_ble_eq_true rfl)) ?_)
  exact wpAny_pure (h _ _ _ _ W1 (news_drop W2 (sub_cons mm1 (sub_cons mm0 fun q hq => md2 hq))))
theorem set_newX {Q : Unit → Shared → Prop} {name : Str} {v : Value} (Y : ClsX K C) (X₀ : K.In h₀) (F : Fr h₀ L s.heap m) (N : News h₀ L s.heap ((e, excO C t0 none) :: rest)) (off : Off e rest)
    (hs : findIn K (.ref C) "__setattr__" = some (some (.builtin "object.__setattr__"))) (ht : takerIn K C name = some none) (hh : hasDictIn K C = true)
    (h : ∀ d h' o tk, Fr h₀ L h' m → News h₀ L h' ((e, excO C t0 (some d)) :: (d, o) :: rest) → Q () { s with heap := h', toks := tk }) :
    wpAny (model prog w) A (setAttr (.ref e) name v) Q E s :=
  set_plain (X₀.keeps F.keep) (⟨(N _ (.head _)).1, rfl, rfl, trivial⟩ : InstAt s.heap e (excO C t0 none) C none) hs (osa_newX (s := { s with toks := s.toks + 1 }) Y X₀ F N off ht hh fun d h' o tk F' N' => h d h' o tk F' N')
end
end
section
section
variable {M : Model} {A : Around} {E : Value → Shared → Prop} {s' : Shared} {base g g₂ h : Heap} {outer : List Env} {L a e t C : Addr} {m : Str → Option Value} {name : Str} {scope : Scope} {cd : Value} {Q : Unit → Shared → Prop} {news : List (Addr × Obj)} {vs : List Value} {dx : Option Addr}
theorem leave_raiseX (K : Below A base outer g) (F : Fr g L s'.heap m) (N : News g L s'.heap ((e, excO C t dx) :: (t, tupO vs) :: news)) (oe : Off e news) (ot : Off t news)
    (hQ : ∀ h', RaisedS base g outer e (.ref C) t vs news h' → g.UpToSlots h' → Q () { s' with heap := h' }) (hk : scope.kind = .function) :
    wpAny M (A.deeper (envOf name scope L a cd)) (leaving (envOf name scope L a cd) (.ref e)) Q E s' := by
  have K' := K.push (name := name) (a := a) (cd := cd) F hk
  have fr : ∀ {q : Addr × Obj}, q ∈ (e, excO C t dx) :: (t, tupO vs) :: news → q.1 ∉ (envOf name scope L a cd :: outer).filterMap (·.frame) := fun {q} hq hm => by
    rcases kts_mem hm with z | z
    · exact (N q hq).2.1 z
    · obtain ⟨_, o, ho, _⟩ := K.frames.mem z
      rw [(N q hq).2.2] at ho
      cases ho
  have hin : ∀ env ∈ (envOf name scope L a cd :: outer), ∀ b, env.frame = some b → b ∈ e :: t :: (envOf name scope L a cd :: outer).filterMap (·.frame) := fun env he b hb => .tail _ (.tail _ (List.mem_filterMap.mpr ⟨env, he, hb⟩))
  have ge : g.get? e = none := (N _ (.head _)).2.2
  have gt : g.get? t = none := (N _ (.tail _ (.head _))).2.2
  have stay : ∀ b o, s'.heap.get? b = some o → b ≠ e → b ≠ t → b ∉ (envOf name scope L a cd :: outer).filterMap (·.frame) → (hideAll s'.heap (e :: t :: (envOf name scope L a cd :: outer).filterMap (·.frame))).get? b = some o := fun b o q h1 h2 h3 => hideAll_get _ q fun hm => by
    rcases List.mem_cons.mp hm with z | hm
    · exact h1 z
    · rcases List.mem_cons.mp hm with z | hm
      · exact h2 z
      · exact h3 hm
  have st : base.StaysIn (hideAll s'.heap (e :: t :: (envOf name scope L a cd :: outer).filterMap (·.frame))) := fun b o q => stay b o (K'.stays b o q) (fun z => by
    have := K.stays b o q
    rw [z, ge] at this
    cases this) (fun z => by
    have := K.stays b o q
    rw [z, gt] at this
    cases this) (fun hm => by
    rw [(K'.frames.mem hm).1] at q
    cases q)
  have sg : ∀ b o, g.get? b = some o → b ∉ outer.filterMap (·.frame) → (hideAll s'.heap (e :: t :: (envOf name scope L a cd :: outer).filterMap (·.frame))).get? b = some o := fun b o q nm => stay b o (F.keep b o q) (fun z => by
    rw [z, ge] at q
    cases q) (fun z => by
    rw [z, gt] at q
    cases q) (fun hm => by
    rcases kts_mem hm with z | z
    · rw [z, kts_self F] at q
      cases q
    · exact nm z)
  have hl : ∀ q ∈ news, (hideAll s'.heap (e :: t :: (envOf name scope L a cd :: outer).filterMap (·.frame))).get? q.1 = some q.2 ∧ g.get? q.1 = none ∧ base.get? q.1 = none := fun q hq =>
    ⟨stay _ _ (N q (md2 hq)).1 (oe q hq) (ot q hq) (fr (md2 hq)), (N q (md2 hq)).2.2, fresh_of_stays K.stays (N q (md2 hq)).2.2⟩
  have he0 : (hideAll s'.heap (e :: t :: (envOf name scope L a cd :: outer).filterMap (·.frame))).get? e = none := hideAll_none _ (.head _)
  have ht0 : (hideAll s'.heap (e :: t :: (envOf name scope L a cd :: outer).filterMap (·.frame))).get? t = none := hideAll_none _ (.tail _ (.head _))
  refine wpAny_leaving_firstW (base := hideAll s'.heap (e :: t :: (envOf name scope L a cd :: outer).filterMap (·.frame))) (a0 := .ref t) K'.stack (funFrames_hide K'.frames hin) rfl (N _ (.head _)).1 (fun b o q => of_hideAll _ q) he0 rfl rfl rfl fun h' hL => ?_
  obtain ⟨k1, ⟨_, _, k2⟩, k3, k4⟩ := hL
  exact hQ h' ⟨⟨_, st, sg, hl, ⟨k1, he0, k2, k3⟩, ht0⟩, Heap.TupAt.of_slots ⟨_, _, (N _ (.tail _ (.head _))).1, rfl, rfl⟩ k4⟩ ((Heap.UpToSlots.of_keeps F.keep).trans k4)
theorem leave_onX {env : Env} (K : Below A base outer g) (hf : env.frame = some L) (F : Fr g L g₂ m) (R : RaisedS base g₂ (env :: outer) e (.ref C) t vs news s'.heap) (hsm : g₂.UpToSlots s'.heap)
    (hQ : ∀ h', RaisedS base g outer e (.ref C) t vs news h' → g.UpToSlots h' → Q () { s' with heap := h' }) :
    wpAny M (A.deeper env) (leaving env (.ref e)) Q E s' := by
  obtain ⟨⟨B, hB, hBG, hl, hfl, hnew⟩, htup⟩ := R
  exact wpAny_leaves_onW (Around.frames_deeper K.stack) hf hfl fun h' x1 x2 =>
    hQ h' ⟨⟨B, hB, fun b o q nm => hBG b o (F.keep b o q) (fun hm => by
      obtain ⟨env', he', hf'⟩ := List.mem_filterMap.mp hm
      rcases List.mem_cons.mp he' with rfl | he'
      · rw [hf] at hf'
        cases hf'
        rw [kts_self F] at q
        cases q
      · exact nm (List.mem_filterMap.mpr ⟨env', he', hf'⟩)), fun q hq => ⟨(hl q hq).1, kts_none F.keep (hl q hq).2.1, (hl q hq).2.2⟩, x1, hnew⟩, htup.of_slots x2⟩ ((Heap.UpToSlots.of_keeps F.keep).trans (hsm.trans x2))
theorem RaisedS.drop {base G h : Heap} {l : List Env} {cls : Value} {news' : List (Addr × Obj)} (R : RaisedS base G l e cls t vs news h) (sub : ∀ q ∈ news', q ∈ news) : RaisedS base G l e cls t vs news' h := by
  obtain ⟨⟨B, h1, h2, h3, h4⟩, h5⟩ := R
  exact ⟨⟨B, h1, h2, fun q hq => h3 q (sub q hq), h4⟩, h5⟩
end
section
variable {M : Model} {A : Around} {E : Value → Shared → Prop} {s : Shared} {env : Env} {K : Frag} {C : Addr}
/-- what is raised: an exception of an own class, and what stands behind it -/
def RaiseNow (C : Addr) (K : Frag) (E : Value → Shared → Prop) (v : Value) (s₁ : Shared) : Prop :=
  ∃ e t dx, v = .ref e ∧ K.In s₁.heap ∧ s₁.heap.get? e = some (excO C t dx) ∧ E (.ref e) s₁
theorem raise_x {x : Sem Value} {Q : Flow → Shared → Prop} (Y : ClsX K C) (hh : A.handled = none) (h : wpAny M A x (RaiseNow C K E) E s) : wpAny M A (raiseStmt env (some x) none) Q E s := by
  obtain ⟨_, _, _, _, nm, q, NS, bs, bm, hdct, sn, sub, ab, col, dd, k0, k1, k2, k3, k5, hK, T⟩ := Y
  have hcB := cont_cons (C := C) T.base
  unfold raiseStmt
  refine wpAny_bind (wpAny_mono h (fun v s₁ h₁ => ?_) fun _ _ x => x)
  obtain ⟨e, t, dx, rfl, X, he, hE⟩ := h₁
  have hC := X _ _ hK
  obtain ⟨hp, g, d, tk, os⟩ := s₁
  repeat (first | with_reducible refine wpAny_loadPart_at he ?_ | with_reducible refine wpAny_loadPart_at hC ?_ | (with_reducible refine wpAny_isSubtype_exc hC ?_; rw [hcB]) | wp_step)
  exact wpAny_raiseNew_none hh hE
theorem Raise_x {x : PySem.Expr} {pos : Pos} {prog : Program} {w : World} {Q : Flow → Shared → Prop} (Y : ClsX K C) (hh : A.handled = none) (h : wpAny (model prog w) A (eval x env) (RaiseNow C K E) E s) :
    wpAny (model prog w) A (exec (.Raise (some x) none pos) env) Q E s := by
  rw [arm_exec_Raise]
  first
    | exact wpAny_bind (wpAny_standAt (raise_x Y hh (wpAny_bind (wpAny_mono h (fun v s₁ h₁ => wpAny_bind (wpAny_standAt (wpAny_pure h₁))) fun _ _ x => x))))
    | (simp only [evalOpt, Option.map]; exact wpAny_bind (wpAny_standAt (raise_x Y hh (wpAny_bind (wpAny_mono h (fun v s₁ h₁ => wpAny_bind (wpAny_standAt (wpAny_pure h₁))) fun _ _ x => x)))))
    | (show wpAny (model prog w) A (do standAt pos; raiseStmt env (some (do let v ← eval x env; standAt pos; pure v)) none) Q E s; exact wpAny_bind (wpAny_standAt (raise_x Y hh (wpAny_bind (wpAny_mono h (fun v s₁ h₁ => wpAny_bind (wpAny_standAt (wpAny_pure h₁))) fun _ _ x => x)))))
/-- the contract of a call that raises an exception of the class C -/
def SpecX (k : Nat) (w : World) (f : Addr) (vs : List Value) (news : List (Addr × Obj)) (C : Addr) : Prop :=
  ∀ (dp un : Nat) (gd : Option (List Code)) (cn : Str) (cs : Scope) (a : Addr) (ccd : Value) (cl : List (Str × Addr)) (outer : List Env) (A₀ : Around) (base h₀ : Heap) (L : Addr) (m : Str → Option Value)
    (p : Program) (loose : List Str) (mean : ExcName → Option Value) (mg mb : Str → Option Value) (s : Shared) (Q E : Value → Shared → Prop),
    Below A₀ base outer h₀ → Fr h₀ L s.heap m → (hd.heap_39 w.params).In h₀ → News h₀ L s.heap news → Top p loose mean mg mb h₀ → cs.kind = .function → dp + k < recursionLimit → un + 100 * k < cLine →
    (∀ G t e ms h' tk', Fr h₀ L G m → RaisedS base G (envX cn cs L a ccd cl :: outer) e (.ref C) t ms news h' → G.UpToSlots h' → E (.ref e) { s with heap := h', toks := tk' }) →
    wpAny (model PySem.Challenge.rw_pb0539_01.prog w) (ktrTop dp un gd cn cs L a ccd cl outer) (call (.ref f) vs) Q E s
end
section
variable {k : Nat} {w : World} {f C : Addr} {vs : List Value} {news news₀ : List (Addr × Obj)}
  {dp un : Nat} {gd : Option (List Code)} {cn : Str} {cs : Scope} {a : Addr} {ccd : Value} {cl : List (Str × Addr)} {outer : List Env} {A₀ : Around} {base h₀ : Heap} {L : Addr} {m : Str → Option Value}
  {p : Program} {loose : List Str} {mean : ExcName → Option Value} {mg mb : Str → Option Value} {s : Shared} {Q E : Value → Shared → Prop}
theorem SpecX.use (S : SpecX k w f vs news C) (B : Below A₀ base outer h₀) (F : Fr h₀ L s.heap m) (X : (hd.heap_39 w.params).In h₀) (N : News h₀ L s.heap news₀) (sub : ∀ q ∈ news, q ∈ news₀)
    (T : Top p loose mean mg mb h₀) (hk : cs.kind = .function) (hd : dp + k < recursionLimit) (hu : un + 100 * k < cLine)
    (hret : ∀ G t e ms h' tk', Fr h₀ L G m → RaisedS base G (envX cn cs L a ccd cl :: outer) e (.ref C) t ms news h' → G.UpToSlots h' → E (.ref e) { s with heap := h', toks := tk' }) :
    wpAny (model PySem.Challenge.rw_pb0539_01.prog w) (ktrTop dp un gd cn cs L a ccd cl outer) (call (.ref f) vs) Q E s :=
  S _ _ _ _ _ _ _ _ _ _ _ _ _ _ _ _ _ _ _ _ _ _ B F X (fun q hq => N q (sub q hq)) T hk hd hu hret
end
end
section
section
variable {M : Model} {A : Around} {E : Value → Shared → Prop} {h : Heap} {g : Array GenState} {d : Drawn} {t : Nat} {os : OsState} {K : Frag} {C D e : Addr} {oe : Obj}
theorem matches_self (Y : ClsX K C) (X : K.In h) (he : h.get? e = some oe) (hcls : oe.cls = .ref C) {Q : Bool → Shared → Prop} (hq : Q true ⟨h, g, d, t, os⟩) : wpAny M A (excMatches (.ref e) (.ref C)) Q E ⟨h, g, d, t, os⟩ := by
  obtain ⟨_, _, _, _, nm, q, NS, bs, bm, hdct, sn, sub, ab, col, dd, k0, k1, k2, k3, k5, hK, T⟩ := Y
  exact wpAny_excMatches_sub_self (X _ _ hK) he hcls T.base hq
theorem matches_other (Y : ClsX K C) (Z : ClsX K D) (X : K.In h) (he : h.get? e = some oe) (hcls : oe.cls = .ref C) (hne : subIn K (.ref C) (.ref D) = some false) {Q : Bool → Shared → Prop} (hq : Q false ⟨h, g, d, t, os⟩) :
    wpAny M A (excMatches (.ref e) (.ref D)) Q E ⟨h, g, d, t, os⟩ := by
  obtain ⟨_, _, _, _, nm, q, NS, bs, bm, hdct, sn, sub, ab, col, dd, k0, k1, k2, k3, k5, hK, T⟩ := Z
  have hD := X _ _ hK
  have hcB := cont_cons (C := D) T.base
  have hs : Looks M h (isSubtype (.ref C) (.ref D)) false := looks_subIn X hne
  have f := tc_notTuple
  unfold excMatches
  repeat (first | (with_reducible refine wpAny_loadPart_at he ?_; rw [hcls]) | with_reducible refine wpAny_loadPart_at hD ?_ | (with_reducible refine wpAny_isSubtype_exc hD ?_; rw [hcB]) | with_reducible refine hs.here ?_ | wp_step)
  exact hq
end
section
variable {prog : Program} {w : World} {A₀ : Around} {E : Value → Shared → Prop} {s' : Shared} {base g g₀ G : Heap} {outer : List Env} {L a e t C : Addr} {m : Str → Option Value} {name : Str} {scope : Scope} {cd : Value}
  {vs : List Value} {b₀ b₁ : Stmt} {suite suite₁ : List Stmt} {pos np pos₁ np₁ : Pos} {rest : List ExceptHandler} {Q : Flow → Shared → Prop} {news : List (Addr × Obj)} {KF : Frag}
  {p : Program} {loose : List Str} {mean : ExcName → Option Value} {mg mb : Str → Option Value} {x y : Str} {D₁ D₂ : Addr}
/-- a try with two clauses, each of an own class -/
theorem caughtX (hC : C = D₁ ∨ C = D₂) (Y₁ : ClsX KF D₁) (Y₂ : ClsX KF D₂) (hne : subIn KF (.ref D₂) (.ref D₁) = some false) (R : RaisedS base G (envOf name scope L a cd :: outer) e (.ref C) t vs news s'.heap) (F : Fr g L G m) (K : Below A₀ base outer g) (hsm : G.UpToSlots s'.heap) (XB : KF.In base) (TB : Top p loose mean mg mb base)
    (ex₁ : nsIn KF mainGlobals x = some (some (.ref D₁))) (ex₂ : nsIn KF mainGlobals y = some (some (.ref D₂)))
    (k : ∀ h' g', KtsTurn (outer.filterMap (·.frame)) g g' → Fr g' L h' m → News g' L h' news →
      wpAny (model prog w) ((A₀.deeper (envOf name scope L a cd)).mark (some (.ref e))) (execs (b₀ :: suite) (envOf name scope L a cd)) Q E { s' with heap := h' } ∧
      wpAny (model prog w) ((A₀.deeper (envOf name scope L a cd)).mark (some (.ref e))) (execs (b₁ :: suite₁) (envOf name scope L a cd)) Q E { s' with heap := h' })
    (hk : scope.kind = .function) (hx : (envOf name scope L a cd).kindOf x = some .globalImplicit) (hd : (x == ("__debug__" : Str)) = false) (hx₂ : (envOf name scope L a cd).kindOf y = some .globalImplicit) (hd₂ : (y == ("__debug__" : Str)) = false)
    (hE : PassesOwnAt (model prog w) ((A₀.deeper (envOf name scope L a cd)).mark (some (.ref e))) (A₀.deeper (envOf name scope L a cd)) (envOf name scope L a cd) E) :
    wpAny (model prog w) (A₀.deeper (envOf name scope L a cd)) (noteFrame (.ref e) (envOf name scope L a cd))
      (fun _ s₂ => wpAny (model prog w) (A₀.deeper (envOf name scope L a cd)) (setFlight (.ref e) none) (fun _ s₃ =>
        wpAny (model prog w) (A₀.deeper (envOf name scope L a cd)) (handleBy (.ref e) (envOf name scope L a cd) (.ExceptHandler (some (.Name x np)) none (b₀ :: suite) pos :: .ExceptHandler (some (.Name y np₁)) none (b₁ :: suite₁) pos₁ :: rest)) Q E s₃) E s₂) E s' := by
  obtain ⟨⟨B, hB, hBG, hl, hfl, hnew⟩, htup⟩ := R
  have hL : B.get? L = none := by
    obtain ⟨_, ⟨L', _, hf, hn', _⟩, _⟩ := hfl.2.2.1
    obtain rfl : L = L' := Option.some.inj hf
    exact hn'
  refine wpAny_looks_onW (Around.frames_deeper K.stack) rfl hfl fun h₄ hheld₄ hsm₄ => ?_
  refine wpAny_landsW hheld₄ fun h₅ hheld hsm₅' => ?_
  have hsm₅ := hsm₄.trans hsm₅'
  obtain ⟨g₅, T₅, F₅, K₅⟩ := kts_ground K F hBG hheld.1 (hsm.trans hsm₅)
  have X₅ : KF.In g₅ := XB.keeps K₅.stays
  have P₅ : TopRead p loose mg mb g₅ := topRead_of (TB.keeps K₅.stays)
  obtain ⟨ob, hob, hobc⟩ := hheld.there
  have done : ∀ {bb : Stmt} {ss : List Stmt} {ps : Pos}, (∀ h' g', KtsTurn (outer.filterMap (·.frame)) g g' → Fr g' L h' m → News g' L h' news →
      wpAny (model prog w) ((A₀.deeper (envOf name scope L a cd)).mark (some (.ref e))) (execs (bb :: ss) (envOf name scope L a cd)) Q E { s' with heap := h' }) →
      codeAny (model prog w) ((A₀.deeper (envOf name scope L a cd)).mark (some (.ref e))) (.handlers (.ref e) [.ExceptHandler none none (bb :: ss) ps] (envOf name scope L a cd)) (fun r s₂ => match r with
          | .ok f => Q f s₂
          | .error x => cameBackBy (model prog w) (A₀.deeper (envOf name scope L a cd)) (envOf name scope L a cd) E x s₂) { s' with heap := h₅ } := by
    intro bb ss ps kk
    refine codeAny_handlers_suite ?_
    refine lands_againW hheld fun h₆ hfl₆ hsm₆ => ?_
    obtain ⟨g₆, T₆, F₆, K₆⟩ := kts_ground K F hBG hfl₆.1 ((hsm.trans hsm₅).trans hsm₆)
    have Nl : News g₆ L h₆ news := fun q hq => ⟨hfl₆.1 _ _ (hl q hq).1, (fun z => by have := (hl q hq).1; rw [z, hL] at this; cases this), T₆.none_ _ (kts_none F.keep (hl q hq).2.1)⟩
    exact wpAny_passesOwnAt hE (kk h₆ g₆ T₆ F₆ Nl)
  by_cases hc : C = D₁
  · subst hc
    refine wpAny_handleBy_cons (codeAny_handlers_test (name_K F₅ X₅ P₅ ex₁ ?_ hk hx hd)) (by intro q; cases q)
    refine matches_self Y₁ (X₅.keeps F₅.keep) hob hobc ?_
    exact done fun h' g' T F N => (k h' g' T F N).1
  · obtain rfl : C = D₂ := hC.resolve_left hc
    refine wpAny_handleBy_cons (codeAny_handlers_test (name_K F₅ X₅ P₅ ex₁ ?_ hk hx hd)) (by intro q; cases q)
    refine matches_other Y₂ Y₁ (X₅.keeps F₅.keep) hob hobc hne ?_
    refine wpAny_handleBy_cons (codeAny_handlers_test (name_K F₅ X₅ P₅ ex₂ ?_ hk hx₂ hd₂)) (by intro q; cases q)
    refine matches_self Y₂ (X₅.keeps F₅.keep) hob hobc ?_
    exact done fun h' g' T F N => (k h' g' T F N).2
end
section
variable {prog : Program} {w : World} {A₀ A : Around} {s : Shared} {base h₀ : Heap} {L : Addr} {m : Str → Option Value} {news : List (Addr × Obj)} {K : Frag} {p : Program} {loose : List Str} {mean : ExcName → Option Value} {mg mb : Str → Option Value}
    {R : Result → Shared → Prop} {name qual : Str} {params : Arguments} {body : List Stmt} {scope : Scope} {dV kV doc pm cdv ct oc : Value} {an od : Option Addr} {osl : Array (Option Value)} {f : Addr} {args : Args} {binds : List (Str × Value)} {env : Env}
/-- a def with a try, called from the outermost frame -/
theorem code_defX (B : Below A₀ base [] h₀) (F : Fr h₀ L s.heap m) (X₀ : K.In h₀) (N : News h₀ L s.heap news) (T : Top p loose mean mg mb h₀) (hA : A.frames = some [env]) (hf : env.frame = some L) (hke : env.scope.kind = .function)
    (ho : K.lookup f = some ⟨oc, od, .func (fnOf name qual params body scope dV kV doc pm an cdv ct), osl⟩) (hcd : codeIn K cdv qual = true) (hroom : A.depth < recursionLimit)
    (hbind : BindsTo s (fnOf name qual params body scope dV kV doc pm an cdv ct) args binds) (hloc : ∀ y ∈ binds, scope.names.lookup y.1 = some .local)
    (h : ∀ g L' h₁, Fr h₀ L g m → Fr g L' h₁ (fun y => binds.reverse.lookup y) → News g L' h₁ news → Below A base [env] g → K.In g → Top p loose mean mg mb g →
      wpAny (model prog w) (A.deeper (envOf qual scope L' f cdv)) (execs body (envOf qual scope L' f cdv))
        (fun fl s' => LeaveS0 ([env].filterMap (·.frame)) h₀ L m g R (match fl with | .ret v => v | _ => .none) s')
        (fun e s' => wpAny (model prog w) (A.deeper (envOf qual scope L' f cdv)) (leaving (envOf qual scope L' f cdv) e) (fun _ s'' => R (.error e) s'') (fun e' s'' => R (.error e') s'') s')
        { s with heap := h₁, toks := s.toks + binds.length })
    (hco : scope.isCoroutine = false) (hgen : scope.isGenerator = false) (hk : scope.kind = .function)
    (hcell : ∀ x ∈ scope.names, x.2 ≠ .cell) : codeAny (model prog w) A (.call (.ref f) args) R s := by
  have X := X₀.keeps F.keep
  refine codeAny_call_def (fd := fnOf name qual params body scope dV kV doc pm an cdv ct) (body := body) (binds := binds) hroom (X _ _ ho) rfl (T.nolimit.keeps F.keep) (codeRec_of X hcd) rfl hbind hcell hloc (fun h₁ hns hk₁ => ?_) hco hgen hk
  obtain ⟨FG, BG, st, _⟩ := groundX (R := R) B F N hA hf hke
  have FG' := FG
  obtain ⟨⟨oL, es, ep, hLg, hLd, hLk, hLf⟩, _, _⟩ := FG'
  refine wpAny_mono (h _ s.heap.objs.size h₁ FG ⟨hns, fun b o e => hk₁ b o (of_hideAll _ e), Nat.le_of_eq (hideAll_size _ _)⟩
    (fun p hp => ⟨hk₁ _ _ (N p hp).1, Nat.ne_of_lt (Heap.lt_size (N p hp).1), hideAll_none _ (List.mem_map_of_mem hp)⟩) BG (X₀.keeps st) (T.keeps st)) (fun fl s' hl => ?_) fun _ _ y => y
  obtain ⟨g', L', m', news', T', F', N', k⟩ := hl
  have nL₀ : h₀.get? L = none := kts_self F
  obtain ⟨sl, hs⟩ := T'.up hLg
  refine k ⟨⟨_, es, ep, F'.keep _ _ hs, hLd, hLk, hLf⟩, fun b o e => F'.keep b o (T'.other b o (st b o e) (fun q => by
    obtain ⟨env', he', hf'⟩ := List.mem_filterMap.mp q
    rw [List.mem_singleton.mp he', hf] at hf'
    cases hf'
    rw [nL₀] at e
    cases e)), F.above⟩ fun p hp => ⟨(N' p hp).1, fun q => ?_, ?_⟩
  · have := (N' p hp).2.2
    rw [q, hs] at this
    cases this
  · cases q : h₀.get? p.1 with
    | none => rfl
    | some o =>
      obtain ⟨sl', hs'⟩ := T'.up (st _ _ q)
      have := (N' p hp).2.2
      rw [hs'] at this
      cases this
end
end
section
example : True := by
  k_with_none
  k_with "K_ALL" => (first | assumption | exact List.forall_mem_nil _ | (refine' off_as 0 ?h8 ?m8; (case h8 => assumption); (case m8 => k_dflt (exact rfl))) | (refine' lt_as 0 ?h7 ?m7; (case h7 => assumption); (case m7 => k_dflt (exact rfl))) | (refine' off_c ?a9 ?b9; (case a9 => k_ne); (case b9 => k_all)) | (refine' List.forall_mem_cons.mpr ⟨?a, ?b⟩; (case a => k_ne); (case b => k_all)) | (refine' lt_off ?h9 ?m9; (case h9 => assumption); (case m9 => intro q9 hq9; (repeat (first | exact hq9 | refine List.Mem.tail _ ?_)))) | (refine' off_sub ?h9 ?m9; (case h9 => assumption); (case m9 => intro q9 hq9; (repeat (first | exact hq9 | refine List.Mem.tail _ ?_)))))
  k_with "K_NE" => (first | assumption | exact Ne.symm (by assumption) | (refine' lt_ne ?h9 ?m9; (case h9 => assumption); (case m9 => k_mem)) | (refine' lt_ne' ?h9 ?m9; (case h9 => assumption); (case m9 => k_mem)) | (refine' off_ne ?h9 ?m9; (case h9 => assumption); (case m9 => k_mem)) | (refine' off_ne' ?h9 ?m9; (case h9 => assumption); (case m9 => k_mem)) | (refine' lt_ne1 ?h9 ?m9; (case h9 => assumption); (case m9 => k_mem)) | (refine' lt_ne1' ?h9 ?m9; (case h9 => assumption); (case m9 => k_mem)) | (refine' lt_ne2 ?h9 ?m9; (case h9 => assumption); (case m9 => k_mem)) | (refine' lt_ne2' ?h9 ?m9; (case h9 => assumption); (case m9 => k_mem)) | (refine' lt_ne3 ?h9 ?m9; (case h9 => assumption); (case m9 => k_mem)) | (refine' lt_ne3' ?h9 ?m9; (case h9 => assumption); (case m9 => k_mem)) | (refine neN ?_; (try dsimp only); omega))
  k_with "K_MEM" => (first | with_reducible assumption | exact mm0 | exact mm1 | exact mm2 | exact mm3 | exact mm4 | exact mm5 | exact mm6 | exact mm7 | exact mm8 | exact mm9 | exact mm10 | exact mm11 | exact mm12 | ((repeat (first | with_reducible assumption | exact List.Mem.head _ | (refine mem_in ?_; with_reducible assumption) | refine' List.Mem.tail _ ?_)); done))
  k_with "K_SUB" => (first | exact hq | exact md1 hq | exact md2 hq | exact md3 hq | exact md4 hq | exact md5 hq | exact md6 hq | exact md7 hq | exact md8 hq | exact md9 hq | exact md10 hq | exact md11 hq | exact md12 hq | exact md13 hq | exact md14 hq | (repeat (first | exact hq | refine List.Mem.tail _ ?_)))
  k_with "ENTER" => (first | (refine' code_def ?k1 ?k2 ?k3 ?k4 ?k5 ?kA ?kF ?kK ?k6 ?k7 ?k8 ?k9 ?kB ?_ ?c2 ?c3 ?c4 ?c5; (case kA => exact rfl); (case kF => exact rfl); (case kK => first | assumption | exact rfl); (case k1 => k_asm); (case k2 => k_asm); (case k3 => k_asm); (case k4 => k_asm); (case k5 => k_asm); (case k6 => k_is); (case k7 => k_is); (case k8 => k_room); (case k9 => first | exact BindsTo.of_eq rfl | exact binds_K (by k_in) rfl (by k_is) rfl rfl rfl); (case c5 => decide); (case kB => exact locs rfl); (case c2 => exact rfl); (case c3 => exact rfl); (case c4 => exact rfl); k_whole; intro g' L' h' FG' F' N' B' X' T'; (try dsimp only); (try k_lift B'); (try k_fold)) | (refine' code_defC ?k1 ?k2 ?k3 ?k4 ?k5 ?kA ?kF ?kK ?k6 ?k7 ?k8 ?k9 ?kB ?kD ?_ ?c2 ?c3 ?c4; (case kA => exact rfl); (case kF => exact rfl); (case kK => first | assumption | exact rfl); (case k1 => k_asm); (case k2 => k_asm); (case k3 => k_asm); (case k4 => k_asm); (case k5 => k_asm); (case k6 => k_is); (case k7 => k_is); (case k8 => k_room); (case k9 => first | exact BindsTo.of_eq rfl | exact binds_K (by k_in) rfl (by k_is) rfl rfl rfl); (case kB => exact rfl); (case kD => decide +kernel); (case c2 => exact rfl); (case c3 => exact rfl); (case c4 => exact rfl); k_whole; intro g' L' h' tk' cells' FG' F' N' Y' B' X' T' l1; (try k_lt l1); k_cells Y'; (try simp only [List.cons_append, List.nil_append] at N'); (try dsimp only); (try k_lift B'); (try k_fold)))
  k_with "X FinE" => (((unfold LCg.FinE); intro D' h' tk' F' N' o1'; (have oD' := off_of_off1 o1'); (clear o1'); (try simp only [List.nil_append, List.cons_append] at N'); (try dsimp only)))
  k_with "X ALC" => ((k_here; with_reducible refine plainObj_wpAny_Assign_Attribute ?_ ?_; rotate_left; with_unfolding_all rfl))
  k_with "X FinA" => ((unfold LCg.FinA); intro upsA h' tk' F' N' o1'; (have oU := off_of_off1 o1'); (clear o1'); (try simp only [List.nil_append, List.cons_append] at N'); (try dsimp only))
  k_with "X FOR" => ((k_here; (rename Fr _ _ _ _ => lF'); (with_unfolding_all refine' For_invVF lF' ?k1 ?k2 ?_; (case k1 => exact rfl); (case k2 => exact rfl); k_whole)))
  k_with "K_ROOM" => (first | k_dflt (first | exact room_0 hd | exact room_of 1 hd | exact room_of 2 hd | exact room_of 3 hd | exact room_of 4 hd | exact room_of 5 hd | exact room_of 6 hd | exact room_of 7 hd | exact room_of 8 hd) | ktr_room)
  k_with "K_UNITS" => (first | k_dflt (first | exact units_of 103 hu | exact units_of 303 hu | exact units_of 203 hu | exact units_of 67 hu | exact units_of 503 hu | exact units_of 403 hu) | ktr_units)
  k_with "binaryOp Add ref ref" => (k_here; (with_reducible show wpAny _ _ (binaryOp _ (Value.ref _) (Value.ref _)) _ _ _); k_dflt (refine' addl_at ?k1 ?k2 ?k3 ?k4 ?k5 ?k6 ?_; (case k1 => k_asm); (case k2 => k_asm); (case k3 => k_mem); (case k4 => k_mem); (case k5 => first | assumption | decide | (simp only [List.length_cons, List.length_nil]; omega)); (case k6 => first | assumption | decide | (simp only [List.length_cons, List.length_nil]; omega)); k_whole); intro l' h' F' N' l1; (try k_lt l1); (try k_sweep))
  k_with "CompSrcT" => (k_here; k_dflt (refine LCt.CompSrcT.ledger (by rfl) (by k_asm) (by k_asm) (by k_mem) (by rw [sizeLine_eq, List.size_toArray]; omega) ?_); intro g'; k_dflt (refine' rest_filter _ ?hf ?hi ?hS (fun i9 t9 I9 oI9 C9 oC9 D9 ys9 m9 h' tk9 E9 hi9 hC9 hx9 F' N' off9 ne9 => ?_) (fun ys9 hys9 => ?_); (case hf => assumption); (case hi => assumption); (case hS => exact Or.inr ⟨_, by k_mem, rfl, _, rfl⟩)); (try k_fold))
  k_with "TestEnd" => (refine TestEnd.intro ?_ (by k_asm) (by k_asm); rfl)
  k_with "call builtin:len cons nil" => (k_here; (with_reducible show wpAny _ _ (call (Value.builtin "len") [Value.ref _]) _ _ _); k_dflt (refine' len_filt ?k1 ?k2 ?k3 ?k4 ?k5 ?_; (case k1 => k_asm); (case k2 => k_mem); (case k3 => assumption); (case k4 => assumption); (case k5 => assumption); k_whole))
  k_with "subscriptTail Attribute Name Name ref int" => (k_here; (with_reducible show wpAny _ _ (subscriptTail _ _ (Value.ref _) (Value.int _ _)) _ _ _); (try (k_dflt (refine kba_turn (value' := PySem.Expr.Name (PySem.Str.ofString "_") ⟨0, 0, 0, 0⟩) (fun _ => rfl) ?_))); k_dflt (refine' kda_item (knd := PySem.intKind _ _) ?N ?m ?d (intKind_is _ _ _ _) ?l ?_; (case N => k_asm); (case m => k_mem); (case d => assumption); (case l => assumption); k_whole))
  k_with "subscriptTail Name Name ref int" => (k_here; (with_reducible show wpAny _ _ (subscriptTail _ _ (Value.ref _) (Value.int _ _)) _ _ _); (try (k_dflt (refine kba_turn (value' := PySem.Expr.Name (PySem.Str.ofString "_") ⟨0, 0, 0, 0⟩) (fun _ => rfl) ?_))); k_dflt (refine' kda_item (knd := PySem.intKind _ _) ?N ?m ?d (intKind_is _ _ _ _) ?l ?_; (case N => k_asm); (case m => k_mem); (case d => assumption); (case l => assumption); k_whole))
  k_with "compareOp NotIn int ref" => (k_here; k_dflt (refine' kdg_notin (knd := PySem.intKind _ _) ?N ?m ?d ?lo (intKind_is _ _ _ _) true ?hb ?_; (case N => k_asm); (case m => k_mem); (case d => assumption); (case lo => assumption); (case hb => assumption); k_whole))
  k_with "call builtin:list.append nil" => (k_here; k_dflt (refine' append_at ?k1 ?k2 ?k3 ?k4 ?_; (case k1 => k_asm); (case k2 => k_asm); (case k3 => k_updF); (case k4 => first | assumption | exact filt_len (by assumption) (by assumption) (by assumption)); k_whole); intro h' F' N'; (try dsimp only at N'); (try k_sweep))
  k_with "call builtin:list.append cons nil" => (k_here; k_dflt (refine' append_at ?k1 ?k2 ?k3 ?k4 ?_; (case k1 => k_asm); (case k2 => k_asm); (case k3 => k_updF); (case k4 => first | assumption | exact filt_len (by assumption) (by assumption) (by assumption)); k_whole); intro h' F' N'; (try dsimp only at N'); (try k_sweep))
  k_with "call builtin:sorted cons nil" => (k_here; (with_reducible show wpAny _ _ (call (Value.builtin "sorted") [Value.ref _]) _ _ _); k_dflt (refine' sorted_at rfl ?k1 ?k2 ?k3 ?k4 ?k5 ?_; (case k1 => k_asm); (case k2 => k_asm); (case k3 => k_mem); (case k4 => assumption); (case k5 => assumption); k_whole); intro B' h' tk9 t3' t1' t2' F' N' l1; (try k_lt l1))
  exact trivial
def InX (C : Addr) : Prop := C = 44 ∨ C = 56
theorem tailX : TailX [.ref 31, .type "Exception", .type "BaseException", .type "object"] :=
  ⟨by decide +kernel, by decide +kernel, by decide +kernel, by decide +kernel, by decide +kernel, fun self => by rw [refuseLoop_ref]; kernel_rfl⟩
theorem clsX {w : World} {C : Addr} (h : InX C) : ClsX (hd.heap_39 w.params) C := by
  rcases h with rfl | rfl
  · exact ⟨by k_is, by k_is, by k_is, by k_is, _, _, _, _, _, _, _, _, _, _, _, _, _, _, _, _, by k_is, tailX⟩
  · exact ⟨by k_is, by k_is, by k_is, by k_is, _, _, _, _, _, _, _, _, _, _, _, _, _, _, _, _, by k_is, tailX⟩
theorem meta_exc : typeOf (.type "Exception") = pure (.type "type") := by kernel_rfl
theorem find_exc {w : World} : findCls (hd.heap_39 w.params) (.type "Exception") (.type "type") "__init__" = some (.val (.builtin "Exception.__init__")) := by kernel_rfl
example : True := by
  k_with "getMethod type:Exception" => (k_here; k_dflt (refine method_type (v := .builtin "Exception.__init__") (by k_asm) (by k_asm) meta_exc (by decide +kernel) find_exc rfl ?_))
  k_with "call builtin:Exception.__init__ cons nil" => (k_here; k_dflt (refine exc_init_led (clsX (by assumption)) (by k_asm) (by k_asm) (by k_asm) (by k_all) (by exact Nat.le_of_ble_eq_true rfl) ?_); intro t8 h' F' N' l8)
  k_with "setAttr ref" => (k_here; k_dflt (refine set_newX (clsX (by assumption)) (by k_asm) (by k_asm) (by k_asm) (by k_all) (by rcases hC with rfl | rfl <;> k_is) (by rcases hC with rfl | rfl <;> k_is) (by rcases hC with rfl | rfl <;> k_is) ?_); intro d8 h' o8 tk8 F' N')
  exact trivial
theorem newx_spec (w : World) (C : Addr) (hC : InX C) (y : Str) (ty : Tok) (rest : List (Addr × Obj)) :
   Spec 2 w C [.str y ty] rest (fun r nx => ∃ x t d o, r = .ref x ∧ nx = (x, excO C t (some d)) :: (t, tupO [.str y ty]) :: (d, o) :: rest ∧ Off x ((t, tupO [.str y ty]) :: rest) ∧ Off t rest) := by
  intro dp' un gd cn cs' a ccd cl outer A₀ base h₀ L m p' loose mean mg mb s Q E B F X N T hk hd hu hret
  refine' call_newX F X N (clsX hC) (by exact Nat.le_of_ble_eq_true rfl) ?_
  intro x9 t9 h' F' N' l1 l2
  k_dflt cell_enter
  k_steps
  exact hret _ _ _ _ ⟨_, _, _, _, rfl, rfl, off_cons.mpr ⟨Nat.ne_of_gt (l8 _ (.head _)), fun q hq => Nat.ne_of_lt (l2 q (.tail _ hq))⟩, fun q hq => Nat.ne_of_lt (l8 q (md2 hq))⟩ (by assumption) (news_drop (by assumption) (sub_cons mm0 (sub_cons mm2 (sub_cons mm1 fun q hq => md4 hq))))
end
section
example : True := by
  k_with_none
  k_with "K_ALL" => (first | assumption | exact List.forall_mem_nil _ | (refine' off_as 0 ?h8 ?m8; (case h8 => assumption); (case m8 => k_dflt (exact rfl))) | (refine' lt_as 0 ?h7 ?m7; (case h7 => assumption); (case m7 => k_dflt (exact rfl))) | (refine' off_c ?a9 ?b9; (case a9 => k_ne); (case b9 => k_all)) | (refine' List.forall_mem_cons.mpr ⟨?a, ?b⟩; (case a => k_ne); (case b => k_all)) | (refine' lt_off ?h9 ?m9; (case h9 => assumption); (case m9 => intro q9 hq9; (repeat (first | exact hq9 | refine List.Mem.tail _ ?_)))) | (refine' off_sub ?h9 ?m9; (case h9 => assumption); (case m9 => intro q9 hq9; (repeat (first | exact hq9 | refine List.Mem.tail _ ?_)))))
  k_with "K_NE" => (first | assumption | exact Ne.symm (by assumption) | (refine' lt_ne ?h9 ?m9; (case h9 => assumption); (case m9 => k_mem)) | (refine' lt_ne' ?h9 ?m9; (case h9 => assumption); (case m9 => k_mem)) | (refine' off_ne ?h9 ?m9; (case h9 => assumption); (case m9 => k_mem)) | (refine' off_ne' ?h9 ?m9; (case h9 => assumption); (case m9 => k_mem)) | (refine' lt_ne1 ?h9 ?m9; (case h9 => assumption); (case m9 => k_mem)) | (refine' lt_ne1' ?h9 ?m9; (case h9 => assumption); (case m9 => k_mem)) | (refine' lt_ne2 ?h9 ?m9; (case h9 => assumption); (case m9 => k_mem)) | (refine' lt_ne2' ?h9 ?m9; (case h9 => assumption); (case m9 => k_mem)) | (refine' lt_ne3 ?h9 ?m9; (case h9 => assumption); (case m9 => k_mem)) | (refine' lt_ne3' ?h9 ?m9; (case h9 => assumption); (case m9 => k_mem)) | (refine neN ?_; (try dsimp only); omega))
  k_with "K_MEM" => (first | with_reducible assumption | exact mm0 | exact mm1 | exact mm2 | exact mm3 | exact mm4 | exact mm5 | exact mm6 | exact mm7 | exact mm8 | exact mm9 | exact mm10 | exact mm11 | exact mm12 | ((repeat (first | with_reducible assumption | exact List.Mem.head _ | (refine mem_in ?_; with_reducible assumption) | refine' List.Mem.tail _ ?_)); done))
  k_with "K_SUB" => (first | exact hq | exact md1 hq | exact md2 hq | exact md3 hq | exact md4 hq | exact md5 hq | exact md6 hq | exact md7 hq | exact md8 hq | exact md9 hq | exact md10 hq | exact md11 hq | exact md12 hq | exact md13 hq | exact md14 hq | (repeat (first | exact hq | refine List.Mem.tail _ ?_)))
  k_with "ENTER" => (first | (refine' code_def ?k1 ?k2 ?k3 ?k4 ?k5 ?kA ?kF ?kK ?k6 ?k7 ?k8 ?k9 ?kB ?_ ?c2 ?c3 ?c4 ?c5; (case kA => exact rfl); (case kF => exact rfl); (case kK => first | assumption | exact rfl); (case k1 => k_asm); (case k2 => k_asm); (case k3 => k_asm); (case k4 => k_asm); (case k5 => k_asm); (case k6 => k_is); (case k7 => k_is); (case k8 => k_room); (case k9 => first | exact BindsTo.of_eq rfl | exact binds_K (by k_in) rfl (by k_is) rfl rfl rfl); (case c5 => decide); (case kB => exact locs rfl); (case c2 => exact rfl); (case c3 => exact rfl); (case c4 => exact rfl); k_whole; intro g' L' h' FG' F' N' B' X' T'; (try dsimp only); (try k_lift B'); (try k_fold)) | (refine' code_defC ?k1 ?k2 ?k3 ?k4 ?k5 ?kA ?kF ?kK ?k6 ?k7 ?k8 ?k9 ?kB ?kD ?_ ?c2 ?c3 ?c4; (case kA => exact rfl); (case kF => exact rfl); (case kK => first | assumption | exact rfl); (case k1 => k_asm); (case k2 => k_asm); (case k3 => k_asm); (case k4 => k_asm); (case k5 => k_asm); (case k6 => k_is); (case k7 => k_is); (case k8 => k_room); (case k9 => first | exact BindsTo.of_eq rfl | exact binds_K (by k_in) rfl (by k_is) rfl rfl rfl); (case kB => exact rfl); (case kD => decide +kernel); (case c2 => exact rfl); (case c3 => exact rfl); (case c4 => exact rfl); k_whole; intro g' L' h' tk' cells' FG' F' N' Y' B' X' T' l1; (try k_lt l1); k_cells Y'; (try simp only [List.cons_append, List.nil_append] at N'); (try dsimp only); (try k_lift B'); (try k_fold)))
  k_with "X FinE" => (((unfold LCg.FinE); intro D' h' tk' F' N' o1'; (have oD' := off_of_off1 o1'); (clear o1'); (try simp only [List.nil_append, List.cons_append] at N'); (try dsimp only)))
  k_with "X ALC" => ((k_here; with_reducible refine plainObj_wpAny_Assign_Attribute ?_ ?_; rotate_left; with_unfolding_all rfl))
  k_with "X FinA" => ((unfold LCg.FinA); intro upsA h' tk' F' N' o1'; (have oU := off_of_off1 o1'); (clear o1'); (try simp only [List.nil_append, List.cons_append] at N'); (try dsimp only))
  k_with "X FOR" => ((k_here; (rename Fr _ _ _ _ => lF'); (with_unfolding_all refine' For_invVF lF' ?k1 ?k2 ?_; (case k1 => exact rfl); (case k2 => exact rfl); k_whole)))
  k_with "K_ROOM" => (first | k_dflt (first | exact room_0 hd | exact room_of 1 hd | exact room_of 2 hd | exact room_of 3 hd | exact room_of 4 hd | exact room_of 5 hd | exact room_of 6 hd | exact room_of 7 hd | exact room_of 8 hd) | ktr_room)
  k_with "K_UNITS" => (first | k_dflt (first | exact units_of 103 hu | exact units_of 303 hu | exact units_of 203 hu | exact units_of 67 hu | exact units_of 503 hu | exact units_of 403 hu) | ktr_units)
  k_with "binaryOp Add ref ref" => (k_here; (with_reducible show wpAny _ _ (binaryOp _ (Value.ref _) (Value.ref _)) _ _ _); k_dflt (refine' addl_at ?k1 ?k2 ?k3 ?k4 ?k5 ?k6 ?_; (case k1 => k_asm); (case k2 => k_asm); (case k3 => k_mem); (case k4 => k_mem); (case k5 => first | assumption | decide | (simp only [List.length_cons, List.length_nil]; omega)); (case k6 => first | assumption | decide | (simp only [List.length_cons, List.length_nil]; omega)); k_whole); intro l' h' F' N' l1; (try k_lt l1); (try k_sweep))
  k_with "CompSrcT" => (k_here; k_dflt (refine LCt.CompSrcT.ledger (by rfl) (by k_asm) (by k_asm) (by k_mem) (by rw [sizeLine_eq, List.size_toArray]; omega) ?_); intro g'; k_dflt (refine' rest_filter _ ?hf ?hi ?hS (fun i9 t9 I9 oI9 C9 oC9 D9 ys9 m9 h' tk9 E9 hi9 hC9 hx9 F' N' off9 ne9 => ?_) (fun ys9 hys9 => ?_); (case hf => assumption); (case hi => assumption); (case hS => exact Or.inr ⟨_, by k_mem, rfl, _, rfl⟩)); (try k_fold))
  k_with "TestEnd" => (refine TestEnd.intro ?_ (by k_asm) (by k_asm); rfl)
  k_with "call builtin:len cons nil" => (k_here; (with_reducible show wpAny _ _ (call (Value.builtin "len") [Value.ref _]) _ _ _); k_dflt (refine' len_filt ?k1 ?k2 ?k3 ?k4 ?k5 ?_; (case k1 => k_asm); (case k2 => k_mem); (case k3 => assumption); (case k4 => assumption); (case k5 => assumption); k_whole))
  k_with "subscriptTail Attribute Name Name ref int" => (k_here; (with_reducible show wpAny _ _ (subscriptTail _ _ (Value.ref _) (Value.int _ _)) _ _ _); (try (k_dflt (refine kba_turn (value' := PySem.Expr.Name (PySem.Str.ofString "_") ⟨0, 0, 0, 0⟩) (fun _ => rfl) ?_))); k_dflt (refine' kda_item (knd := PySem.intKind _ _) ?N ?m ?d (intKind_is _ _ _ _) ?l ?_; (case N => k_asm); (case m => k_mem); (case d => assumption); (case l => assumption); k_whole))
  k_with "subscriptTail Name Name ref int" => (k_here; (with_reducible show wpAny _ _ (subscriptTail _ _ (Value.ref _) (Value.int _ _)) _ _ _); (try (k_dflt (refine kba_turn (value' := PySem.Expr.Name (PySem.Str.ofString "_") ⟨0, 0, 0, 0⟩) (fun _ => rfl) ?_))); k_dflt (refine' kda_item (knd := PySem.intKind _ _) ?N ?m ?d (intKind_is _ _ _ _) ?l ?_; (case N => k_asm); (case m => k_mem); (case d => assumption); (case l => assumption); k_whole))
  k_with "compareOp NotIn int ref" => (k_here; k_dflt (refine' kdg_notin (knd := PySem.intKind _ _) ?N ?m ?d ?lo (intKind_is _ _ _ _) true ?hb ?_; (case N => k_asm); (case m => k_mem); (case d => assumption); (case lo => assumption); (case hb => assumption); k_whole))
  k_with "call builtin:list.append nil" => (k_here; k_dflt (refine' append_at ?k1 ?k2 ?k3 ?k4 ?_; (case k1 => k_asm); (case k2 => k_asm); (case k3 => k_updF); (case k4 => first | assumption | exact filt_len (by assumption) (by assumption) (by assumption)); k_whole); intro h' F' N'; (try dsimp only at N'); (try k_sweep))
  k_with "call builtin:list.append cons nil" => (k_here; k_dflt (refine' append_at ?k1 ?k2 ?k3 ?k4 ?_; (case k1 => k_asm); (case k2 => k_asm); (case k3 => k_updF); (case k4 => first | assumption | exact filt_len (by assumption) (by assumption) (by assumption)); k_whole); intro h' F' N'; (try dsimp only at N'); (try k_sweep))
  k_with "call builtin:sorted cons nil" => (k_here; (with_reducible show wpAny _ _ (call (Value.builtin "sorted") [Value.ref _]) _ _ _); k_dflt (refine' sorted_at rfl ?k1 ?k2 ?k3 ?k4 ?k5 ?_; (case k1 => k_asm); (case k2 => k_asm); (case k3 => k_mem); (case k4 => assumption); (case k5 => assumption); k_whole); intro B' h' tk9 t3' t1' t2' F' N' l1; (try k_lt l1))
  exact trivial
example : True := by
  k_with "compareOp NotIn int ref" => (k_here; k_dflt (refine' kdg_notin (knd := PySem.intKind _ _) ?N ?m ?d ?lo (intKind_is _ _ _ _) false ?hb ?_; (case N => k_asm); (case m => k_mem); (case d => assumption); (case lo => assumption); (case hb => assumption); k_whole))
  k_with "compareOp In int ref" => (k_here; k_dflt (refine' kda_in (knd := PySem.intKind _ _) ?N ?m ?d ?lo (intKind_is _ _ _ _) true ?hb ?_; (case N => k_asm); (case m => k_mem); (case d => assumption); (case lo => assumption); (case hb => assumption); k_whole))
  exact trivial
theorem port_x (w : World) (c : PC) (C : Addr) (n : Int) (tn : Tok) (oR : Obj) (kR : List (Int × Value)) (news : List (Addr × Obj))
   (m1 : (c.P, instObj 187 c.dP) ∈ news) (m2 : (c.dP, c.d C) ∈ news) (m3 : (c.R, oR) ∈ news) (hR : IntD w oR kR) (hRs : (valueAt kR n).isSome = false) (hRn : (c.R == sysModules) = false) :
   SpecX 4 w 142 [.ref c.P, .int n tn] news 56 := by
  intro dp' un gd cn cs' a ccd cl outer A₀ base h₀ L m p' loose mean mg mb s Q E B F X N T hk hd hu hret
  refine wpAny_call ?_
  k_dflt cell_enter
  repeat' ((fail_if_success (with_reducible show wpAny _ _ (exec (Stmt.Raise _ _ _) _) _ _ _)); (fail_if_success (with_reducible show wpAny _ _ (call (Value.ref 56) _) _ _ _)); first | (k_unfold; (try dsimp only)) | (k_end; wrow_close) | walk1 | (dsimp only; walk1) | (leave1; try dsimp only))
  refine Raise_x (clsX (w := w) (.inr rfl)) rfl ?_
  repeat' ((fail_if_success (with_reducible show wpAny _ _ (call (Value.ref 56) _) _ _ _)); first | (k_unfold; (try dsimp only)) | (k_end; wrow_close) | walk1 | (dsimp only; walk1) | (leave1; try dsimp only))
  refine' Spec.use (newx_spec w 56 (.inr rfl) _ _ news) ?qB ?qF ?qX ?qN (fun q hq => hq) ?qT ?qhk ?qhd ?qhu ?qret
  case qN => assumption
  case qB => assumption
  case qF => assumption
  case qX => assumption
  case qT => assumption
  case qhk => first | exact rfl | assumption
  case qhd => k_room
  case qhu => k_units
  rintro r nx h' tk' ⟨x, t, d, o, rfl, rfl, o1, o2⟩ F1 N1
  refine ⟨_, _, _, rfl, Frag.In.keeps X' F1.keep, (N1 _ (.head _)).1, ?_⟩
  refine leave_raiseX B' F1 (news_drop N1 (sub_cons mm0 (sub_cons mm1 fun q hq => md3 hq))) (fun q hq => o1 q (.tail _ hq)) o2 (fun h2 R U => ?_) rfl
  exact hret _ _ _ _ _ _ FG' R U
theorem up_x (w : World) (c : PC) (C : Addr) (n now : Int) (tn tnw : Tok) (oR : Obj) (kR : List (Int × Value)) (news : List (Addr × Obj)) (hP : c.P ≠ c.dP)
   (m1 : (c.P, instObj 187 c.dP) ∈ news) (m2 : (c.dP, c.d C) ∈ news) (m3 : (c.R, oR) ∈ news) (hR : IntD w oR kR) (hRs : (valueAt kR n).isSome = false) (hRn : (c.R == sysModules) = false) :
   SpecX 5 w 163 [.ref c.P, .int n tn, .int now tnw] news 56 := by
  intro dp' un gd cn cs' a ccd cl outer A₀ base h₀ L m p' loose mean mg mb s Q E B F X N T hk hd hu hret
  refine wpAny_call ?_
  k_dflt cell_enter
  repeat' ((fail_if_success (with_reducible show wpAny _ _ (exec (Stmt.Raise _ _ _) _) _ _ _)); (fail_if_success (with_reducible show wpAny _ _ (call (Value.ref 142) _) _ _ _)); first | (k_unfold; (try dsimp only)) | (k_end; wrow_close) | walk1 | (dsimp only; walk1) | (leave1; try dsimp only))
  refine' SpecX.use (port_x w c C n _ oR kR news m1 m2 m3 hR hRs hRn) ?uB ?uF ?uX ?uN (fun q hq => hq) ?uT ?uhk ?uhd ?uhu ?uret
  case uN => assumption
  case uB => assumption
  case uF => assumption
  case uX => assumption
  case uT => assumption
  case uhk => first | exact rfl | assumption
  case uhd => k_room
  case uhu => k_units
  intro G t e ms h2 tk2 F2 R U
  refine leave_onX B' rfl F2 R U (fun h3 R3 U3 => ?_)
  exact hret _ _ _ _ _ _ FG' R3 U3
theorem add_x0 (w : World) (c : PC) (C p dp : Addr) (kp : Ks) (n : Int) (tn : Tok) (spd fv mtu : Value) (up : Bool) (news : List (Addr × Obj)) (hp : p ≠ dp)
   (m4 : (p, instObj 76 dp) ∈ news) (m5 : (dp, portD kp n tn spd up fv mtu) ∈ news) (hn : n < 1) :
   SpecX 4 w 135 [.ref c.P, .ref p] news 44 := by
  intro dp' un gd cn cs' a ccd cl outer A₀ base h₀ L m p' loose mean mg mb s Q E B F X N T hk hd hu hret
  refine wpAny_call ?_
  k_dflt cell_enter
  repeat' ((fail_if_success (with_reducible show wpAny _ _ (exec (Stmt.Raise _ _ _) _) _ _ _)); (fail_if_success (with_reducible show wpAny _ _ (call (Value.ref 142) _) _ _ _)); first | (k_unfold; (try dsimp only)) | (k_end; wrow_close) | walk1 | (dsimp only; walk1) | (leave1; try dsimp only))
  refine Raise_x (clsX (w := w) (.inl rfl)) rfl ?_
  repeat' ((fail_if_success (with_reducible show wpAny _ _ (call (Value.ref 44) _) _ _ _)); first | (k_unfold; (try dsimp only)) | (k_end; wrow_close) | walk1 | (dsimp only; walk1) | (leave1; try dsimp only))
  refine' Spec.use (newx_spec w 44 (.inl rfl) _ _ news) ?aB ?aF ?aX ?aN (fun q hq => hq) ?aT ?ahk ?ahd ?ahu ?aret
  case aN => assumption
  case aB => assumption
  case aF => assumption
  case aX => assumption
  case aT => assumption
  case ahk => first | exact rfl | assumption
  case ahd => k_room
  case ahu => k_units
  rintro r nx h' tk' ⟨x, t, d, o, rfl, rfl, o1, o2⟩ F1 N1
  refine ⟨_, _, _, rfl, Frag.In.keeps X' F1.keep, (N1 _ (.head _)).1, ?_⟩
  refine leave_raiseX B' F1 (news_drop N1 (sub_cons mm0 (sub_cons mm1 fun q hq => md3 hq))) (fun q hq => o1 q (.tail _ hq)) o2 (fun h2 R U => ?_) rfl
  exact hret _ _ _ _ _ _ FG' R U
theorem add_x1 (w : World) (c : PC) (C p dp : Addr) (kp : Ks) (n : Int) (tn : Tok) (spd fv mtu : Value) (up : Bool) (oR : Obj) (kR : List (Int × Value)) (news : List (Addr × Obj)) (hp : p ≠ dp) (hP : c.P ≠ c.dP)
   (m1 : (c.P, instObj 187 c.dP) ∈ news) (m2 : (c.dP, c.d C) ∈ news) (m3 : (c.R, oR) ∈ news) (m4 : (p, instObj 76 dp) ∈ news) (m5 : (dp, portD kp n tn spd up fv mtu) ∈ news) (hn : 1 ≤ n) (hR : IntD w oR kR) (hRs : (valueAt kR n).isSome = true) (hRn : (c.R == sysModules) = false) :
   SpecX 4 w 135 [.ref c.P, .ref p] news 56 := by
  intro dp' un gd cn cs' a ccd cl outer A₀ base h₀ L m p' loose mean mg mb s Q E B F X N T hk hd hu hret
  refine wpAny_call ?_
  k_dflt cell_enter
  repeat' ((fail_if_success (with_reducible show wpAny _ _ (exec (Stmt.Raise _ _ _) _) _ _ _)); (fail_if_success (with_reducible show wpAny _ _ (call (Value.ref 142) _) _ _ _)); first | (k_unfold; (try dsimp only)) | (k_end; wrow_close) | walk1 | (dsimp only; walk1) | (leave1; try dsimp only))
  refine Raise_x (clsX (w := w) (.inr rfl)) rfl ?_
  repeat' ((fail_if_success (with_reducible show wpAny _ _ (call (Value.ref 56) _) _ _ _)); first | (k_unfold; (try dsimp only)) | (k_end; wrow_close) | walk1 | (dsimp only; walk1) | (leave1; try dsimp only))
  refine' Spec.use (newx_spec w 56 (.inr rfl) _ _ news) ?bB ?bF ?bX ?bN (fun q hq => hq) ?bT ?bhk ?bhd ?bhu ?bret
  case bN => assumption
  case bB => assumption
  case bF => assumption
  case bX => assumption
  case bT => assumption
  case bhk => first | exact rfl | assumption
  case bhd => k_room
  case bhu => k_units
  rintro r nx h' tk' ⟨x, t, d, o, rfl, rfl, o1, o2⟩ F1 N1
  refine ⟨_, _, _, rfl, Frag.In.keeps X' F1.keep, (N1 _ (.head _)).1, ?_⟩
  refine leave_raiseX B' F1 (news_drop N1 (sub_cons mm0 (sub_cons mm1 fun q hq => md3 hq))) (fun q hq => o1 q (.tail _ hq)) o2 (fun h2 R U => ?_) rfl
  exact hret _ _ _ _ _ _ FG' R U
end
section
example : True := by
  k_with_none
  k_with "K_ALL" => (first | assumption | exact List.forall_mem_nil _ | (refine' off_as 0 ?h8 ?m8; (case h8 => assumption); (case m8 => k_dflt (exact rfl))) | (refine' lt_as 0 ?h7 ?m7; (case h7 => assumption); (case m7 => k_dflt (exact rfl))) | (refine' off_c ?a9 ?b9; (case a9 => k_ne); (case b9 => k_all)) | (refine' List.forall_mem_cons.mpr ⟨?a, ?b⟩; (case a => k_ne); (case b => k_all)) | (refine' lt_off ?h9 ?m9; (case h9 => assumption); (case m9 => intro q9 hq9; (repeat (first | exact hq9 | refine List.Mem.tail _ ?_)))) | (refine' off_sub ?h9 ?m9; (case h9 => assumption); (case m9 => intro q9 hq9; (repeat (first | exact hq9 | refine List.Mem.tail _ ?_)))))
  k_with "K_NE" => (first | assumption | exact Ne.symm (by assumption) | (refine' lt_ne ?h9 ?m9; (case h9 => assumption); (case m9 => k_mem)) | (refine' lt_ne' ?h9 ?m9; (case h9 => assumption); (case m9 => k_mem)) | (refine' off_ne ?h9 ?m9; (case h9 => assumption); (case m9 => k_mem)) | (refine' off_ne' ?h9 ?m9; (case h9 => assumption); (case m9 => k_mem)) | (refine' lt_ne1 ?h9 ?m9; (case h9 => assumption); (case m9 => k_mem)) | (refine' lt_ne1' ?h9 ?m9; (case h9 => assumption); (case m9 => k_mem)) | (refine' lt_ne2 ?h9 ?m9; (case h9 => assumption); (case m9 => k_mem)) | (refine' lt_ne2' ?h9 ?m9; (case h9 => assumption); (case m9 => k_mem)) | (refine' lt_ne3 ?h9 ?m9; (case h9 => assumption); (case m9 => k_mem)) | (refine' lt_ne3' ?h9 ?m9; (case h9 => assumption); (case m9 => k_mem)) | (refine neN ?_; (try dsimp only); omega))
  k_with "K_MEM" => (first | with_reducible assumption | exact mm0 | exact mm1 | exact mm2 | exact mm3 | exact mm4 | exact mm5 | exact mm6 | exact mm7 | exact mm8 | exact mm9 | exact mm10 | exact mm11 | exact mm12 | ((repeat (first | with_reducible assumption | exact List.Mem.head _ | (refine mem_in ?_; with_reducible assumption) | refine' List.Mem.tail _ ?_)); done))
  k_with "K_SUB" => (first | exact hq | exact md1 hq | exact md2 hq | exact md3 hq | exact md4 hq | exact md5 hq | exact md6 hq | exact md7 hq | exact md8 hq | exact md9 hq | exact md10 hq | exact md11 hq | exact md12 hq | exact md13 hq | exact md14 hq | (repeat (first | exact hq | refine List.Mem.tail _ ?_)))
  k_with "ENTER" => (first | (refine' code_def ?k1 ?k2 ?k3 ?k4 ?k5 ?kA ?kF ?kK ?k6 ?k7 ?k8 ?k9 ?kB ?_ ?c2 ?c3 ?c4 ?c5; (case kA => exact rfl); (case kF => exact rfl); (case kK => first | assumption | exact rfl); (case k1 => k_asm); (case k2 => k_asm); (case k3 => k_asm); (case k4 => k_asm); (case k5 => k_asm); (case k6 => k_is); (case k7 => k_is); (case k8 => k_room); (case k9 => first | exact BindsTo.of_eq rfl | exact binds_K (by k_in) rfl (by k_is) rfl rfl rfl); (case c5 => decide); (case kB => exact locs rfl); (case c2 => exact rfl); (case c3 => exact rfl); (case c4 => exact rfl); k_whole; intro g' L' h' FG' F' N' B' X' T'; (try dsimp only); (try k_lift B'); (try k_fold)) | (refine' code_defC ?k1 ?k2 ?k3 ?k4 ?k5 ?kA ?kF ?kK ?k6 ?k7 ?k8 ?k9 ?kB ?kD ?_ ?c2 ?c3 ?c4; (case kA => exact rfl); (case kF => exact rfl); (case kK => first | assumption | exact rfl); (case k1 => k_asm); (case k2 => k_asm); (case k3 => k_asm); (case k4 => k_asm); (case k5 => k_asm); (case k6 => k_is); (case k7 => k_is); (case k8 => k_room); (case k9 => first | exact BindsTo.of_eq rfl | exact binds_K (by k_in) rfl (by k_is) rfl rfl rfl); (case kB => exact rfl); (case kD => decide +kernel); (case c2 => exact rfl); (case c3 => exact rfl); (case c4 => exact rfl); k_whole; intro g' L' h' tk' cells' FG' F' N' Y' B' X' T' l1; (try k_lt l1); k_cells Y'; (try simp only [List.cons_append, List.nil_append] at N'); (try dsimp only); (try k_lift B'); (try k_fold)))
  k_with "X FinE" => (((unfold LCg.FinE); intro D' h' tk' F' N' o1'; (have oD' := off_of_off1 o1'); (clear o1'); (try simp only [List.nil_append, List.cons_append] at N'); (try dsimp only)))
  k_with "X ALC" => ((k_here; with_reducible refine plainObj_wpAny_Assign_Attribute ?_ ?_; rotate_left; with_unfolding_all rfl))
  k_with "X FinA" => ((unfold LCg.FinA); intro upsA h' tk' F' N' o1'; (have oU := off_of_off1 o1'); (clear o1'); (try simp only [List.nil_append, List.cons_append] at N'); (try dsimp only))
  k_with "X FOR" => ((k_here; (rename Fr _ _ _ _ => lF'); (with_unfolding_all refine' For_invVF lF' ?k1 ?k2 ?_; (case k1 => exact rfl); (case k2 => exact rfl); k_whole)))
  k_with "K_ROOM" => (first | k_dflt (first | exact room_0 hd | exact room_of 1 hd | exact room_of 2 hd | exact room_of 3 hd | exact room_of 4 hd | exact room_of 5 hd | exact room_of 6 hd | exact room_of 7 hd | exact room_of 8 hd) | ktr_room)
  k_with "K_UNITS" => (first | k_dflt (first | exact units_of 103 hu | exact units_of 303 hu | exact units_of 203 hu | exact units_of 67 hu | exact units_of 503 hu | exact units_of 403 hu) | ktr_units)
  k_with "binaryOp Add ref ref" => (k_here; (with_reducible show wpAny _ _ (binaryOp _ (Value.ref _) (Value.ref _)) _ _ _); k_dflt (refine' addl_at ?k1 ?k2 ?k3 ?k4 ?k5 ?k6 ?_; (case k1 => k_asm); (case k2 => k_asm); (case k3 => k_mem); (case k4 => k_mem); (case k5 => first | assumption | decide | (simp only [List.length_cons, List.length_nil]; omega)); (case k6 => first | assumption | decide | (simp only [List.length_cons, List.length_nil]; omega)); k_whole); intro l' h' F' N' l1; (try k_lt l1); (try k_sweep))
  k_with "CompSrcT" => (k_here; k_dflt (refine LCt.CompSrcT.ledger (by rfl) (by k_asm) (by k_asm) (by k_mem) (by rw [sizeLine_eq, List.size_toArray]; omega) ?_); intro g'; k_dflt (refine' rest_filter _ ?hf ?hi ?hS (fun i9 t9 I9 oI9 C9 oC9 D9 ys9 m9 h' tk9 E9 hi9 hC9 hx9 F' N' off9 ne9 => ?_) (fun ys9 hys9 => ?_); (case hf => assumption); (case hi => assumption); (case hS => exact Or.inr ⟨_, by k_mem, rfl, _, rfl⟩)); (try k_fold))
  k_with "TestEnd" => (refine TestEnd.intro ?_ (by k_asm) (by k_asm); rfl)
  k_with "call builtin:len cons nil" => (k_here; (with_reducible show wpAny _ _ (call (Value.builtin "len") [Value.ref _]) _ _ _); k_dflt (refine' len_filt ?k1 ?k2 ?k3 ?k4 ?k5 ?_; (case k1 => k_asm); (case k2 => k_mem); (case k3 => assumption); (case k4 => assumption); (case k5 => assumption); k_whole))
  k_with "subscriptTail Attribute Name Name ref int" => (k_here; (with_reducible show wpAny _ _ (subscriptTail _ _ (Value.ref _) (Value.int _ _)) _ _ _); (try (k_dflt (refine kba_turn (value' := PySem.Expr.Name (PySem.Str.ofString "_") ⟨0, 0, 0, 0⟩) (fun _ => rfl) ?_))); k_dflt (refine' kda_item (knd := PySem.intKind _ _) ?N ?m ?d (intKind_is _ _ _ _) ?l ?_; (case N => k_asm); (case m => k_mem); (case d => assumption); (case l => assumption); k_whole))
  k_with "subscriptTail Name Name ref int" => (k_here; (with_reducible show wpAny _ _ (subscriptTail _ _ (Value.ref _) (Value.int _ _)) _ _ _); (try (k_dflt (refine kba_turn (value' := PySem.Expr.Name (PySem.Str.ofString "_") ⟨0, 0, 0, 0⟩) (fun _ => rfl) ?_))); k_dflt (refine' kda_item (knd := PySem.intKind _ _) ?N ?m ?d (intKind_is _ _ _ _) ?l ?_; (case N => k_asm); (case m => k_mem); (case d => assumption); (case l => assumption); k_whole))
  k_with "compareOp NotIn int ref" => (k_here; k_dflt (refine' kdg_notin (knd := PySem.intKind _ _) ?N ?m ?d ?lo (intKind_is _ _ _ _) true ?hb ?_; (case N => k_asm); (case m => k_mem); (case d => assumption); (case lo => assumption); (case hb => assumption); k_whole))
  k_with "call builtin:list.append nil" => (k_here; k_dflt (refine' append_at ?k1 ?k2 ?k3 ?k4 ?_; (case k1 => k_asm); (case k2 => k_asm); (case k3 => k_updF); (case k4 => first | assumption | exact filt_len (by assumption) (by assumption) (by assumption)); k_whole); intro h' F' N'; (try dsimp only at N'); (try k_sweep))
  k_with "call builtin:list.append cons nil" => (k_here; k_dflt (refine' append_at ?k1 ?k2 ?k3 ?k4 ?_; (case k1 => k_asm); (case k2 => k_asm); (case k3 => k_updF); (case k4 => first | assumption | exact filt_len (by assumption) (by assumption) (by assumption)); k_whole); intro h' F' N'; (try dsimp only at N'); (try k_sweep))
  k_with "call builtin:sorted cons nil" => (k_here; (with_reducible show wpAny _ _ (call (Value.builtin "sorted") [Value.ref _]) _ _ _); k_dflt (refine' sorted_at rfl ?k1 ?k2 ?k3 ?k4 ?k5 ?_; (case k1 => k_asm); (case k2 => k_asm); (case k3 => k_mem); (case k4 => assumption); (case k5 => assumption); k_whole); intro B' h' tk9 t3' t1' t2' F' N' l1; (try k_lt l1))
  exact trivial
theorem sub_56 {w : World} : subIn (hd.heap_39 w.params) (.ref 56) (.ref 44) = some false := by kernel_rfl
theorem refused_use {w : World} {dp un : Nat} {gd : Option (List Code)} {cn : Str} {cs : Scope} {a : Addr} {ccd : Value} {cl : List (Str × Addr)} {A₀ : Around} {base h₀ : Heap} {L : Addr} {m : Str → Option Value}
    {p : Program} {loose : List Str} {mean : ExcName → Option Value} {mg mb : Str → Option Value} {s : Shared} {Q E : Value → Shared → Prop} {news : List (Addr × Obj)} {f C : Addr} {fo : Obj} {fd : FuncData} {k : Nat}
    (B : Below A₀ base [] h₀) (F : Fr h₀ L s.heap m) (X : (hd.heap_39 w.params).In h₀) (N : News h₀ L s.heap news) (T : Top p loose mean mg mb h₀) (hk : cs.kind = .function) (XB : (hd.heap_39 w.params).In base) (TB : Top p loose mean mg mb base)
    (hC : InX C) (hm : (f, fo) ∈ news) (hfd : fo.data = .func fd) (hk6 : k ≤ 8) (S : SpecX k w f [] news C) (hd : dp + 10 < recursionLimit) (hu : un + 100 * 10 < cLine)
    (hret : ∀ h' tk', Fr h₀ L h' m → News h₀ L h' news → Q (.bool true) { s with heap := h', toks := tk' }) :
    wpAny (model PySem.Challenge.rw_pb0539_01.prog w) (ktrTop dp un gd cn cs L a ccd cl []) (call (.ref 219) [.ref f]) Q E s := by
  refine wpAny_call ?_
  refine' code_defX ?k1 ?k2 ?k3 ?k4 ?k5 ?kA ?kF ?kK ?k6 ?k7 ?k8 ?k9 ?kB ?_ ?c2 ?c3 ?c4 ?c5
  case kA => exact rfl
  case kF => exact rfl
  case kK => first | assumption | exact rfl
  case k1 => k_asm
  case k2 => k_asm
  case k3 => k_asm
  case k4 => k_asm
  case k5 => k_asm
  case k6 => k_is
  case k7 => k_is
  case k8 => k_room
  case k9 => exact BindsTo.of_eq rfl
  case c5 => decide
  case kB => exact locs rfl
  case c2 => exact rfl
  case c3 => exact rfl
  case c4 => exact rfl
  k_whole
  intro g' L' h' FG' F' N' B' X' T'
  (try dsimp only)
  (try k_fold)
  repeat' ((fail_if_success (with_reducible show wpAny _ _ (exec (Stmt.Try _ _ _ _ _) _) _ _ _)); first | (k_unfold; (try dsimp only)) | (k_end; wrow_close) | walk1 | (dsimp only; walk1) | (leave1; try dsimp only))
  refine wpAny_Try_except ?_
  repeat' ((fail_if_success (with_reducible show wpAny _ _ (callWith _ _ _ _ _) _ _ _)); first | (k_unfold; (try dsimp only)) | (k_end; wrow_close) | walk1 | (dsimp only; walk1) | (leave1; try dsimp only))
  have hfa : FnAt f h' := ⟨fo.cls, fo.dict, fd, fo.slots, by
    have := (N' _ hm).1
    obtain ⟨_, _, _, _⟩ := fo
    cases hfd
    exact this⟩
  refine callWith_F0 hfa ?_
  refine' SpecX.use S ?qB ?qF ?qX ?qN (fun q hq => hq) ?qT ?qhk ?qhd ?qhu ?qret
  case qN => assumption
  case qB => assumption
  case qF => assumption
  case qX => assumption
  case qT => assumption
  case qhk => first | exact rfl | assumption
  case qhd => exact Nat.lt_of_le_of_lt (by dsimp only; omega) hd
  case qhu => exact Nat.lt_of_le_of_lt (by dsimp only; omega) hu
  intro G t e ms h2 tk2 F2 R U
  refine caughtX hC (clsX (w := w) (.inl rfl)) (clsX (.inr rfl)) sub_56 R F2 B' U XB TB (by k_is) (by k_is) ?_ rfl rfl (by decide) rfl (by decide) ?_
  · intro h3 g3 T3 F3 N3
    constructor
    · k_steps
      exact hret _ _ (by assumption) (by assumption)
    · k_steps
      exact hret _ _ (by assumption) (by assumption)
  · passes_own
end
section
example : True := by
  k_with_none
  k_with "K_ALL" => (first | assumption | exact List.forall_mem_nil _ | (refine' off_as 0 ?h8 ?m8; (case h8 => assumption); (case m8 => k_dflt (exact rfl))) | (refine' lt_as 0 ?h7 ?m7; (case h7 => assumption); (case m7 => k_dflt (exact rfl))) | (refine' off_c ?a9 ?b9; (case a9 => k_ne); (case b9 => k_all)) | (refine' List.forall_mem_cons.mpr ⟨?a, ?b⟩; (case a => k_ne); (case b => k_all)) | (refine' lt_off ?h9 ?m9; (case h9 => assumption); (case m9 => intro q9 hq9; (repeat (first | exact hq9 | refine List.Mem.tail _ ?_)))) | (refine' off_sub ?h9 ?m9; (case h9 => assumption); (case m9 => intro q9 hq9; (repeat (first | exact hq9 | refine List.Mem.tail _ ?_)))))
  k_with "K_NE" => (first | assumption | exact Ne.symm (by assumption) | (refine' lt_ne ?h9 ?m9; (case h9 => assumption); (case m9 => k_mem)) | (refine' lt_ne' ?h9 ?m9; (case h9 => assumption); (case m9 => k_mem)) | (refine' off_ne ?h9 ?m9; (case h9 => assumption); (case m9 => k_mem)) | (refine' off_ne' ?h9 ?m9; (case h9 => assumption); (case m9 => k_mem)) | (refine' lt_ne1 ?h9 ?m9; (case h9 => assumption); (case m9 => k_mem)) | (refine' lt_ne1' ?h9 ?m9; (case h9 => assumption); (case m9 => k_mem)) | (refine' lt_ne2 ?h9 ?m9; (case h9 => assumption); (case m9 => k_mem)) | (refine' lt_ne2' ?h9 ?m9; (case h9 => assumption); (case m9 => k_mem)) | (refine' lt_ne3 ?h9 ?m9; (case h9 => assumption); (case m9 => k_mem)) | (refine' lt_ne3' ?h9 ?m9; (case h9 => assumption); (case m9 => k_mem)) | (refine neN ?_; (try dsimp only); omega))
  k_with "K_MEM" => (first | with_reducible assumption | exact mm0 | exact mm1 | exact mm2 | exact mm3 | exact mm4 | exact mm5 | exact mm6 | exact mm7 | exact mm8 | exact mm9 | exact mm10 | exact mm11 | exact mm12 | ((repeat (first | with_reducible assumption | exact List.Mem.head _ | (refine mem_in ?_; with_reducible assumption) | refine' List.Mem.tail _ ?_)); done))
  k_with "K_SUB" => (first | exact hq | exact md1 hq | exact md2 hq | exact md3 hq | exact md4 hq | exact md5 hq | exact md6 hq | exact md7 hq | exact md8 hq | exact md9 hq | exact md10 hq | exact md11 hq | exact md12 hq | exact md13 hq | exact md14 hq | (repeat (first | exact hq | refine List.Mem.tail _ ?_)))
  k_with "ENTER" => (first | (refine' code_def ?k1 ?k2 ?k3 ?k4 ?k5 ?kA ?kF ?kK ?k6 ?k7 ?k8 ?k9 ?kB ?_ ?c2 ?c3 ?c4 ?c5; (case kA => exact rfl); (case kF => exact rfl); (case kK => first | assumption | exact rfl); (case k1 => k_asm); (case k2 => k_asm); (case k3 => k_asm); (case k4 => k_asm); (case k5 => k_asm); (case k6 => k_is); (case k7 => k_is); (case k8 => k_room); (case k9 => first | exact BindsTo.of_eq rfl | exact binds_K (by k_in) rfl (by k_is) rfl rfl rfl); (case c5 => decide); (case kB => exact locs rfl); (case c2 => exact rfl); (case c3 => exact rfl); (case c4 => exact rfl); k_whole; intro g' L' h' FG' F' N' B' X' T'; (try dsimp only); (try k_lift B'); (try k_fold)) | (refine' code_defC ?k1 ?k2 ?k3 ?k4 ?k5 ?kA ?kF ?kK ?k6 ?k7 ?k8 ?k9 ?kB ?kD ?_ ?c2 ?c3 ?c4; (case kA => exact rfl); (case kF => exact rfl); (case kK => first | assumption | exact rfl); (case k1 => k_asm); (case k2 => k_asm); (case k3 => k_asm); (case k4 => k_asm); (case k5 => k_asm); (case k6 => k_is); (case k7 => k_is); (case k8 => k_room); (case k9 => first | exact BindsTo.of_eq rfl | exact binds_K (by k_in) rfl (by k_is) rfl rfl rfl); (case kB => exact rfl); (case kD => decide +kernel); (case c2 => exact rfl); (case c3 => exact rfl); (case c4 => exact rfl); k_whole; intro g' L' h' tk' cells' FG' F' N' Y' B' X' T' l1; (try k_lt l1); k_cells Y'; (try simp only [List.cons_append, List.nil_append] at N'); (try dsimp only); (try k_lift B'); (try k_fold)))
  k_with "X FinE" => (((unfold LCg.FinE); intro D' h' tk' F' N' o1'; (have oD' := off_of_off1 o1'); (clear o1'); (try simp only [List.nil_append, List.cons_append] at N'); (try dsimp only)))
  k_with "X ALC" => ((k_here; with_reducible refine plainObj_wpAny_Assign_Attribute ?_ ?_; rotate_left; with_unfolding_all rfl))
  k_with "X FinA" => ((unfold LCg.FinA); intro upsA h' tk' F' N' o1'; (have oU := off_of_off1 o1'); (clear o1'); (try simp only [List.nil_append, List.cons_append] at N'); (try dsimp only))
  k_with "X FOR" => ((k_here; (rename Fr _ _ _ _ => lF'); (with_unfolding_all refine' For_invVF lF' ?k1 ?k2 ?_; (case k1 => exact rfl); (case k2 => exact rfl); k_whole)))
  k_with "K_ROOM" => (first | k_dflt (first | exact room_0 hd | exact room_of 1 hd | exact room_of 2 hd | exact room_of 3 hd | exact room_of 4 hd | exact room_of 5 hd | exact room_of 6 hd | exact room_of 7 hd | exact room_of 8 hd) | ktr_room)
  k_with "K_UNITS" => (first | k_dflt (first | exact units_of 103 hu | exact units_of 303 hu | exact units_of 203 hu | exact units_of 67 hu | exact units_of 503 hu | exact units_of 403 hu) | ktr_units)
  k_with "binaryOp Add ref ref" => (k_here; (with_reducible show wpAny _ _ (binaryOp _ (Value.ref _) (Value.ref _)) _ _ _); k_dflt (refine' addl_at ?k1 ?k2 ?k3 ?k4 ?k5 ?k6 ?_; (case k1 => k_asm); (case k2 => k_asm); (case k3 => k_mem); (case k4 => k_mem); (case k5 => first | assumption | decide | (simp only [List.length_cons, List.length_nil]; omega)); (case k6 => first | assumption | decide | (simp only [List.length_cons, List.length_nil]; omega)); k_whole); intro l' h' F' N' l1; (try k_lt l1); (try k_sweep))
  k_with "CompSrcT" => (k_here; k_dflt (refine LCt.CompSrcT.ledger (by rfl) (by k_asm) (by k_asm) (by k_mem) (by rw [sizeLine_eq, List.size_toArray]; omega) ?_); intro g'; k_dflt (refine' rest_filter _ ?hf ?hi ?hS (fun i9 t9 I9 oI9 C9 oC9 D9 ys9 m9 h' tk9 E9 hi9 hC9 hx9 F' N' off9 ne9 => ?_) (fun ys9 hys9 => ?_); (case hf => assumption); (case hi => assumption); (case hS => exact Or.inr ⟨_, by k_mem, rfl, _, rfl⟩)); (try k_fold))
  k_with "TestEnd" => (refine TestEnd.intro ?_ (by k_asm) (by k_asm); rfl)
  k_with "call builtin:len cons nil" => (k_here; (with_reducible show wpAny _ _ (call (Value.builtin "len") [Value.ref _]) _ _ _); k_dflt (refine' len_filt ?k1 ?k2 ?k3 ?k4 ?k5 ?_; (case k1 => k_asm); (case k2 => k_mem); (case k3 => assumption); (case k4 => assumption); (case k5 => assumption); k_whole))
  k_with "subscriptTail Attribute Name Name ref int" => (k_here; (with_reducible show wpAny _ _ (subscriptTail _ _ (Value.ref _) (Value.int _ _)) _ _ _); (try (k_dflt (refine kba_turn (value' := PySem.Expr.Name (PySem.Str.ofString "_") ⟨0, 0, 0, 0⟩) (fun _ => rfl) ?_))); k_dflt (refine' kda_item (knd := PySem.intKind _ _) ?N ?m ?d (intKind_is _ _ _ _) ?l ?_; (case N => k_asm); (case m => k_mem); (case d => assumption); (case l => assumption); k_whole))
  k_with "subscriptTail Name Name ref int" => (k_here; (with_reducible show wpAny _ _ (subscriptTail _ _ (Value.ref _) (Value.int _ _)) _ _ _); (try (k_dflt (refine kba_turn (value' := PySem.Expr.Name (PySem.Str.ofString "_") ⟨0, 0, 0, 0⟩) (fun _ => rfl) ?_))); k_dflt (refine' kda_item (knd := PySem.intKind _ _) ?N ?m ?d (intKind_is _ _ _ _) ?l ?_; (case N => k_asm); (case m => k_mem); (case d => assumption); (case l => assumption); k_whole))
  k_with "compareOp NotIn int ref" => (k_here; k_dflt (refine' kdg_notin (knd := PySem.intKind _ _) ?N ?m ?d ?lo (intKind_is _ _ _ _) true ?hb ?_; (case N => k_asm); (case m => k_mem); (case d => assumption); (case lo => assumption); (case hb => assumption); k_whole))
  k_with "call builtin:list.append nil" => (k_here; k_dflt (refine' append_at ?k1 ?k2 ?k3 ?k4 ?_; (case k1 => k_asm); (case k2 => k_asm); (case k3 => k_updF); (case k4 => first | assumption | exact filt_len (by assumption) (by assumption) (by assumption)); k_whole); intro h' F' N'; (try dsimp only at N'); (try k_sweep))
  k_with "call builtin:list.append cons nil" => (k_here; k_dflt (refine' append_at ?k1 ?k2 ?k3 ?k4 ?_; (case k1 => k_asm); (case k2 => k_asm); (case k3 => k_updF); (case k4 => first | assumption | exact filt_len (by assumption) (by assumption) (by assumption)); k_whole); intro h' F' N'; (try dsimp only at N'); (try k_sweep))
  k_with "call builtin:sorted cons nil" => (k_here; (with_reducible show wpAny _ _ (call (Value.builtin "sorted") [Value.ref _]) _ _ _); k_dflt (refine' sorted_at rfl ?k1 ?k2 ?k3 ?k4 ?k5 ?_; (case k1 => k_asm); (case k2 => k_asm); (case k3 => k_mem); (case k4 => assumption); (case k5 => assumption); k_whole); intro B' h' tk9 t3' t1' t2' F' N' l1; (try k_lt l1))
  exact trivial
/-- the law's lambdas, as its text has them -/
noncomputable def lamOf (i : Nat) : Option (Arguments × PySem.Expr × Scope) := match hd.defOf 19 with
  | some (_, b, _) => (match (b[2]? : Option Stmt) with
    | some (Stmt.Assign _ (PySem.Expr.List es _) _) => (match (es[i]? : Option PySem.Expr) with
      | some (PySem.Expr.Lambda ps bd sc _) => some (ps, bd, sc)
      | _ => none)
    | _ => none)
  | none => none
theorem free_at {M : Model} {A : Around} {E : Value → Shared → Prop} {s : Shared} {h₀ : Heap} {L ce : Addr} {news : List (Addr × Obj)} {env : Env} {x : Str} {pos : Pos} {v : Value} {o : Obj} {Q : Value → Shared → Prop} (N : News h₀ L s.heap news) (hc : env.cells.lookup x = some ce) (hm : (ce, o) ∈ news) (hd : o.data = .cell (some v)) (h : Q v s)
    (hk : env.scope.kind = .function) (hx : env.kindOf x = some .free) (hb : (x == ("__debug__" : Str)) = false) (hn : (x == ("__classdict__" : Str)) = false) :
    wpAny M A (eval (.Name x pos) env) Q E s := wpAny_Name (wpAny_loadName_free hk hx hc ⟨o, N.get hm, hd⟩ h hn) hb
theorem lam_add1 (w : World) (c : PC) (C f c' e : Addr) (oR eo co : Obj) (kR : List (Int × Value)) (qual : Str) (pm ct : Value) (vs : Array Value) (tq : Tok) (t : Arguments × PySem.Expr × Scope) (ht : lamOf 0 = some t) (news : List (Addr × Obj)) (hP : c.P ≠ c.dP)
   (mf : (f, kla_obj (Str.ofString "<lambda>") qual t.1 t.2.1 t.2.2 [(Str.ofString "ports", e)] pm c' ct) ∈ news) (mc : (c', co) ∈ news) (hco : co.data = .fields vs) (hvs : vs[1]? = some (.str qual tq)) (me : (e, eo) ∈ news) (heo : eo.data = .cell (some (.ref c.P)))
   (m1 : (c.P, instObj 187 c.dP) ∈ news) (m2 : (c.dP, c.d C) ∈ news) (m3 : (c.R, oR) ∈ news) (hR : IntD w oR kR) (hRs : (valueAt kR 2).isSome = true) (hRn : (c.R == sysModules) = false) :
   SpecX 7 w f [] news 56 := by
  have et := Option.some.inj (ht.symm.trans (rfl : lamOf 0 = some (_, _, _)))
  subst et
  dsimp only at mf
  intro dp' un gd cn cs' a ccd cl outer A₀ base h₀ L m p' loose mean mg mb s Q E B F X N T hk hd hu hret
  refine wpAny_call ?_
  refine' kla_code ?k1 ?k2 ?k3 ?k4 ?k5 ?kA ?kF ?kK ?k6 ?k7 ?k8 ?k9 ?kB ?_ ?c2 ?c3 ?c4 ?c5
  case kA => exact rfl
  case kF => exact rfl
  case kK => first | assumption | exact rfl
  case k1 => k_asm
  case k2 => k_asm
  case k3 => k_asm
  case k4 => k_asm
  case k5 => k_asm
  case k6 => exact mf
  case k7 => exact codeRec_news N mc hco hvs
  case k8 => k_room
  case k9 => exact rfl
  case c5 => decide
  case kB => exact locs rfl
  case c2 => exact rfl
  case c3 => exact rfl
  case c4 => exact rfl
  k_whole
  intro g' L' h' FG' F' N' B' X' T'
  (try dsimp only)
  (try k_fold)
  repeat' ((fail_if_success (with_reducible show wpAny _ _ (eval (PySem.Expr.Name (Str.ofString "ports") _) _) _ _ _)); first | (k_unfold; (try dsimp only)) | (k_end; wrow_close) | walk1 | (dsimp only; walk1) | (leave1; try dsimp only))
  refine free_at N' rfl me heo ?_ rfl rfl (by decide) (by decide)
  have Nc := news_drop (news := [(c.P, instObj 187 c.dP), (c.dP, c.d C), (c.R, oR)]) N' (sub_cons m1 (sub_cons m2 (sub_cons m3 fun _ h => nomatch h)))
  repeat' ((fail_if_success (with_reducible show wpAny _ _ (call (Value.ref 76) _) _ _ _)); (fail_if_success (with_reducible show wpAny _ _ (call (Value.ref 135) _) _ _ _)); (fail_if_success (with_reducible show wpAny _ _ (call (Value.ref 142) _) _ _ _)); (fail_if_success (with_reducible show wpAny _ _ (call (Value.ref 163) _) _ _ _)); first | (k_unfold; (try dsimp only)) | (k_end; wrow_close) | walk1 | (dsimp only; walk1) | (leave1; try dsimp only))
  refine' Spec.use (port_new2 w 2 10 _ _ news) ?aB ?aF ?aX N' (fun q hq => hq) ?aT ?ahk ?ahd ?ahu ?aret
  case aB => assumption
  case aF => assumption
  case aX => assumption
  case aT => assumption
  case ahk => first | exact rfl | assumption
  case ahd => k_room
  case ahu => k_units
  rintro r nx h' tk' ⟨p, dp, kp, fv, mtu, rfl, rfl, o1, o2⟩ F1 N1
  have Nd := news_drop (news := (p, instObj 76 dp) :: (dp, _) :: [(c.P, instObj 187 c.dP), (c.dP, c.d C), (c.R, oR)]) N1 (sub_cons mm0 (sub_cons mm1 (sub_cons (md2 m1) (sub_cons (md2 m2) (sub_cons (md2 m3) fun _ h => nomatch h)))))
  repeat' ((fail_if_success (with_reducible show wpAny _ _ (call (Value.ref 135) _) _ _ _)); first | (k_unfold; (try dsimp only)) | (k_end; wrow_close) | walk1 | (dsimp only; walk1) | (leave1; try dsimp only))
  refine' SpecX.use (add_x1 w c C p dp kp 2 _ _ fv mtu false oR kR _ (Ne.symm (off_cons.mp o1).1) hP (md2 m1) (md2 m2) (md2 m3) mm0 mm1 (by decide) hR hRs hRn) ?bB ?bF ?bX N1 (fun q hq => hq) ?bT ?bhk ?bhd ?bhu ?bret
  case bB => assumption
  case bF => assumption
  case bX => assumption
  case bT => assumption
  case bhk => first | exact rfl | assumption
  case bhd => k_room
  case bhu => k_units
  intro G t e ms h2 tk2 F2 R U
  refine leave_onX B' rfl F2 (RaisedS.drop R fun q hq => md2 hq) U (fun h3 R3 U3 => ?_)
  exact hret _ _ _ _ _ _ FG' R3 U3
theorem lam_add0 (w : World) (c : PC) (C f c' e : Addr) (oR eo co : Obj) (kR : List (Int × Value)) (qual : Str) (pm ct : Value) (vs : Array Value) (tq : Tok) (t : Arguments × PySem.Expr × Scope) (ht : lamOf 1 = some t) (news : List (Addr × Obj)) (hP : c.P ≠ c.dP)
   (mf : (f, kla_obj (Str.ofString "<lambda>") qual t.1 t.2.1 t.2.2 [(Str.ofString "ports", e)] pm c' ct) ∈ news) (mc : (c', co) ∈ news) (hco : co.data = .fields vs) (hvs : vs[1]? = some (.str qual tq)) (me : (e, eo) ∈ news) (heo : eo.data = .cell (some (.ref c.P)))
   (m1 : (c.P, instObj 187 c.dP) ∈ news) (m2 : (c.dP, c.d C) ∈ news) (m3 : (c.R, oR) ∈ news) (hR : IntD w oR kR) (hRn : (c.R == sysModules) = false) :
   SpecX 7 w f [] news 44 := by
  have et := Option.some.inj (ht.symm.trans (rfl : lamOf 1 = some (_, _, _)))
  subst et
  dsimp only at mf
  intro dp' un gd cn cs' a ccd cl outer A₀ base h₀ L m p' loose mean mg mb s Q E B F X N T hk hd hu hret
  refine wpAny_call ?_
  refine' kla_code ?k1 ?k2 ?k3 ?k4 ?k5 ?kA ?kF ?kK ?k6 ?k7 ?k8 ?k9 ?kB ?_ ?c2 ?c3 ?c4 ?c5
  case kA => exact rfl
  case kF => exact rfl
  case kK => first | assumption | exact rfl
  case k1 => k_asm
  case k2 => k_asm
  case k3 => k_asm
  case k4 => k_asm
  case k5 => k_asm
  case k6 => exact mf
  case k7 => exact codeRec_news N mc hco hvs
  case k8 => k_room
  case k9 => exact rfl
  case c5 => decide
  case kB => exact locs rfl
  case c2 => exact rfl
  case c3 => exact rfl
  case c4 => exact rfl
  k_whole
  intro g' L' h' FG' F' N' B' X' T'
  (try dsimp only)
  (try k_fold)
  repeat' ((fail_if_success (with_reducible show wpAny _ _ (eval (PySem.Expr.Name (Str.ofString "ports") _) _) _ _ _)); first | (k_unfold; (try dsimp only)) | (k_end; wrow_close) | walk1 | (dsimp only; walk1) | (leave1; try dsimp only))
  refine free_at N' rfl me heo ?_ rfl rfl (by decide) (by decide)
  have Nc := news_drop (news := [(c.P, instObj 187 c.dP), (c.dP, c.d C), (c.R, oR)]) N' (sub_cons m1 (sub_cons m2 (sub_cons m3 fun _ h => nomatch h)))
  repeat' ((fail_if_success (with_reducible show wpAny _ _ (call (Value.ref 76) _) _ _ _)); (fail_if_success (with_reducible show wpAny _ _ (call (Value.ref 135) _) _ _ _)); (fail_if_success (with_reducible show wpAny _ _ (call (Value.ref 142) _) _ _ _)); (fail_if_success (with_reducible show wpAny _ _ (call (Value.ref 163) _) _ _ _)); first | (k_unfold; (try dsimp only)) | (k_end; wrow_close) | walk1 | (dsimp only; walk1) | (leave1; try dsimp only))
  refine' Spec.use (port_new2 w 0 10 _ _ news) ?aB ?aF ?aX N' (fun q hq => hq) ?aT ?ahk ?ahd ?ahu ?aret
  case aB => assumption
  case aF => assumption
  case aX => assumption
  case aT => assumption
  case ahk => first | exact rfl | assumption
  case ahd => k_room
  case ahu => k_units
  rintro r nx h' tk' ⟨p, dp, kp, fv, mtu, rfl, rfl, o1, o2⟩ F1 N1
  have Nd := news_drop (news := (p, instObj 76 dp) :: (dp, _) :: [(c.P, instObj 187 c.dP), (c.dP, c.d C), (c.R, oR)]) N1 (sub_cons mm0 (sub_cons mm1 (sub_cons (md2 m1) (sub_cons (md2 m2) (sub_cons (md2 m3) fun _ h => nomatch h)))))
  repeat' ((fail_if_success (with_reducible show wpAny _ _ (call (Value.ref 135) _) _ _ _)); first | (k_unfold; (try dsimp only)) | (k_end; wrow_close) | walk1 | (dsimp only; walk1) | (leave1; try dsimp only))
  refine' SpecX.use (add_x0 w c C p dp kp 0 _ _ fv mtu false _ (Ne.symm (off_cons.mp o1).1) mm0 mm1 (by decide)) ?bB ?bF ?bX N1 (fun q hq => hq) ?bT ?bhk ?bhd ?bhu ?bret
  case bB => assumption
  case bF => assumption
  case bX => assumption
  case bT => assumption
  case bhk => first | exact rfl | assumption
  case bhd => k_room
  case bhu => k_units
  intro G t e ms h2 tk2 F2 R U
  refine leave_onX B' rfl F2 (RaisedS.drop R fun q hq => md2 hq) U (fun h3 R3 U3 => ?_)
  exact hret _ _ _ _ _ _ FG' R3 U3
theorem lam_port (w : World) (c : PC) (C f c' e : Addr) (oR eo co : Obj) (kR : List (Int × Value)) (qual : Str) (pm ct : Value) (vs : Array Value) (tq : Tok) (t : Arguments × PySem.Expr × Scope) (ht : lamOf 2 = some t) (news : List (Addr × Obj)) (hP : c.P ≠ c.dP)
   (mf : (f, kla_obj (Str.ofString "<lambda>") qual t.1 t.2.1 t.2.2 [(Str.ofString "ports", e)] pm c' ct) ∈ news) (mc : (c', co) ∈ news) (hco : co.data = .fields vs) (hvs : vs[1]? = some (.str qual tq)) (me : (e, eo) ∈ news) (heo : eo.data = .cell (some (.ref c.P)))
   (m1 : (c.P, instObj 187 c.dP) ∈ news) (m2 : (c.dP, c.d C) ∈ news) (m3 : (c.R, oR) ∈ news) (hR : IntD w oR kR) (hRs : (valueAt kR 9).isSome = false) (hRn : (c.R == sysModules) = false) :
   SpecX 7 w f [] news 56 := by
  have et := Option.some.inj (ht.symm.trans (rfl : lamOf 2 = some (_, _, _)))
  subst et
  dsimp only at mf
  intro dp' un gd cn cs' a ccd cl outer A₀ base h₀ L m p' loose mean mg mb s Q E B F X N T hk hd hu hret
  refine wpAny_call ?_
  refine' kla_code ?k1 ?k2 ?k3 ?k4 ?k5 ?kA ?kF ?kK ?k6 ?k7 ?k8 ?k9 ?kB ?_ ?c2 ?c3 ?c4 ?c5
  case kA => exact rfl
  case kF => exact rfl
  case kK => first | assumption | exact rfl
  case k1 => k_asm
  case k2 => k_asm
  case k3 => k_asm
  case k4 => k_asm
  case k5 => k_asm
  case k6 => exact mf
  case k7 => exact codeRec_news N mc hco hvs
  case k8 => k_room
  case k9 => exact rfl
  case c5 => decide
  case kB => exact locs rfl
  case c2 => exact rfl
  case c3 => exact rfl
  case c4 => exact rfl
  k_whole
  intro g' L' h' FG' F' N' B' X' T'
  (try dsimp only)
  (try k_fold)
  repeat' ((fail_if_success (with_reducible show wpAny _ _ (eval (PySem.Expr.Name (Str.ofString "ports") _) _) _ _ _)); first | (k_unfold; (try dsimp only)) | (k_end; wrow_close) | walk1 | (dsimp only; walk1) | (leave1; try dsimp only))
  refine free_at N' rfl me heo ?_ rfl rfl (by decide) (by decide)
  have Nc := news_drop (news := [(c.P, instObj 187 c.dP), (c.dP, c.d C), (c.R, oR)]) N' (sub_cons m1 (sub_cons m2 (sub_cons m3 fun _ h => nomatch h)))
  repeat' ((fail_if_success (with_reducible show wpAny _ _ (call (Value.ref 76) _) _ _ _)); (fail_if_success (with_reducible show wpAny _ _ (call (Value.ref 135) _) _ _ _)); (fail_if_success (with_reducible show wpAny _ _ (call (Value.ref 142) _) _ _ _)); (fail_if_success (with_reducible show wpAny _ _ (call (Value.ref 163) _) _ _ _)); first | (k_unfold; (try dsimp only)) | (k_end; wrow_close) | walk1 | (dsimp only; walk1) | (leave1; try dsimp only))
  refine' SpecX.use (port_x w c C 9 _ oR kR news m1 m2 m3 hR hRs hRn) ?bB ?bF ?bX N' (fun q hq => hq) ?bT ?bhk ?bhd ?bhu ?bret
  case bB => assumption
  case bF => assumption
  case bX => assumption
  case bT => assumption
  case bhk => first | exact rfl | assumption
  case bhd => k_room
  case bhu => k_units
  intro G t e ms h2 tk2 F2 R U
  refine leave_onX B' rfl F2 R U (fun h3 R3 U3 => ?_)
  exact hret _ _ _ _ _ _ FG' R3 U3
theorem lam_up (w : World) (c : PC) (C f c' e : Addr) (oR eo co : Obj) (kR : List (Int × Value)) (qual : Str) (pm ct : Value) (vs : Array Value) (tq : Tok) (t : Arguments × PySem.Expr × Scope) (ht : lamOf 3 = some t) (news : List (Addr × Obj)) (hP : c.P ≠ c.dP)
   (mf : (f, kla_obj (Str.ofString "<lambda>") qual t.1 t.2.1 t.2.2 [(Str.ofString "ports", e)] pm c' ct) ∈ news) (mc : (c', co) ∈ news) (hco : co.data = .fields vs) (hvs : vs[1]? = some (.str qual tq)) (me : (e, eo) ∈ news) (heo : eo.data = .cell (some (.ref c.P)))
   (m1 : (c.P, instObj 187 c.dP) ∈ news) (m2 : (c.dP, c.d C) ∈ news) (m3 : (c.R, oR) ∈ news) (hR : IntD w oR kR) (hRs : (valueAt kR 4).isSome = false) (hRn : (c.R == sysModules) = false) :
   SpecX 7 w f [] news 56 := by
  have et := Option.some.inj (ht.symm.trans (rfl : lamOf 3 = some (_, _, _)))
  subst et
  dsimp only at mf
  intro dp' un gd cn cs' a ccd cl outer A₀ base h₀ L m p' loose mean mg mb s Q E B F X N T hk hd hu hret
  refine wpAny_call ?_
  refine' kla_code ?k1 ?k2 ?k3 ?k4 ?k5 ?kA ?kF ?kK ?k6 ?k7 ?k8 ?k9 ?kB ?_ ?c2 ?c3 ?c4 ?c5
  case kA => exact rfl
  case kF => exact rfl
  case kK => first | assumption | exact rfl
  case k1 => k_asm
  case k2 => k_asm
  case k3 => k_asm
  case k4 => k_asm
  case k5 => k_asm
  case k6 => exact mf
  case k7 => exact codeRec_news N mc hco hvs
  case k8 => k_room
  case k9 => exact rfl
  case c5 => decide
  case kB => exact locs rfl
  case c2 => exact rfl
  case c3 => exact rfl
  case c4 => exact rfl
  k_whole
  intro g' L' h' FG' F' N' B' X' T'
  (try dsimp only)
  (try k_fold)
  repeat' ((fail_if_success (with_reducible show wpAny _ _ (eval (PySem.Expr.Name (Str.ofString "ports") _) _) _ _ _)); first | (k_unfold; (try dsimp only)) | (k_end; wrow_close) | walk1 | (dsimp only; walk1) | (leave1; try dsimp only))
  refine free_at N' rfl me heo ?_ rfl rfl (by decide) (by decide)
  have Nc := news_drop (news := [(c.P, instObj 187 c.dP), (c.dP, c.d C), (c.R, oR)]) N' (sub_cons m1 (sub_cons m2 (sub_cons m3 fun _ h => nomatch h)))
  repeat' ((fail_if_success (with_reducible show wpAny _ _ (call (Value.ref 76) _) _ _ _)); (fail_if_success (with_reducible show wpAny _ _ (call (Value.ref 135) _) _ _ _)); (fail_if_success (with_reducible show wpAny _ _ (call (Value.ref 142) _) _ _ _)); (fail_if_success (with_reducible show wpAny _ _ (call (Value.ref 163) _) _ _ _)); first | (k_unfold; (try dsimp only)) | (k_end; wrow_close) | walk1 | (dsimp only; walk1) | (leave1; try dsimp only))
  refine' SpecX.use (up_x w c C 4 0 _ _ oR kR news hP m1 m2 m3 hR hRs hRn) ?bB ?bF ?bX N' (fun q hq => hq) ?bT ?bhk ?bhd ?bhu ?bret
  case bB => assumption
  case bF => assumption
  case bX => assumption
  case bT => assumption
  case bhk => first | exact rfl | assumption
  case bhd => k_room
  case bhu => k_units
  intro G t e ms h2 tk2 F2 R U
  refine leave_onX B' rfl F2 R U (fun h3 R3 U3 => ?_)
  exact hret _ _ _ _ _ _ FG' R3 U3
end
section
theorem loop_range {prog : Program} {w : World} {A : Around} {E : Value → Shared → Prop} {s : Shared} {env : Env} {h₀ : Heap} {x : Str} {body : List Stmt} {Q : Flow → Shared → Prop} {r : Addr} {a b : Int} {t u v : Tok} {n : Nat} {m₀ : Str → Option Value} {news : List (Addr × Obj)}
    (J : Nat → (Str → Option Value) → List (Addr × Obj) → Prop) (hh : A.handled = none) (hr : IsRange s.heap r a b 1 t u v) (hsm : Builtin.Range.small a b 1 = true) (hn : Builtin.Range.rangeSize a b 1 = ((n : Nat) : Int)) (F : Fr h₀ env.locals s.heap m₀) (N : News h₀ env.locals s.heap news) (hj : J 0 m₀ news)
    (turn : ∀ i t m₁ nx h tk own, i < n → OwnOff own (nx.map (·.1)) → J i m₁ nx → Fr h₀ env.locals h (fun y => if y = x then some (.int (a + (i : Int)) t) else m₁ y) → News h₀ env.locals h (nx ++ own) →
      wpAny (model prog w) A (execs body env) (InvPostG h₀ env.locals (J (i + 1)) own { s with heap := h, toks := tk } Q) E { s with heap := h, toks := tk })
    (done : ∀ m₁ nx h tk, J n m₁ nx → Fr h₀ env.locals h m₁ → News h₀ env.locals h nx → Q .next { s with heap := h, toks := tk }) :
    wpAny (model prog w) A (pyIter (.ref r)) (fun it s₂ => LoopAtV prog w A h₀ env x body Q E it s₂) E s := by
  refine wpAny_pyIter_range hr hsm ?_
  refine kdr_loop J (LCg.range_walks hh a n) (fun _ h => h) (fun _ h => h) (fun i h st b hb => ?_) ?_ ?_ ?_ ?_ (F.keeps fun _ _ e => Heap.get?_push_of_some _ e) (N.grown fun _ _ e => Heap.get?_push_of_some _ e) hj ?_ ?_
  · rw [List.mem_singleton.mp hb]; exact ⟨_, st⟩
  · rw [List.mem_singleton]; exact Nat.ne_of_lt F.ns.lt
  · intro b hb; rw [List.mem_singleton.mp hb]; exact next_is_new F
  · intro p hp hI; exact Nat.ne_of_lt (Heap.lt_size (N p hp).1) (List.mem_singleton.mp hI)
  · show IsRangeIter _ _ _ _ _
    rw [hn]
    simpa using Heap.get?_push_size _ rfl
  · rintro i v m₁ nx h tk own hi ⟨t, rfl⟩ hs hJ F' N'
    exact turn i t m₁ nx h tk own hi hs hJ F' N'
  · exact done
end
set_option genInjectivity false
set_option genSizeOf false
section
theorem kst_same {m : Str → Option Value} {ps : List (Str × Value)} (h : ∀ p ∈ ps, m p.1 = some p.2) : (fun y => kstB m ps y) = m := funext fun _ => kstB_eq h fun _ => rfl
theorem sep3o {a1 a2 a3 : Addr} {o1 o2 o3 : Obj} {R : List (Addr × Obj)} (h : Sep [(a1, o1), (a2, o2), (a3, o3)] R) : Off a1 ((a2, o2) :: (a3, o3) :: R) ∧ Off a2 ((a3, o3) :: R) ∧ Off a3 R :=
  have h1 := sep_c h; have h2 := sep_c h1.2; have h3 := sep_c h2.2; ⟨h1.1, h2.1, h3.1⟩
theorem mm_range (l : Int) : 1 ≤ (if (if 2 < l then 2 else l) > 1 then if 2 < l then 2 else l else 1) ∧ (if (if 2 < l then 2 else l) > 1 then if 2 < l then 2 else l else 1) ≤ 2 := by
  constructor <;> (repeat' split) <;> omega
/-- what the law's lambdas read of the last cell -/
def EndY (w : World) (vP : Option Value) (Y : List (Addr × Obj)) : Prop :=
  ∃ (c : PC) (C : Addr) (oR : Obj) (v1 v2 v3 : Value), vP = some (.ref c.P) ∧ Y = [(c.P, instObj 187 c.dP), (c.dP, c.d C), (c.R, oR)] ∧ IntD w oR [(3, v3), (1, v1), (2, v2)] ∧ (c.R == sysModules) = false
def LTurn (w : World) (sl e1 e2 e3 : Addr) (h₀ : Heap) (L : Addr) (R : List (Addr × Obj)) (s₁ : Shared) (f : Flow) (s₂ : Shared) : Prop :=
  (match f with | .next => True | .cont => True | _ => False) ∧ ∃ (o1 o2 o3 : Obj) (c1 c2 c3 : Option Value) (Y : List (Addr × Obj)) (h' : Heap) (tk' : Nat) (m' : Str → Option Value), s₂ = { s₁ with heap := h', toks := tk' } ∧ Fr h₀ L h' m' ∧ m' (Str.ofString "script") = some (.ref sl) ∧
    News h₀ L h' ((e3, o3) :: (e2, o2) :: (e1, o1) :: (Y ++ R)) ∧ (o1.data = .cell c1 ∧ o2.data = .cell c2 ∧ o3.data = .cell c3) ∧ EndY w c3 Y ∧ Sep ((e3, o3) :: (e2, o2) :: (e1, o1) :: Y) R
theorem LTurn.intro {w : World} {sl e1 e2 e3 : Addr} {h₀ : Heap} {L : Addr} {R news : List (Addr × Obj)} {s₁ : Shared} {o1 o2 o3 : Obj} {c1 c2 c3 : Option Value} {h' : Heap} {tk' : Nat} {m' : Str → Option Value} (Y : List (Addr × Obj)) (F : Fr h₀ L h' m') (hm : m' (Str.ofString "script") = some (.ref sl)) (N : News h₀ L h' news)
    (sub : ∀ q ∈ (e3, o3) :: (e2, o2) :: (e1, o1) :: (Y ++ R), q ∈ news) (d : o1.data = .cell c1 ∧ o2.data = .cell c2 ∧ o3.data = .cell c3) (hY : EndY w c3 Y) (S : Sep ((e3, o3) :: (e2, o2) :: (e1, o1) :: Y) R) : LTurn w sl e1 e2 e3 h₀ L R s₁ .next { s₁ with heap := h', toks := tk' } :=
  ⟨trivial, o1, o2, o3, c1, c2, c3, Y, h', tk', m', rfl, F, hm, news_drop N sub, d, hY, S⟩
theorem law_loop {prog : Program} {w : World} {A : Around} {E : Value → Shared → Prop} {s : Shared} {env : Env} {h₀ : Heap} {x : Str} {body : List Stmt} {Q : Flow → Shared → Prop} {r : Addr} {b : Int} {t u v : Tok} {m₀ : Str → Option Value} {X : List (Addr × Obj)} {sl e1 e2 e3 : Addr} {o1 o2 o3 : Obj} {c1 c2 c3 : Option Value}
    {us : List Value} (tb : Addr × Obj) (_hl : h₀.IsList sl us.toArray) (hh : A.handled = none) (hr : IsRange s.heap r 0 b 1 t u v) (hb : 1 ≤ b ∧ b ≤ 2) (F : Fr h₀ env.locals s.heap m₀) (N : News h₀ env.locals s.heap ((e3, o3) :: (e2, o2) :: (e1, o1) :: tb :: X))
    (d : o1.data = .cell c1 ∧ o2.data = .cell c2 ∧ o3.data = .cell c3) (hs : Sep [(e3, o3), (e2, o2), (e1, o1)] [tb]) (hm : m₀ (Str.ofString "script") = some (.ref sl))
    (turn : ∀ (i : Nat) t (c1 c2 c3 : Option Value) (o1 o2 o3 : Obj) R (u : Str → Option Value) h tk, i < 2 → (o1.data = .cell c1 ∧ o2.data = .cell c2 ∧ o3.data = .cell c3) → Sep [(e3, o3), (e2, o2), (e1, o1)] R →
      Fr h₀ env.locals h (fun y => if y = x then some (.int (0 + (i : Int)) t) else kstB u [(Str.ofString "script", Value.ref sl)] y) → News h₀ env.locals h ((e3, o3) :: (e2, o2) :: (e1, o1) :: R) →
      wpAny (model prog w) A (execs body env) (LTurn w sl e1 e2 e3 h₀ env.locals R { s with heap := h, toks := tk }) E { s with heap := h, toks := tk })
    (done : ∀ (c1 c2 c3 : Option Value) (o1 o2 o3 : Obj) Y (u : Str → Option Value) h tk, (o1.data = .cell c1 ∧ o2.data = .cell c2 ∧ o3.data = .cell c3) → EndY w c3 Y → Sep ((e3, o3) :: (e2, o2) :: (e1, o1) :: Y) [tb] →
      Fr h₀ env.locals h (fun y => kstB u [(Str.ofString "script", Value.ref sl)] y) → News h₀ env.locals h ((e3, o3) :: (e2, o2) :: (e1, o1) :: (Y ++ [tb])) → Q .next { s with heap := h, toks := tk }) :
    wpAny (model prog w) A (pyIter (.ref r)) (fun it s₂ => LoopAtV prog w A h₀ env x body Q E it s₂) E s := by
  have em : ∀ {m : Str → Option Value}, m (Str.ofString "script") = some (.ref sl) → (fun y => kstB m [(Str.ofString "script", Value.ref sl)] y) = m := fun h => kst_same (List.forall_mem_cons.mpr ⟨h, fun _ h => nomatch h⟩)
  obtain ⟨n, hn1, hn2, hsm, hn⟩ : ∃ n : Nat, 0 < n ∧ n ≤ 2 ∧ Builtin.Range.small 0 b 1 = true ∧ Builtin.Range.rangeSize 0 b 1 = ((n : Nat) : Int) := by
    obtain rfl | rfl : b = 1 ∨ b = 2 := by omega
    · exact ⟨1, by decide, by decide, by decide, by decide⟩
    · exact ⟨2, by decide, by decide, by decide, by decide⟩
  refine loop_range (fun i m nx => m (Str.ofString "script") = some (.ref sl) ∧ ∃ (o1 o2 o3 : Obj) (c1 c2 c3 : Option Value) (Y : List (Addr × Obj)), nx = (e3, o3) :: (e2, o2) :: (e1, o1) :: (Y ++ [tb]) ∧ (o1.data = .cell c1 ∧ o2.data = .cell c2 ∧ o3.data = .cell c3) ∧ Sep ((e3, o3) :: (e2, o2) :: (e1, o1) :: Y) [tb] ∧ (0 < i → EndY w c3 Y))
    (news := [(e3, o3), (e2, o2), (e1, o1), tb]) hh hr hsm hn F (news_drop N (sub_cons mm0 (sub_cons mm1 (sub_cons mm2 (sub_cons mm3 fun _ h => nomatch h))))) ⟨hm, o1, o2, o3, c1, c2, c3, [], rfl, d, hs, fun h => (Nat.lt_irrefl _ h).elim⟩ ?_ ?_
  · rintro i t m₁ nx h tk own hi hsep ⟨hm1, o1, o2, o3, c1, c2, c3, Y, rfl, d, hS, -⟩ F' N'
    have hS1 : Sep [(e3, o3), (e2, o2), (e1, o1)] (Y ++ [tb]) := (sep_append (f := [(e3, o3), (e2, o2), (e1, o1)]) (g := Y)).mp hS |>.1
    have hS2 : Sep [(e3, o3), (e2, o2), (e1, o1)] ((Y ++ [tb]) ++ own) := hS1.own fun p hp b hb => hsep p hp b (by
      rw [show (e3, o3) :: (e2, o2) :: (e1, o1) :: (Y ++ [tb]) = [(e3, o3), (e2, o2), (e1, o1)] ++ (Y ++ [tb]) from rfl, List.map_append]
      exact List.mem_append_left _ hb)
    refine wpAny_mono (turn i t c1 c2 c3 o1 o2 o3 ((Y ++ [tb]) ++ own) m₁ h tk (Nat.lt_of_lt_of_le hi hn2) d hS2 (by
      have e : (fun y => if y = x then some (Value.int (0 + (i : Int)) t) else kstB m₁ [(Str.ofString "script", Value.ref sl)] y) = fun y => if y = x then some (.int (0 + (i : Int)) t) else m₁ y := by
        funext y
        rw [congrFun (em hm1) y]
      rw [e]
      exact F') N') (fun f s₂ p => ?_) fun _ _ e => e
    obtain ⟨hf, o1', o2', o3', c1', c2', c3', Y', h', tk', m', rfl, F'', hm'', N'', d', hY', S'⟩ := p
    have key : InvEndG h₀ env.locals (fun m nx => m (Str.ofString "script") = some (.ref sl) ∧ ∃ (o1 o2 o3 : Obj) (c1 c2 c3 : Option Value) (Y : List (Addr × Obj)), nx = (e3, o3) :: (e2, o2) :: (e1, o1) :: (Y ++ [tb]) ∧ (o1.data = .cell c1 ∧ o2.data = .cell c2 ∧ o3.data = .cell c3) ∧ Sep ((e3, o3) :: (e2, o2) :: (e1, o1) :: Y) [tb] ∧ (0 < i + 1 → EndY w c3 Y)) own { s with heap := h, toks := tk } { s with heap := h', toks := tk' } := by
      refine InvEndG.intro F'' N'' ⟨hm'', o1', o2', o3', c1', c2', c3', Y', rfl, d', ?_, fun _ => hY'⟩ ?_ ?_ ?_
      · exact S'.mono fun q hq => List.mem_append_left _ (List.mem_append_right _ hq)
      · intro p hp q hq
        obtain ⟨z, hz, rfl⟩ := List.mem_map.mp hq
        rcases List.mem_append.mp (show z ∈ ((e3, o3') :: (e2, o2') :: (e1, o1') :: Y') ++ [tb] from hz) with hz | hz
        · exact S'.2 z hz p (List.mem_append_right _ hp)
        · exact hsep p hp _ (List.mem_map.mpr ⟨z, md3 (List.mem_append_right _ hz), rfl⟩)
      · refine sub_cons mm0 (sub_cons mm1 (sub_cons mm2 fun q hq => md3 ?_))
        rcases List.mem_append.mp hq with hq | hq
        · exact List.mem_append_left _ hq
        · exact List.mem_append_right _ (List.mem_append_left _ (List.mem_append_right _ hq))
      · exact fun q hq => md3 (List.mem_append_right _ (List.mem_append_right _ hq))
    cases f with
    | ret v => exact hf.elim
    | brk => exact hf.elim
    | next => exact key
    | cont => exact key
  · rintro m₁ nx h tk ⟨hm1, o1, o2, o3, c1, c2, c3, Y, rfl, d, hS, hY⟩ F' N'
    refine done c1 c2 c3 o1 o2 o3 Y m₁ h tk d (hY hn1) hS ?_ N'
    rw [em hm1]
    exact F'
section
variable {k : Nat} {w : World} {f : Addr} {vs : List Value} {sl : Addr} {ns : List Int} {news news₀ : List (Addr × Obj)} {Post : Value → List (Addr × Obj) → Prop}
  {dp un : Nat} {gd : Option (List Code)} {cn : Str} {cs : Scope} {a : Addr} {ccd : Value} {cl : List (Str × Addr)} {outer : List Env} {A₀ : Around} {base h₀ : Heap} {L : Addr} {m : Str → Option Value}
  {p : Program} {loose : List Str} {mean : ExcName → Option Value} {mg mb : Str → Option Value} {s : Shared} {us : List Value} {Q E : Value → Shared → Prop}
theorem SpecB.use (S : SpecB k w f vs sl ns news Post) (hl : base.IsList sl us.toArray) (hi : IntsAre us ns) (B : Below A₀ base outer h₀) (F : Fr h₀ L s.heap m) (X : (hd.heap_39 w.params).In h₀) (N : News h₀ L s.heap news₀) (sub : ∀ q ∈ news, q ∈ news₀)
    (T : Top p loose mean mg mb h₀) (hk : cs.kind = .function) (hd : dp + k < recursionLimit) (hu : un + 100 * k < cLine)
    (hret : ∀ r nx h' tk', Post r nx → Fr h₀ L h' m → News h₀ L h' nx → Q r { s with heap := h', toks := tk' }) :
    wpAny (model PySem.Challenge.rw_pb0539_01.prog w) (ktrTop dp un gd cn cs L a ccd cl outer) (call (.ref f) vs) Q E s :=
  S _ _ _ _ _ _ _ _ _ _ _ _ _ _ _ _ _ _ _ _ us _ _ hl hi B F X (fun q hq => N q (sub q hq)) T hk hd hu hret
end
end
set_option genInjectivity false
set_option genSizeOf false
section
theorem assoc5 {α : Type} {x1 x2 : α} {H B R O : List α} : (x1 :: x2 :: (H ++ (B ++ R))) ++ O = x1 :: x2 :: (H ++ (B ++ (R ++ O))) := by simp only [List.cons_append, List.append_assoc]
def upOf (us : List Int) (n : Int) : Bool := us.any (· == n)
def AddTurn (w : World) (c : PC) (C : Addr) (nC : Nat) (x1 x2 : Addr × Obj) (ps : List (Str × Value)) (us : List Int) (n : Int) (kR kW : List (Int × Value)) (Bs R : List (Addr × Obj)) (h₀ : Heap) (L : Addr) (s₁ : Shared) (f : Flow) (s₂ : Shared) : Prop :=
  (match f with | .next => True | .cont => True | _ => False) ∧ ∃ (b : PBlk) (oR oW : Obj) (h' : Heap) (tk' : Nat) (m' : Str → Option Value), s₂ = { s₁ with heap := h', toks := tk' } ∧ Fr h₀ L h' m' ∧ (∀ p ∈ ps, m' p.1 = some p.2) ∧
    News h₀ L h' (x1 :: x2 :: (H5 c C oR oW [] nC ++ ((b.led n ++ Bs) ++ R))) ∧ Sep (H5 c C oR oW [] nC ++ (b.led n ++ Bs)) (x1 :: x2 :: R) ∧ b.Ok 0 ∧ b.x = ⟨upOf us n, upOf us n, none, []⟩ ∧ IntD w oR (stored kR n (.ref b.p)) ∧ IntD w oW (stored kW n (.ref b.w0))
theorem AddTurn.intro {w : World} {c : PC} {C : Addr} {nC : Nat} {x1 x2 : Addr × Obj} {ps : List (Str × Value)} {us : List Int} {n : Int} {kR kW : List (Int × Value)} {Bs R : List (Addr × Obj)} {h₀ : Heap} {L : Addr} {s₁ : Shared} {b : PBlk} {oR oW : Obj} {h' : Heap} {tk' : Nat} {m' : Str → Option Value} {p : Addr} (F : Fr h₀ L h' m') (hp : ∀ p ∈ ps, m' p.1 = some p.2)
    (N : News h₀ L h' (x1 :: x2 :: (H5 c C oR oW [] nC ++ ((b.led n ++ Bs) ++ R)))) (S : Sep (H5 c C oR oW [] nC ++ (b.led n ++ Bs)) (x1 :: x2 :: R)) (e : b.p = p) (ok : b.Ok 0) (hx : b.x = ⟨upOf us n, upOf us n, none, []⟩) (hR : IntD w oR (stored kR n (.ref p))) (hW : IntD w oW (stored kW n (.ref b.w0))) :
    AddTurn w c C nC x1 x2 ps us n kR kW Bs R h₀ L s₁ .next { s₁ with heap := h', toks := tk' } := ⟨trivial, b, oR, oW, h', tk', m', rfl, F, hp, N, S, ok, hx, e ▸ hR, hW⟩
def pb0 : PBlk := ⟨0, 0, 0, 0, 0, ⟨fun _ => 0, fun _ => 0⟩, ⟨fun _ => 0, fun _ => 0⟩, 0, .none, .none, .none, .none, [], 0, ⟨false, false, none, []⟩⟩
def addBs (PB : Int → PBlk) : Nat → List (Addr × Obj)
  | 0 => []
  | 1 => (PB 3).led 3 ++ []
  | 2 => (PB 1).led 1 ++ ((PB 3).led 3 ++ [])
  | _ => (PB 2).led 2 ++ ((PB 1).led 1 ++ ((PB 3).led 3 ++ []))
def addKs (f : Int → Addr) : Nat → List (Int × Value)
  | 0 => []
  | 1 => [(3, .ref (f 3))]
  | 2 => [(3, .ref (f 3)), (1, .ref (f 1))]
  | _ => [(3, .ref (f 3)), (1, .ref (f 1)), (2, .ref (f 2))]
def addAt (i : Nat) : Int := ([3, 1, 2] : List Int).getD i 0
structure SA where
  oR : Obj
  oW : Obj
  PB : Int → PBlk
def JA (w : World) (c : PC) (C : Addr) (nC : Nat) (x1 x2 : Addr × Obj) (us : List Int) (R : List (Addr × Obj)) (i : Nat) (s : SA) (nx : List (Addr × Obj)) : Prop :=
  nx = x1 :: x2 :: (H5 c C s.oR s.oW [] nC ++ (addBs s.PB i ++ R)) ∧ Sep (H5 c C s.oR s.oW [] nC ++ addBs s.PB i) (x1 :: x2 :: R) ∧ IntD w s.oR (addKs (fun n => (s.PB n).p) i) ∧ IntD w s.oW (addKs (fun n => (s.PB n).w0) i) ∧ ∀ j, j < i → (s.PB (addAt j)).Ok 0 ∧ (s.PB (addAt j)).x = ⟨upOf us (addAt j), upOf us (addAt j), none, []⟩
theorem adds_loop {prog : Program} {w : World} {A : Around} {E : Value → Shared → Prop} {s : Shared} {env : Env} {h₀ : Heap} {x : Str} {body : List Stmt} {Q : Flow → Shared → Prop} {l C : Addr} {c : PC} {oR oW : Obj} {nn nC : Nat} {t1 t2 t3 : Tok} {m₀ : Str → Option Value} {x1 x2 : Addr × Obj} {us : List Int} {R news : List (Addr × Obj)} (ps : List (Str × Value)) (hh : A.handled = none) (F : Fr h₀ env.locals s.heap m₀)
    (N : News h₀ env.locals s.heap news) (sub : ∀ q ∈ (l, listOf #[.int 3 t1, .int 1 t2, .int 2 t3] nn) :: x1 :: x2 :: (H5 c C oR oW [] nC ++ R), q ∈ news) (hl : Off l (x1 :: x2 :: (H5 c C oR oW [] nC ++ R))) (hS : Sep (H5 c C oR oW [] nC) (x1 :: x2 :: R)) (hR : IntD w oR []) (hW : IntD w oW []) (PB₀ : Int → PBlk)
    (hp : ∀ p ∈ ps, m₀ p.1 = some p.2)
    (turn : ∀ n t (oR oW : Obj) (kR kW : List (Int × Value)) Bs R (u : Str → Option Value) h tk, 1 ≤ n → kR.length ≤ 5 → kW.length ≤ 5 → (valueAt kR n).isSome = false → (valueAt kW n).isSome = false → IntD w oR kR → IntD w oW kW → Sep (H5 c C oR oW [] nC ++ Bs) (x1 :: x2 :: R) →
      Fr h₀ env.locals h (fun y => if y = x then some (.int n t) else kstB u ps y) → News h₀ env.locals h (x1 :: x2 :: (H5 c C oR oW [] nC ++ (Bs ++ R))) →
      wpAny (model prog w) A (execs body env) (AddTurn w c C nC x1 x2 ps us n kR kW Bs R h₀ env.locals { s with heap := h, toks := tk }) E { s with heap := h, toks := tk })
    (done : ∀ (σ : SA) (u : Str → Option Value) h tk, JA w c C nC x1 x2 us R 3 σ (x1 :: x2 :: (H5 c C σ.oR σ.oW [] nC ++ (addBs σ.PB 3 ++ R))) → Fr h₀ env.locals h (fun y => kstB u ps y) → News h₀ env.locals h (x1 :: x2 :: (H5 c C σ.oR σ.oW [] nC ++ (addBs σ.PB 3 ++ R))) → Q .next { s with heap := h, toks := tk }) :
    wpAny (model prog w) A (pyIter (.ref l)) (fun it s₂ => LoopAtV prog w A h₀ env x body Q E it s₂) E s := by
  refine loop_S (σ := SA) (vs := [.int 3 t1, .int 1 t2, .int 2 t3]) (nn := nn) (fun _ => ps) (JA w c C nC x1 x2 us R) ⟨oR, oW, PB₀⟩ hh F (news_drop N sub) hl hp ⟨rfl, by rw [show addBs PB₀ 0 = [] from rfl, List.append_nil]; exact hS, hR, hW, fun j hj => (Nat.not_lt_zero _ hj).elim⟩ ?_ ?_
  · intro i v σ nx u h tk own hv hsep hJ F' N'
    obtain ⟨rfl, S, iR, iW, hok⟩ := hJ
    have hk : ∃ t, v = .int (addAt i) t ∧ i < 3 := by
      match i, hv with
      | 0, hv => exact ⟨_, (Option.some.inj hv).symm, by decide⟩
      | 1, hv => exact ⟨_, (Option.some.inj hv).symm, by decide⟩
      | 2, hv => exact ⟨_, (Option.some.inj hv).symm, by decide⟩
    obtain ⟨tv, rfl, hi⟩ := hk
    have facts : 1 ≤ addAt i ∧ (addKs (fun n => (σ.PB n).p) i).length ≤ 5 ∧ (addKs (fun n => (σ.PB n).w0) i).length ≤ 5 ∧ (valueAt (addKs (fun n => (σ.PB n).p) i) (addAt i)).isSome = false ∧ (valueAt (addKs (fun n => (σ.PB n).w0) i) (addAt i)).isSome = false := by
      match i, hi with
      | 0, _ => exact ⟨by decide, Nat.zero_le _, Nat.zero_le _, rfl, rfl⟩
      | 1, _ => exact ⟨by decide, Nat.le_of_ble_eq_true rfl, Nat.le_of_ble_eq_true rfl, rfl, rfl⟩
      | 2, _ => exact ⟨by decide, Nat.le_of_ble_eq_true rfl, Nat.le_of_ble_eq_true rfl, rfl, rfl⟩
    obtain ⟨f1, f2, f3, f4, f5⟩ := facts
    have hown : ∀ z ∈ x1 :: x2 :: (H5 c C σ.oR σ.oW [] nC ++ (addBs σ.PB i ++ R)), ∀ p ∈ own, p.1 ≠ z.1 := fun z hz p hp => hsep p hp _ (List.mem_map.mpr ⟨z, hz, rfl⟩)
    have S1 : Sep (H5 c C σ.oR σ.oW [] nC ++ addBs σ.PB i) (x1 :: x2 :: (R ++ own)) := ⟨S.1, fun q hq p hp => by
      rcases List.mem_cons.mp hp with rfl | hp
      · exact S.2 q hq _ (.head _)
      · rcases List.mem_cons.mp hp with rfl | hp
        · exact S.2 q hq _ (.tail _ (.head _))
        · rcases List.mem_append.mp hp with hp | hp
          · exact S.2 q hq p (.tail _ (.tail _ hp))
          · refine hown q (.tail _ (.tail _ ?_)) p hp
            rw [← List.append_assoc]
            exact List.mem_append_left _ hq⟩
    refine wpAny_mono (turn (addAt i) tv σ.oR σ.oW _ _ (addBs σ.PB i) (R ++ own) u h tk f1 f2 f3 f4 f5 iR iW S1 F' (fun q hq => N' q (by
      rw [assoc5]
      exact hq))) ?_ fun _ _ e => e
    rintro f s₂ ⟨hf, b, oR', oW', h', tk', m', rfl, F', hp', N', S', ok', x', iR', iW'⟩
    have hB : addBs (upd σ.PB (addAt i) b) (i + 1) = b.led (addAt i) ++ addBs σ.PB i := by
      match i, hi with
      | 0, _ => rfl
      | 1, _ => rfl
      | 2, _ => rfl
    have hK1 : addKs (fun n => (upd σ.PB (addAt i) b n).p) (i + 1) = stored (addKs (fun n => (σ.PB n).p) i) (addAt i) (.ref b.p) := by
      match i, hi with
      | 0, _ => rfl
      | 1, _ => rfl
      | 2, _ => rfl
    have hK2 : addKs (fun n => (upd σ.PB (addAt i) b n).w0) (i + 1) = stored (addKs (fun n => (σ.PB n).w0) i) (addAt i) (.ref b.w0) := by
      match i, hi with
      | 0, _ => rfl
      | 1, _ => rfl
      | 2, _ => rfl
    have hne : ∀ j, j < i → addAt j ≠ addAt i := by
      match i, hi with
      | 0, _ => intro j hj; exact (Nat.not_lt_zero _ hj).elim
      | 1, _ => intro j hj; obtain rfl : j = 0 := by omega
                decide
      | 2, _ => intro j hj; obtain rfl | rfl : j = 0 ∨ j = 1 := by omega
                · decide
                · decide
    have key : InvEndG h₀ env.locals (fun m' nx' => ∃ c' : SA, (∀ p ∈ ps, m' p.1 = some p.2) ∧ JA w c C nC x1 x2 us R (i + 1) c' nx') own { s with heap := h, toks := tk } { s with heap := h', toks := tk' } := by
      refine InvEndG.intro (nx := x1 :: x2 :: (H5 c C oR' oW' [] nC ++ ((b.led (addAt i) ++ addBs σ.PB i) ++ R))) F' N' ⟨⟨oR', oW', upd σ.PB (addAt i) b⟩, hp', by rw [hB], ?_, by rw [hK1]; exact iR', by rw [hK2]; exact iW', ?_⟩ ?_ ?_ ?_
      · rw [hB]
        exact S'.mono (sub_cons mm0 (sub_cons mm1 fun q hq => md2 (List.mem_append_left _ hq)))
      · intro j hj
        by_cases e : j = i
        · subst e
          show (upd σ.PB (addAt j) b (addAt j)).Ok 0 ∧ (upd σ.PB (addAt j) b (addAt j)).x = _
          rw [upd_same]; exact ⟨ok', x'⟩
        · show (upd σ.PB (addAt i) b (addAt j)).Ok 0 ∧ (upd σ.PB (addAt i) b (addAt j)).x = _
          rw [upd_other σ.PB b (hne j (by omega))]; exact hok j (by omega)
      · intro p hp q hq
        obtain ⟨z, hz, rfl⟩ := List.mem_map.mp hq
        rcases List.mem_cons.mp hz with rfl | hz
        · exact hown _ (.head _) p hp
        · rcases List.mem_cons.mp hz with rfl | hz
          · exact hown _ (.tail _ (.head _)) p hp
          · rw [← List.append_assoc] at hz
            rcases List.mem_append.mp hz with hz | hz
            · exact S'.2 z hz p (.tail _ (.tail _ (List.mem_append_right _ hp)))
            · exact hown z (.tail _ (.tail _ (List.mem_append_right _ (List.mem_append_right _ hz)))) p hp
      · intro q hq
        rw [← assoc5]
        exact List.mem_append_left _ hq
      · intro q hq
        rw [← assoc5]
        exact List.mem_append_right _ hq
    cases f with
    | ret v => exact hf.elim
    | brk => exact hf.elim
    | next => exact key
    | cont => exact key
  · intro σ nx u h tk hJ F' N'
    obtain ⟨rfl, h2⟩ := hJ
    exact done σ u h tk ⟨rfl, h2⟩ F' N'
theorem law_sep {e1 e2 e3 src lim ups l1 rowsA : Addr} {o1 o2 o3 oSrc oLim oUps oL oU2 oRows : Obj} {R : List (Addr × Obj)} {H : List (Addr × Obj)} {RB : List (Addr × Obj)} (hS : Sep [(e3, o3), (e2, o2), (e1, o1)] R) (h1 : Off src ((e3, o3) :: (e2, o2) :: (e1, o1) :: R)) (h2 : Off lim ((src, oSrc) :: (e3, o3) :: (e2, o2) :: (e1, o1) :: R))
    (h3 : Off ups ((lim, oLim) :: (src, oSrc) :: (e3, o3) :: (e2, o2) :: (e1, o1) :: R)) (S5 : Sep H ((ups, oUps) :: (l1, oL) :: (lim, oLim) :: (src, oSrc) :: (e3, o3) :: (e2, o2) :: (e1, o1) :: R))
    (SR : Sep ((rowsA, oRows) :: RB) ((ups, oU2) :: (H ++ (ups, oUps) :: (l1, oL) :: (lim, oLim) :: (src, oSrc) :: (e3, o3) :: (e2, o2) :: (e1, o1) :: R))) :
    Sep ((e3, o3) :: (e2, o2) :: (ups, oUps) :: (e1, o1) :: (rowsA, oRows) :: (src, oSrc) :: (lim, oLim) :: (H ++ RB)) R := by
  have Sb : Sep ([(ups, oUps), (lim, oLim), (src, oSrc)] ++ [(e3, o3), (e2, o2), (e1, o1)]) R := sep_mk h3 (sep_mk h2 (sep_mk h1 hS))
  have Sc : Sep (H ++ ([(ups, oUps), (lim, oLim), (src, oSrc)] ++ [(e3, o3), (e2, o2), (e1, o1)])) R := sep_append.mpr ⟨S5.mono (sub_cons mm0 fun q hq => md2 hq), Sb⟩
  have Sd : Sep (((rowsA, oRows) :: RB) ++ (H ++ ([(ups, oUps), (lim, oLim), (src, oSrc)] ++ [(e3, o3), (e2, o2), (e1, o1)]))) R := sep_append.mpr ⟨SR.mono fun q hq => by
    rw [List.append_assoc] at hq
    refine .tail _ ?_
    rcases List.mem_append.mp hq with hq | hq
    · exact List.mem_append_left _ hq
    · refine List.mem_append_right _ ?_
      exact (sub_cons mm0 fun q hq => md2 hq) q hq, Sc⟩
  refine Sd.perm ?_
  -- rowsA :: RB ++ (H ++ (T ++ E))
  have p1 : (((rowsA, oRows) :: RB) ++ (H ++ ([(ups, oUps), (lim, oLim), (src, oSrc)] ++ [(e3, o3), (e2, o2), (e1, o1)]))).Perm ([(ups, oUps), (lim, oLim), (src, oSrc)] ++ ([(e3, o3), (e2, o2), (e1, o1)] ++ ([(rowsA, oRows)] ++ (H ++ RB)))) := by
    have a : (H ++ ([(ups, oUps), (lim, oLim), (src, oSrc)] ++ [(e3, o3), (e2, o2), (e1, o1)])).Perm (([(ups, oUps), (lim, oLim), (src, oSrc)] ++ [(e3, o3), (e2, o2), (e1, o1)]) ++ H) := List.perm_append_comm
    refine (List.Perm.append_left _ a).trans ?_
    refine (List.perm_append_comm_assoc _ _ _).trans ?_
    rw [List.append_assoc]
    refine List.Perm.append_left _ (List.Perm.append_left _ ?_)
    exact List.Perm.cons _ List.perm_append_comm
  refine p1.trans ?_
  refine (List.perm_append_comm_assoc [_, _, _] [(e3, o3), (e2, o2)] _).trans (List.Perm.cons _ (List.Perm.cons _ ?_))
  refine List.Perm.cons (ups, oUps) ?_
  refine (List.perm_append_comm_assoc [(lim, oLim), (src, oSrc)] [(e1, o1), (rowsA, oRows)] _).trans (List.Perm.cons _ (List.Perm.cons _ ?_))
  exact List.Perm.swap _ _ _
theorem law_reorg {α : Type} {e1 e2 e3 src lim ups ups2 l1 rowsA : α} {R H RB : List α} : ∀ q ∈ e3 :: e2 :: ups :: e1 :: rowsA :: src :: lim :: ((H ++ RB) ++ R), q ∈ rowsA :: (RB ++ ups2 :: (H ++ ups :: l1 :: lim :: src :: e3 :: e2 :: e1 :: R)) := by
  have h : ∀ q ∈ ups :: l1 :: lim :: src :: e3 :: e2 :: e1 :: R, q ∈ rowsA :: (RB ++ ups2 :: (H ++ ups :: l1 :: lim :: src :: e3 :: e2 :: e1 :: R)) := fun q hq => .tail _ (List.mem_append_right _ (.tail _ (List.mem_append_right _ hq)))
  refine sub_cons (h _ mm4) (sub_cons (h _ mm5) (sub_cons (h _ mm0) (sub_cons (h _ mm6) (sub_cons (.head _) (sub_cons (h _ mm3) (sub_cons (h _ mm2) fun q hq => ?_))))))
  rcases List.mem_append.mp hq with hq | hq
  · rcases List.mem_append.mp hq with hq | hq
    · exact .tail _ (List.mem_append_right _ (.tail _ (List.mem_append_left _ hq)))
    · exact .tail _ (List.mem_append_left _ hq)
  · exact h q (md7 hq)
theorem law_sep1 {e1 e2 e3 src lim ups rowsA seen : Addr} {o1 o2 o3 o2' o3' oSrc oLim oUps oRows oSeen : Obj} {R H RB : List (Addr × Obj)} (SA : Sep ((e3, o3) :: (e2, o2) :: (ups, oUps) :: (e1, o1) :: (rowsA, oRows) :: (src, oSrc) :: (lim, oLim) :: (H ++ RB)) R)
    (hs : Off seen ((e3, o3) :: (e2, o2) :: (ups, oUps) :: (e1, o1) :: (rowsA, oRows) :: (src, oSrc) :: (lim, oLim) :: ((H ++ RB) ++ R))) :
    Sep ((e3, o3') :: (ups, oUps) :: (seen, oSeen) :: (e2, o2') :: (e1, o1) :: (rowsA, oRows) :: (src, oSrc) :: (lim, oLim) :: (H ++ RB)) R :=
  have S0 : Sep ((seen, oSeen) :: (e3, o3) :: (e2, o2) :: (ups, oUps) :: (e1, o1) :: (rowsA, oRows) :: (src, oSrc) :: (lim, oLim) :: (H ++ RB)) R := sep_mk hs SA
  sep_addr (S0.perm ((List.Perm.swap _ _ _).trans (List.Perm.cons _ (List.perm_append_comm_assoc [_, _] [_] _)))) rfl
theorem law_sep2 {e1 e2 e3 src lim ups rowsA seen : Addr} {o1 o2 o3 o2' o3' oSrc oLim oUps oRows oSeen : Obj} {R H RB : List (Addr × Obj)} (SA : Sep ((e3, o3) :: (e2, o2) :: (ups, oUps) :: (e1, o1) :: (rowsA, oRows) :: (src, oSrc) :: (lim, oLim) :: (H ++ RB)) R)
    (hs : Off seen ((e3, o3) :: (e2, o2) :: (ups, oUps) :: (e1, o1) :: (rowsA, oRows) :: (src, oSrc) :: (lim, oLim) :: ((H ++ RB) ++ R))) :
    Sep H ((e3, o3') :: (ups, oUps) :: (seen, oSeen) :: (e2, o2') :: (e1, o1) :: (rowsA, oRows) :: (src, oSrc) :: (lim, oLim) :: (RB ++ R)) :=
  (sep_append.mp (Sep.perm (law_sep1 (o2' := o2') (o3' := o3') (oSeen := oSeen) SA hs) (List.perm_append_comm_assoc [_, _, _, _, _, _, _, _] H RB))).1
theorem law_sep3 {e1 e2 e3 src lim ups rowsA seen : Addr} {o1 o2 o3 o2' o3' oSrc oLim oUps oRows oSeen' : Obj} {R H RB : List (Addr × Obj)} (SA : Sep ((e3, o3) :: (e2, o2) :: (ups, oUps) :: (e1, o1) :: (rowsA, oRows) :: (src, oSrc) :: (lim, oLim) :: (H ++ RB)) R)
    (hs : Off seen ((e3, o3) :: (e2, o2) :: (ups, oUps) :: (e1, o1) :: (rowsA, oRows) :: (src, oSrc) :: (lim, oLim) :: ((H ++ RB) ++ R))) :
    Sep ((rowsA, oRows) :: (seen, oSeen') :: (src, oSrc) :: (lim, oLim) :: RB) ((e3, o3') :: (ups, oUps) :: (e2, o2') :: (e1, o1) :: R) := by
  have S2 : Sep (((rowsA, oRows) :: (seen, oSeen') :: (src, oSrc) :: (lim, oLim) :: RB) ++ ([(e3, o3'), (ups, oUps), (e2, o2'), (e1, o1)] ++ H)) R := by
    refine sep_addr ((law_sep1 (o2' := o2') (o3' := o3') (oSeen := oSeen') SA hs).perm ((List.perm_append_comm_assoc [_, _, _, _, _] [_] _).trans (List.Perm.cons _ ((List.perm_append_comm_assoc [_, _] [_] _).trans (List.Perm.cons _ ((List.perm_append_comm_assoc [_, _, _, _] [_, _] _).trans (List.Perm.cons _ (List.Perm.cons _ ?_)))))))) rfl
    exact (List.perm_append_comm (l₁ := [_, _, _, _] ++ H) (l₂ := RB))
  exact (sep_append.mp S2).1.mono (sub_cons mm0 (sub_cons mm1 (sub_cons mm2 (sub_cons mm3 fun q hq => md4 (List.mem_append_right H hq)))))
theorem adds_sub {α : Type} {e1 e2 e3 src lim ups rowsA seen tup l : α} {R H RB : List α} : ∀ q ∈ l :: e3 :: ups :: (H ++ (seen :: e2 :: e1 :: rowsA :: src :: lim :: (RB ++ R))), q ∈ l :: tup :: seen :: e3 :: e2 :: ups :: e1 :: rowsA :: src :: lim :: ((H ++ RB) ++ R) := by
  refine sub_cons mm0 (sub_cons mm3 (sub_cons mm5 fun q hq => ?_))
  rcases List.mem_append.mp hq with hq | hq
  · exact md10 (List.mem_append_left _ (List.mem_append_left _ hq))
  · refine (sub_cons mm2 (sub_cons mm4 (sub_cons mm6 (sub_cons mm7 (sub_cons mm8 (sub_cons mm9 fun q hq => md10 ?_)))))) q hq
    rw [List.append_assoc]
    exact List.mem_append_right _ hq
theorem adds_sub2 {α : Type} {e1 e2 e3 src lim ups rowsA seen tup : α} {R H RB : List α} : ∀ q ∈ e3 :: ups :: (H ++ (seen :: e2 :: e1 :: rowsA :: src :: lim :: (RB ++ R))), q ∈ tup :: seen :: e3 :: e2 :: ups :: e1 :: rowsA :: src :: lim :: ((H ++ RB) ++ R) := by
  refine sub_cons mm2 (sub_cons mm4 fun q hq => ?_)
  rcases List.mem_append.mp hq with hq | hq
  · exact md9 (List.mem_append_left _ (List.mem_append_left _ hq))
  · refine (sub_cons mm1 (sub_cons mm3 (sub_cons mm5 (sub_cons mm6 (sub_cons mm7 (sub_cons mm8 fun q hq => md9 ?_)))))) q hq
    rw [List.append_assoc]
    exact List.mem_append_right _ hq
theorem add_in {α : Type} {x1 x2 : α} {H B R : List α} : ∀ q ∈ H ++ (B ++ x1 :: x2 :: R), q ∈ x1 :: x2 :: (H ++ (B ++ R)) := by
  intro q hq
  rcases List.mem_append.mp hq with hq | hq
  · exact md2 (List.mem_append_left _ hq)
  · rcases List.mem_append.mp hq with hq | hq
    · exact md2 (List.mem_append_right _ (List.mem_append_left _ hq))
    · exact sub_cons mm0 (sub_cons mm1 fun q hq => md2 (List.mem_append_right _ (List.mem_append_right _ hq))) q hq
theorem add_in1 {α : Type} {y x1 x2 : α} {H B R : List α} : ∀ q ∈ y :: (H ++ (B ++ x1 :: x2 :: R)), q ∈ y :: x1 :: x2 :: (H ++ (B ++ R)) := sub_cons mm0 fun q hq => .tail _ (add_in q hq)
theorem add_in2 {α : Type} {z y x1 x2 : α} {H B R : List α} : ∀ q ∈ z :: y :: (H ++ (B ++ x1 :: x2 :: R)), q ∈ z :: y :: x1 :: x2 :: (H ++ (B ++ R)) := sub_cons mm0 fun q hq => .tail _ (add_in1 q hq)
theorem add_out {α : Type} {x1 x2 : α} {H B R : List α} : ∀ q ∈ x1 :: x2 :: (H ++ (B ++ R)), q ∈ H ++ (B ++ x1 :: x2 :: R) := by
  refine sub_cons (List.mem_append_right _ (List.mem_append_right _ mm0)) (sub_cons (List.mem_append_right _ (List.mem_append_right _ mm1)) fun q hq => ?_)
  rcases List.mem_append.mp hq with hq | hq
  · exact List.mem_append_left _ hq
  · rcases List.mem_append.mp hq with hq | hq
    · exact List.mem_append_right _ (List.mem_append_left _ hq)
    · exact List.mem_append_right _ (List.mem_append_right _ (md2 hq))
end
set_option genInjectivity false
set_option genSizeOf false
section
def LG (w : World) (d : GD) (g : GS) (rest : List (Addr × Obj)) (K : Nat) (now : Int) : Prop := Good w d g rest K K ∧ g.cP = g.cS ∧ ∀ n, In3 n → Sync d.c.span now (g.PB n).x (g.RB n).y
theorem addBs_perm (PB : Int → PBlk) : (addBs PB 3).Perm (led3b PBlk.led PB) := by
  show ((PB 2).led 2 ++ ((PB 1).led 1 ++ ((PB 3).led 3 ++ []))).Perm ((PB 1).led 1 ++ ((PB 2).led 2 ++ (PB 3).led 3))
  rw [List.append_nil]
  exact List.perm_append_comm_assoc _ _ _
theorem law_good {w : World} {c : PC} {C e1 e2 e3 src lim ups rowsA seen : Addr} {o1 o2 o3 oU oS : Obj} {us : List Int} {mv : Value} {span hold : Int} {ts th tx ty : Tok} {x y : Int} {ns nS nC : Nat} {RB : Int → RBlk} {σ : SA} {R nx : List (Addr × Obj)} {most : Option Int}
   (hJ : JA w c C nC (e3, o3) (ups, oU) us ((seen, listOf ([] : List Value).toArray nS) :: (e2, o2) :: (e1, o1) :: (rowsA, oS) :: (src, listOf #[.int x tx, .int y ty] ns) :: (lim, { cls := .type "tuple", data := .seq #[mv, .int span ts, .int hold th] }) :: (led3b goLb RB ++ R)) 3 σ nx)
   (hG : Sep ((rowsA, oS) :: (seen, listOf ([] : List Value).toArray nS) :: (src, listOf #[.int x tx, .int y ty] ns) :: (lim, { cls := .type "tuple", data := .seq #[mv, .int span ts, .int hold th] }) :: led3b goLb RB) ((e3, o3) :: (ups, oU) :: (e2, o2) :: (e1, o1) :: R))
   (hRB : ∀ n, In3 n → (RB n).Ok w 0 ∧ (RB n).y = rowOf us n) (iS : IntD w oS [(1, .ref (RB 1).r), (2, .ref (RB 2).r), (3, .ref (RB 3).r)]) (hm : HeldV mv most) (h1 : c.mv = mv) (h2 : c.span = span) (h3 : c.hold = hold) (lR : (c.R == sysModules) = false) (hx : 0 ≤ x) (hy : 0 ≤ y) :
   ∃ d g, c = d.c ∧ rowsA = d.rows ∧ seen = d.seen ∧ src = d.src ∧ lim = d.lim ∧ mv = d.c.mv ∧ span = d.c.span ∧ hold = d.c.hold ∧ DOk w d most ∧ LG w d g ((e3, o3) :: (ups, oU) :: (e2, o2) :: (e1, o1) :: R) 0 0 ∧ ∀ q ∈ gA d g ++ ((e3, o3) :: (ups, oU) :: (e2, o2) :: (e1, o1) :: R), q ∈ nx := by
  subst h1 h2 h3
  obtain ⟨rfl, S, iR, iW, hB⟩ := hJ
  have hok : ∀ n, In3 n → (σ.PB n).Ok 0 ∧ (σ.PB n).x = ⟨upOf us n, upOf us n, none, []⟩ := by
    rintro n (rfl | rfl | rfl)
    · exact hB 1 (by decide)
    · exact hB 2 (by decide)
    · exact hB 0 (by decide)
  refine ⟨⟨c, rowsA, seen, src, lim, σ.oR, σ.oW, oS, ts, th, fun n => (σ.PB n).p, fun n => (σ.PB n).w0, fun n => (RB n).r⟩, ⟨C, σ.PB, RB, [], [], nC, nS, x, y, tx, ty, ns, [], [], []⟩, rfl, rfl, rfl, rfl, rfl, rfl, rfl, rfl, ⟨iR, iW, iS, hm, lR⟩, ⟨⟨?_, fun n hn => (hok n hn).1, fun n hn => (hRB n hn).1, fun _ _ => ⟨rfl, rfl⟩, fun _ _ => rfl, .nil, .nil, Nat.zero_le _, Nat.zero_le _, hx, hy⟩, rfl, fun n hn => ?_⟩, ?_⟩
  · have S1 : Sep ((H5 c C σ.oR σ.oW [] nC ++ addBs σ.PB 3) ++ ((rowsA, oS) :: (seen, listOf ([] : List Value).toArray nS) :: (src, listOf #[.int x tx, .int y ty] ns) :: (lim, { cls := .type "tuple", data := .seq #[c.mv, .int c.span ts, .int c.hold th] }) :: led3b goLb RB)) ((e3, o3) :: (ups, oU) :: (e2, o2) :: (e1, o1) :: R) := by
      refine sep_append.mpr ⟨S.mono ?_, hG⟩
      intro q hq
      rcases List.mem_append.mp hq with hq | hq
      · exact (sub_cons mm5 (sub_cons mm2 (sub_cons mm6 (sub_cons mm7 fun q hq => md8 (List.mem_append_left _ hq))))) q hq
      · exact (sub_cons mm0 (sub_cons mm1 (sub_cons mm3 (sub_cons mm4 fun q hq => md8 (List.mem_append_right _ hq))))) q hq
    refine S1.perm ?_
    rw [List.append_assoc]
    refine List.Perm.append_left _ ?_
    refine ((addBs_perm σ.PB).append_right _).trans ?_
    refine (List.perm_append_comm_assoc _ [_, _, _, _] _).trans ?_
    refine List.Perm.append_left _ (List.Perm.append_left _ ?_)
    exact List.Perm.of_eq (List.append_nil _).symm
  · show Sync _ _ (σ.PB n).x (RB n).y
    rw [(hok n hn).2, (hRB n hn).2]
    exact ⟨rfl, rfl, rfl, fun _ _ => rfl⟩
  · intro q hq
    rcases List.mem_append.mp hq with hq | hq
    · rcases List.mem_append.mp hq with hq | hq
      · exact md2 (List.mem_append_left _ hq)
      · rcases List.mem_append.mp hq with hq | hq
        · exact (sub_cons (md2 (List.mem_append_right _ (List.mem_append_right _ mm3))) (sub_cons (md2 (List.mem_append_right _ (List.mem_append_right _ mm0))) (sub_cons (md2 (List.mem_append_right _ (List.mem_append_right _ mm4))) (sub_cons (md2 (List.mem_append_right _ (List.mem_append_right _ mm5))) fun _ h => (List.not_mem_nil h).elim)))) q hq
        · rcases List.mem_append.mp hq with hq | hq
          · exact md2 (List.mem_append_right _ (List.mem_append_left _ ((addBs_perm σ.PB).mem_iff.mpr hq)))
          · rw [List.append_nil] at hq
            exact md2 (List.mem_append_right _ (List.mem_append_right _ (md6 (List.mem_append_left _ hq))))
    · exact (sub_cons mm0 (sub_cons mm1 (sub_cons (md2 (List.mem_append_right _ (List.mem_append_right _ mm1))) (sub_cons (md2 (List.mem_append_right _ (List.mem_append_right _ mm2))) fun q hq => md2 (List.mem_append_right _ (List.mem_append_right _ (md6 (List.mem_append_right _ hq)))))))) q hq
theorem LG.rest {w : World} {d : GD} {g : GS} {R R' : List (Addr × Obj)} {K : Nat} {now : Int} (G : LG w d g R K now) (h : Sep (gA d g) R') : LG w d g R' K now := ⟨G.1.rest h, G.2⟩
def DTurn (w : World) (d : GD) (rest : List (Addr × Obj)) (ps : List (Str × Value)) (K : Nat) (h₀ : Heap) (L : Addr) (s₁ : Shared) (f : Flow) (s₂ : Shared) : Prop :=
  (match f with | .next => True | .cont => True | _ => False) ∧ ∃ (g : GS) (now : Int) (tn : Tok) (h' : Heap) (tk' : Nat) (m' : Str → Option Value), s₂ = { s₁ with heap := h', toks := tk' } ∧ Fr h₀ L h' m' ∧ m' (Str.ofString "now") = some (.int now tn) ∧ (∀ p ∈ ps, m' p.1 = some p.2) ∧ News h₀ L h' (gA d g ++ rest) ∧ LG w d g rest K now
theorem DTurn.intro {w : World} {d : GD} {rest : List (Addr × Obj)} {ps : List (Str × Value)} {K : Nat} {h₀ : Heap} {L : Addr} {s₁ : Shared} {g : GS} {now : Int} {tn : Tok} {h' : Heap} {tk' : Nat} {m' : Str → Option Value} (F : Fr h₀ L h' m') (h1 : m' (Str.ofString "now") = some (.int now tn)) (hp : ∀ p ∈ ps, m' p.1 = some p.2) (N : News h₀ L h' (gA d g ++ rest)) (G : LG w d g rest K now) :
    DTurn w d rest ps K h₀ L s₁ .next { s₁ with heap := h', toks := tk' } := ⟨trivial, g, now, tn, h', tk', m', rfl, F, h1, hp, N, G⟩
theorem deeds_loop {prog : Program} {w : World} {A : Around} {E : Value → Shared → Prop} {s : Shared} {env : Env} {h₀ : Heap} {x : Str} {body : List Stmt} {Q : Flow → Shared → Prop} {r : Addr} {b : Int} {tn t u v : Tok} {m₀ : Str → Option Value} {news rest : List (Addr × Obj)} {d : GD} {g : GS} (ps : List (Str × Value))
    (hh : A.handled = none) (hr : IsRange s.heap r 0 b 1 t u v) (hb : 10 ≤ b ∧ b < 25) (F : Fr h₀ env.locals s.heap m₀) (N : News h₀ env.locals s.heap news) (sub : ∀ q ∈ gA d g ++ rest, q ∈ news) (hn : m₀ (Str.ofString "now") = some (.int 0 tn)) (hp : ∀ p ∈ ps, m₀ p.1 = some p.2) (G : LG w d g rest 0 0)
    (turn : ∀ (i : Nat) t (g : GS) (now : Int) (tn : Tok) R (u : Str → Option Value) h tk, i < 25 → LG w d g (rest ++ R) i now →
      Fr h₀ env.locals h (fun y => if y = x then some (.int (0 + (i : Int)) t) else kstB u ((Str.ofString "now", Value.int now tn) :: ps) y) → News h₀ env.locals h (gA d g ++ (rest ++ R)) →
      wpAny (model prog w) A (execs body env) (DTurn w d (rest ++ R) ps (i + 1) h₀ env.locals { s with heap := h, toks := tk }) E { s with heap := h, toks := tk })
    (done : ∀ (K : Nat) (g : GS) (now : Int) (u : Str → Option Value) h tk, LG w d g rest K now → Fr h₀ env.locals h (fun y => kstB u ps y) → News h₀ env.locals h (gA d g ++ rest) → Q .next { s with heap := h, toks := tk }) :
    wpAny (model prog w) A (pyIter (.ref r)) (fun it s₂ => LoopAtV prog w A h₀ env x body Q E it s₂) E s := by
  obtain ⟨n, rfl, hn2⟩ : ∃ n : Nat, b = (n : Int) ∧ n < 25 := ⟨b.toNat, by omega, by omega⟩
  have hsm : Builtin.Range.small 0 (n : Int) 1 = true ∧ Builtin.Range.rangeSize 0 (n : Int) 1 = ((n : Nat) : Int) := by
    have : ∀ n : Nat, n < 25 → Builtin.Range.small 0 (n : Int) 1 = true ∧ Builtin.Range.rangeSize 0 (n : Int) 1 = ((n : Nat) : Int) := by decide +kernel
    exact this n hn2
  refine loop_range (fun i m nx => (∀ p ∈ ps, m p.1 = some p.2) ∧ ∃ (now : Int) (tn : Tok) (g : GS), m (Str.ofString "now") = some (.int now tn) ∧ nx = gA d g ++ rest ∧ LG w d g rest i now)
    hh hr hsm.1 hsm.2 F (news_drop N sub) ⟨hp, 0, tn, g, hn, rfl, G⟩ ?_ ?_
  · rintro i t m₁ nx h tk own hi hsep ⟨hp1, now, tn, g, hn1, rfl, G⟩ F' N'
    have hG : Sep (gA d g) (rest ++ own) := G.1.sep.own fun p hp b hb => hsep p hp b (by
      rw [List.map_append]
      exact List.mem_append_left _ hb)
    refine wpAny_mono (turn i t g now tn own m₁ h tk (Nat.lt_trans hi hn2) (G.rest hG) (by
      have e : (fun y => if y = x then some (Value.int (0 + (i : Int)) t) else kstB m₁ ((Str.ofString "now", Value.int now tn) :: ps) y) = fun y => if y = x then some (.int (0 + (i : Int)) t) else m₁ y := by
        funext y
        rw [congrFun (kst_same (List.forall_mem_cons.mpr ⟨hn1, hp1⟩)) y]
      rw [e]
      exact F') (by rw [List.append_assoc] at N'; exact N')) (fun f s₂ p => ?_) fun _ _ e => e
    obtain ⟨hf, g', now', tn', h', tk', m', rfl, F'', hn'', hp'', N'', G'⟩ := p
    have key : InvEndG h₀ env.locals (fun m nx => (∀ p ∈ ps, m p.1 = some p.2) ∧ ∃ (now : Int) (tn : Tok) (g : GS), m (Str.ofString "now") = some (.int now tn) ∧ nx = gA d g ++ rest ∧ LG w d g rest (i + 1) now) own { s with heap := h, toks := tk } { s with heap := h', toks := tk' } := by
      refine InvEndG.intro (nx := gA d g' ++ rest) F'' N'' ⟨hp'', now', tn', g', hn'', rfl, G'.rest (G'.1.sep.mono fun q hq => List.mem_append_left _ hq)⟩ ?_ ?_ ?_
      · intro p hp q hq
        obtain ⟨z, hz, rfl⟩ := List.mem_map.mp hq
        rcases List.mem_append.mp hz with hz | hz
        · exact G'.1.sep.2 z hz p (List.mem_append_right _ hp)
        · exact hsep p hp _ (List.mem_map.mpr ⟨z, List.mem_append_right _ hz, rfl⟩)
      · intro q hq
        rw [← List.append_assoc]
        exact List.mem_append_left _ hq
      · intro q hq
        rw [← List.append_assoc]
        exact List.mem_append_right _ hq
    cases f with
    | ret v => exact hf.elim
    | brk => exact hf.elim
    | next => exact key
    | cont => exact key
  · rintro m₁ nx h tk ⟨hp1, now, tn, g, hn1, rfl, G⟩ F' N'
    refine done n g now m₁ h tk G ?_ N'
    rw [kst_same hp1]
    exact F'
section
variable {w : World} {d : GD} {g : GS} {e1 e2 e3 ups : Addr} {o1 o2 o3 oU : Obj} {R : List (Addr × Obj)} {K : Nat} {now : Int}
theorem lw_open {k1 k2 k3 k4 : Addr × Obj} : ∀ q ∈ k1 :: k2 :: k3 :: k4 :: gW d g (gT d g R), q ∈ gA d g ++ (k1 :: k2 :: k3 :: k4 :: R) := by
  refine sub_cons (rest_in _ mm0) (sub_cons (rest_in _ mm1) (sub_cons (rest_in _ mm2) (sub_cons (rest_in _ mm3) fun q hq => ?_)))
  rcases List.mem_append.mp (gW_sub q hq) with hq | hq
  · exact List.mem_append_left _ hq
  · exact List.mem_append_right _ (md4 hq)
theorem lw_close {k1 k2 k3 k4 : Addr × Obj} : ∀ q ∈ gA d g ++ (k1 :: k2 :: k3 :: k4 :: R), q ∈ k1 :: k2 :: k3 :: k4 :: gW d g (gT d g R) := by
  intro q hq
  rcases List.mem_append.mp hq with hq | hq
  · exact md4 (gA_sub q (List.mem_append_left _ hq))
  · exact (sub_cons mm0 (sub_cons mm1 (sub_cons mm2 (sub_cons mm3 fun q hq => md4 (gA_sub q (List.mem_append_right _ hq)))))) q hq
theorem lw_open' {h₀ h : Heap} {L : Addr} {k1 k2 k3 k4 : Addr × Obj} {nx : List (Addr × Obj)} (N : News h₀ L h nx) (sub : ∀ q ∈ gA d g ++ (k1 :: k2 :: k3 :: k4 :: R), q ∈ nx) : News h₀ L h (k1 :: k2 :: k3 :: k4 :: (d.c.P, instObj 187 d.c.dP) :: (d.c.dP, d.c.d g.C) :: (d.rows, d.oS) :: (d.seen, listOf g.ss.toArray g.ns) :: (d.src, listOf #[.int g.x g.tx, .int g.y g.ty] g.nx) :: (d.lim, { cls := .type "tuple", data := .seq #[d.c.mv, .int d.c.span d.ts2, .int d.c.hold d.th2] }) :: gT d g R) :=
  news_drop N fun q hq => sub q (lw_open q hq)
theorem lw_seps {k1 k2 k3 k4 : Addr × Obj} (G : LG w d g (k1 :: k2 :: k3 :: k4 :: R) K now) : Off d.c.P ((d.c.dP, d.c.d g.C) :: (d.rows, d.oS) :: (d.seen, listOf g.ss.toArray g.ns) :: (d.src, listOf #[.int g.x g.tx, .int g.y g.ty] g.nx) :: (d.lim, { cls := .type "tuple", data := .seq #[d.c.mv, .int d.c.span d.ts2, .int d.c.hold d.th2] }) :: gT d g R) ∧
    Off d.c.dP ((d.rows, d.oS) :: (d.seen, listOf g.ss.toArray g.ns) :: (d.src, listOf #[.int g.x g.tx, .int g.y g.ty] g.nx) :: (d.lim, { cls := .type "tuple", data := .seq #[d.c.mv, .int d.c.span d.ts2, .int d.c.hold d.th2] }) :: gT d g R) ∧
    Off d.rows ((d.seen, listOf g.ss.toArray g.ns) :: (d.src, listOf #[.int g.x g.tx, .int g.y g.ty] g.nx) :: (d.lim, { cls := .type "tuple", data := .seq #[d.c.mv, .int d.c.span d.ts2, .int d.c.hold d.th2] }) :: gT d g R) ∧
    Off d.seen ((d.src, listOf #[.int g.x g.tx, .int g.y g.ty] g.nx) :: (d.lim, { cls := .type "tuple", data := .seq #[d.c.mv, .int d.c.span d.ts2, .int d.c.hold d.th2] }) :: gT d g R) ∧
    Off d.src (k1 :: k2 :: k3 :: k4 :: (d.lim, { cls := .type "tuple", data := .seq #[d.c.mv, .int d.c.span d.ts2, .int d.c.hold d.th2] }) :: gT d g R) := by
  obtain ⟨q1, q2, q3, q4, q5, _⟩ := gSep (G.1.rest (G.1.sep.mono fun _ hq => md4 hq))
  refine ⟨q1, q2, q3, q4, ?_⟩
  have h := G.1.sep.2 (d.src, listOf #[.int g.x g.tx, .int g.y g.ty] g.nx) (List.mem_append_right _ mm2)
  exact off_cons.mpr ⟨(off_cons.mp h).1, off_cons.mpr ⟨(off_cons.mp (off_cons.mp h).2).1, off_cons.mpr ⟨(off_cons.mp (off_cons.mp (off_cons.mp h).2).2).1, off_cons.mpr ⟨(off_cons.mp (off_cons.mp (off_cons.mp (off_cons.mp h).2).2).2).1, q5⟩⟩⟩⟩
theorem lw_src {k1 k2 k3 k4 : Addr × Obj} {x y : Int} {tx ty : Tok} (G : LG w d g (k1 :: k2 :: k3 :: k4 :: R) K now) (hx : 0 ≤ x) (hy : 0 ≤ y) :
    ∃ g1, LG w d g1 (k1 :: k2 :: k3 :: k4 :: R) K now ∧
      ∀ q ∈ gA d g1 ++ (k1 :: k2 :: k3 :: k4 :: R), q ∈ k1 :: k2 :: k3 :: k4 :: (d.c.P, instObj 187 d.c.dP) :: (d.c.dP, d.c.d g.C) :: (d.rows, d.oS) :: (d.seen, listOf g.ss.toArray g.ns) :: (d.src, listOf #[.int x tx, .int y ty] g.nx) :: (d.lim, { cls := .type "tuple", data := .seq #[d.c.mv, .int d.c.span d.ts2, .int d.c.hold d.th2] }) :: gT d g R := by
  obtain ⟨g1, G1, a1, a2, a3, a4, sub⟩ := src_step (tx := tx) (ty := ty) G.1 hx hy
  refine ⟨{ g with x := x, y := y, tx := tx, ty := ty }, ⟨⟨sep_addr G.1.sep rfl, G.1.okP, G.1.okR, G.1.adP, G.1.adR, G.1.tP, G.1.tS, G.1.lP, G.1.lS, hx, hy⟩, G.2⟩, fun q hq => ?_⟩
  have := lw_close q hq
  rw [gT_same] at this
  exact this
theorem lw_end (G : LG w d g ((e3, o3) :: (ups, oU) :: (e2, o2) :: (e1, o1) :: R) K now) (hS : Sep [(e3, o3), (e2, o2), (e1, o1)] R) : Sep ((e3, o3) :: (e2, o2) :: (e1, o1) :: [(d.c.P, instObj 187 d.c.dP), (d.c.dP, d.c.d g.C), (d.c.R, d.oR)]) R := by
  have S1 : Sep [(d.c.P, instObj 187 d.c.dP), (d.c.dP, d.c.d g.C), (d.c.R, d.oR)] ((e3, o3) :: (ups, oU) :: (e2, o2) :: (e1, o1) :: R) := by
    have := (sep_append (f := [(d.c.P, instObj 187 d.c.dP), (d.c.dP, d.c.d g.C), (d.c.R, d.oR)]) (g := (d.c.W, d.oW) :: (g.C, listOf g.cs.toArray g.nc) :: (gH4 d g ++ (led3b PBlk.led g.PB ++ (led3b goLb g.RB ++ g.tl))))).mp G.1.sep
    exact this.1.mono fun _ hq => List.mem_append_right _ hq
  have S2 : Sep ([(d.c.P, instObj 187 d.c.dP), (d.c.dP, d.c.d g.C), (d.c.R, d.oR)] ++ [(e3, o3), (e2, o2), (e1, o1)]) R := sep_append.mpr ⟨S1.mono (sub_cons mm0 (sub_cons mm2 (sub_cons mm3 fun q hq => md4 hq))), hS⟩
  exact S2.perm List.perm_append_comm
theorem lw_end_sub : ∀ q ∈ (e3, o3) :: (e2, o2) :: (e1, o1) :: ([(d.c.P, instObj 187 d.c.dP), (d.c.dP, d.c.d g.C), (d.c.R, d.oR)] ++ R), q ∈ gA d g ++ ((e3, o3) :: (ups, oU) :: (e2, o2) :: (e1, o1) :: R) :=
  sub_cons (rest_in _ mm0) (sub_cons (rest_in _ mm2) (sub_cons (rest_in _ mm3) (sub_cons mm0 (sub_cons mm1 (sub_cons mm2 fun q hq => rest_in _ (md4 hq))))))
end
/-- what a turn of a comprehension of bools gives -/
def BoolEnd (h₀ : Heap) (L : Addr) (m : Str → Option Value) (s₁ : Shared) (led : List (Addr × Obj)) (b : Bool) (y : Value) (s' : Shared) : Prop :=
  ∃ h' tk', y = .bool b ∧ s' = { s₁ with heap := h', toks := tk' } ∧ Fr h₀ L h' m ∧ News h₀ L h' led
theorem BoolEnd.intro {h₀ : Heap} {L : Addr} {m : Str → Option Value} {s₁ : Shared} {led news : List (Addr × Obj)} {b : Bool} {h' : Heap} {tk' : Nat} (F : Fr h₀ L h' m) (N : News h₀ L h' news) (sub : ∀ q ∈ led, q ∈ news) :
    BoolEnd h₀ L m s₁ led b (.bool b) { s₁ with heap := h', toks := tk' } := ⟨h', tk', rfl, rfl, F, news_drop N sub⟩
open LCg in
theorem rest_bools {prog : Program} {w : World} {A : Around} {s : Shared} {h₀ : Heap} {L : Addr} {m : Str → Option Value} {news : List (Addr × Obj)} {k : Nat} {env : Env} {elt : PySem.Expr} {x : Str} {scope : Scope} {cl : List (Str × Addr)} {ax : Addr} {Fin : List Value → List (Addr × Obj) → Prop} {t1 t2 t3 : Tok} (f : Int → Bool) (hm : (ax, listOf #[.int 1 t1, .int 2 t2, .int 3 t3] k) ∈ news)
    (turn : ∀ i t I oI C oC D ys m₂ h tk (E' : Value → Shared → Prop), In3 i → NsObj oC m₂ → m₂ x = some (.int i t) → Fr h₀ L h m → News h₀ L h ((I, oI) :: (C, oC) :: (D, lst ys) :: news) → Off I news → Off C news → Off D news → ((@Ne Nat I C) ∧ (@Ne Nat I D) ∧ (@Ne Nat C D)) →
      wpAny (model prog w) A (eval elt (compEnvC scope cl C env)) (BoolEnd h₀ L m { s with heap := h, toks := tk } ((I, oI) :: (C, oC) :: (D, lst ys) :: news) (f i)) E' { s with heap := h, toks := tk })
    (fin : Fin [.bool (f 1), .bool (f 2), .bool (f 3)] news) :
    CompRest prog w A h₀ L m env elt x scope cl s (SrcAt h₀ ax #[.int 1 t1, .int 2 t2, .int 3 t3]) (fun i v => #[Value.int 1 t1, .int 2 t2, .int 3 t3][i]? = some v) Fin 3 0 [] news := by
  have step : ∀ (n : Nat) (j : Nat) (i : Int) (t : Tok) (ys : List Value), In3 i → #[Value.int 1 t1, .int 2 t2, .int 3 t3][j]? = some (.int i t) →
      CompRest prog w A h₀ L m env elt x scope cl s (SrcAt h₀ ax #[.int 1 t1, .int 2 t2, .int 3 t3]) (fun i v => #[Value.int 1 t1, .int 2 t2, .int 3 t3][i]? = some v) Fin n (j + 1) (ys ++ [.bool (f i)]) news →
      CompRest prog w A h₀ L m env elt x scope cl s (SrcAt h₀ ax #[.int 1 t1, .int 2 t2, .int 3 t3]) (fun i v => #[Value.int 1 t1, .int 2 t2, .int 3 t3][i]? = some v) Fin (n + 1) j ys news := by
    intro n j i t ys hi hv nxt v' I oI C oC D m₂ h tk E' hv' hC hx F N off ne
    have e : v' = .int i t := by
      have h2 : #[Value.int 1 t1, .int 2 t2, .int 3 t3][j]? = some v' := hv'
      rw [hv] at h2
      exact (Option.some.inj h2).symm
    subst e
    have om := Off3.mem off
    refine wpAny_mono (turn i t I oI C oC D ys m₂ h tk E' hi hC hx F N (fun p hp => (om p hp).1) (fun p hp => (om p hp).2.1) (fun p hp => (om p hp).2.2) ne) ?_ fun _ _ e => e
    rintro y s' ⟨h', tk', rfl, rfl, F', N'⟩
    exact CompEnd.intro F' N' news (fun _ h => h) off (.inr ⟨_, hm, rfl, _, rfl⟩) nxt
  exact step 2 0 1 t1 [] (.inl rfl) rfl (step 1 1 2 t2 _ (.inr (.inl rfl)) rfl (step 0 2 3 t3 _ (.inr (.inr rfl)) rfl fin))
theorem bools_read {h : Heap} : ∀ (bs : List Bool), ∃ as, ReadsAll h (bs.map .bool) (bs.map .bool) as
  | [] => ⟨_, .nil⟩
  | b :: bs => let ⟨_, e⟩ := bools_read bs; ⟨_, .cons (.bool b) e⟩
theorem ne_bools {prog : Program} {w : World} {A : Around} {E : Value → Shared → Prop} {s : Shared} {h₀ : Heap} {L a b : Addr} {news : List (Addr × Obj)} {ka kb : Nat} {Q : Value → Shared → Prop} (bs : List Bool) {xs ys : List Value} (ex : xs = bs.map .bool) (ey : ys = bs.map .bool)
    (N : News h₀ L s.heap news) (ma : (a, listOf xs.toArray ka) ∈ news) (mb : (b, listOf ys.toArray kb) ∈ news) (hu : A.units + 64 < cLine) (h : Q (.bool false) s) : wpAny (model prog w) A (compareOp .NotEq (.ref a) (.ref b)) Q E s := by
  subst ex ey
  obtain ⟨as, ra⟩ := bools_read (h := s.heap) bs
  obtain ⟨h1, h2, h3⟩ := flat2_all (ds := bs.map .bool) fun d hd => by obtain ⟨i, _, rfl⟩ := List.mem_map.mp hd; exact flat_bool i
  have sh : SeqAt.shaped (.list (bs.map .bool)) = true := by
    unfold SeqAt.shaped
    rw [show PyData.canLay0 (.list (bs.map .bool)) = true from by simpa [PyData.canLay0] using h1, Bool.true_and]
    refine decide_eq_true ?_
    simp only [PyData.depth]
    omega
  exact ne_dataH (.list (N.get ma) rfl rfl ra) (.list (N.get mb) rfl rfl ra) sh sh hu (by rw [show PyData.eqv (.list (bs.map .bool)) (.list (bs.map .bool)) = true from by simpa [PyData.eqv] using h3]; exact h)
theorem led3b_mem {α : Type} {f : Int → α → List (Addr × Obj)} {B : Int → α} {n : Int} (h : In3 n) : ∀ q ∈ f n (B n), q ∈ led3b f B := by
  intro q hq
  rcases h with rfl | rfl | rfl
  · exact List.mem_append_left _ hq
  · exact List.mem_append_right _ (List.mem_append_left _ hq)
  · exact List.mem_append_right _ (List.mem_append_right _ hq)
theorem lw_row {d : GD} {g : GS} {R : List (Addr × Obj)} {k1 k2 k3 k4 : Addr × Obj} {n : Int} (h : In3 n) : ∀ q ∈ [k3, (d.rows, d.oS), ((g.RB n).r, (g.RB n).o)], q ∈ gA d g ++ (k1 :: k2 :: k3 :: k4 :: R) :=
  sub_cons (rest_in _ mm2) (sub_cons (.tail _ mm4) (sub_cons (List.mem_append_left _ (List.mem_append_right _ (List.mem_append_right _ (List.mem_append_right _ (List.mem_append_left _ (led3b_mem (f := goLb) h _ (.head _))))))) fun _ h => nomatch h))
theorem lw_port {d : GD} {g : GS} {R : List (Addr × Obj)} {k1 k2 k3 k4 : Addr × Obj} {n : Int} (h : In3 n) : ∀ q ∈ [k1, (d.c.P, instObj 187 d.c.dP), (d.c.dP, d.c.d g.C), (d.c.R, d.oR), ((g.PB n).p, instObj 76 (g.PB n).dp), ((g.PB n).dp, portD (g.PB n).kp n (g.PB n).tn (g.PB n).spd (g.PB n).x.up (g.PB n).fv (g.PB n).mtu)], q ∈ gA d g ++ (k1 :: k2 :: k3 :: k4 :: R) :=
  sub_cons (rest_in _ mm0) (sub_cons mm0 (sub_cons mm1 (sub_cons mm2 (sub_cons (List.mem_append_left _ (List.mem_append_right _ (List.mem_append_right _ (List.mem_append_left _ (led3b_mem (f := PBlk.led) h _ mm0))))) (sub_cons (List.mem_append_left _ (List.mem_append_right _ (List.mem_append_right _ (List.mem_append_left _ (led3b_mem (f := PBlk.led) h _ mm1))))) fun _ h => nomatch h)))))
theorem lw_pne {w : World} {d : GD} {g : GS} {R : List (Addr × Obj)} {K : Nat} {now n : Int} (G : LG w d g R K now) (h : In3 n) : (g.PB n).p ≠ (g.PB n).dp ∧ d.c.P ≠ d.c.dP := by
  have S := G.1.sep
  have S1 := (sep_append.mp (sep_append.mp (sep_append.mp S).2).2).1
  have S2 := (sep_append.mp (S1.perm (led3_perm (fun n => PBlk.led n (g.PB n)) h))).1
  exact ⟨Ne.symm (off_cons.mp (sep_c S2).1).1, Ne.symm (off_cons.mp (sep_c S).1).1⟩
end
section
/-- a made function that raises an exception of one of the two classes -/
def RefsX (w : World) (news : List (Addr × Obj)) (v : Value) : Prop := ∃ f fo fd C, v = .ref f ∧ (C = 44 ∨ C = 56) ∧ (f, fo) ∈ news ∧ fo.data = .func fd ∧ ∀ news', (∀ q ∈ news, q ∈ news') → SpecX 7 w f [] news' C
open LCg LCt in
theorem rest_none {prog : Program} {w : World} {A : Around} {h₀ : Heap} {L : Addr} {m : Str → Option Value} {env : Env} {ct elt : PySem.Expr} {x : Str} {scope : Scope} {cl : List (Str × Addr)} {s : Shared} {S : List (Addr × Obj) → Prop} {Fin : List Value → List (Addr × Obj) → Prop}
    {news : List (Addr × Obj)} {vs : List Value} (P : Value → Prop) (hvs : ∀ v ∈ vs, P v) (hS : S news)
    (turn : ∀ v I oI C oC D m₂ h tk (E' : Value → Shared → Prop), P v → NsObj oC m₂ → m₂ x = some v → Fr h₀ L h m → News h₀ L h ((I, oI) :: (C, oC) :: (D, lst []) :: news) → Off3 I C D news → ((@Ne Nat I C) ∧ (@Ne Nat I D) ∧ (@Ne Nat C D)) →
      wpAny (model prog w) A (isTrue ct (compEnvC scope cl C env) (eval ct (compEnvC scope cl C env))) (TestEnd h₀ L m { s with heap := h, toks := tk } ((I, oI) :: (C, oC) :: (D, lst []) :: news) false) E' { s with heap := h, toks := tk })
    (fin : Fin [] news) :
    CompRestT prog w A h₀ L m env ct elt x scope cl s S (fun i v => vs.toArray[i]? = some v) Fin vs.toArray.size 0 [] news := by
  have main : ∀ k i, CompRestT prog w A h₀ L m env ct elt x scope cl s S (fun i v => vs.toArray[i]? = some v) Fin k i [] news := by
    intro k
    induction k with
    | zero => exact fun _ => fin
    | succ k ih =>
      intro i v I oI C oC D m₂ h tk E' hv hC hx F N off ne
      have hv2 : v ∈ vs := by
        have h2 : vs.toArray[i]? = some v := hv
        rw [List.getElem?_toArray] at h2
        exact List.mem_of_getElem? h2
      refine wpAny_mono (turn v I oI C oC D m₂ h tk E' (hvs v hv2) hC hx F N off ne) ?_ fun _ _ e => e
      rintro ok s' ⟨rfl, h', tk', rfl, F', N'⟩
      rw [if_neg Bool.false_ne_true]
      exact CompEnd.intro F' N' news (fun _ h => h) off hS (ih (i + 1))
  exact main _ 0
open LCg LCt in
theorem rest_refs {prog : Program} {w : World} {A : Around} {h₀ : Heap} {L : Addr} {m : Str → Option Value} {env : Env} {ct elt : PySem.Expr} {x : Str} {scope : Scope} {cl : List (Str × Addr)} {s : Shared} {S : List (Addr × Obj) → Prop} {Fin : List Value → List (Addr × Obj) → Prop}
    {news : List (Addr × Obj)} {vs : List Value} (hvs : ∀ v ∈ vs, RefsX w news v) (hS : S news)
    (turn : ∀ v I oI C oC D m₂ h tk (E' : Value → Shared → Prop), RefsX w news v → NsObj oC m₂ → m₂ x = some v → Fr h₀ L h m → News h₀ L h ((I, oI) :: (C, oC) :: (D, lst []) :: news) → Off3 I C D news → ((@Ne Nat I C) ∧ (@Ne Nat I D) ∧ (@Ne Nat C D)) →
      wpAny (model prog w) A (isTrue ct (compEnvC scope cl C env) (eval ct (compEnvC scope cl C env))) (TestEnd h₀ L m { s with heap := h, toks := tk } ((I, oI) :: (C, oC) :: (D, lst []) :: news) false) E' { s with heap := h, toks := tk })
    (fin : Fin [] news) :
    CompRestT prog w A h₀ L m env ct elt x scope cl s S (fun i v => vs.toArray[i]? = some v) Fin vs.toArray.size 0 [] news := rest_none (RefsX w news) hvs hS turn fin
end
section
example : True := by
  k_with_none
  k_with "K_ALL" => (first | assumption | exact List.forall_mem_nil _ | (refine' off_as 0 ?h8 ?m8; (case h8 => assumption); (case m8 => k_dflt (exact rfl))) | (refine' lt_as 0 ?h7 ?m7; (case h7 => assumption); (case m7 => k_dflt (exact rfl))) | (refine' off_c ?a9 ?b9; (case a9 => k_ne); (case b9 => k_all)) | (refine' List.forall_mem_cons.mpr ⟨?a, ?b⟩; (case a => k_ne); (case b => k_all)) | (refine' lt_off ?h9 ?m9; (case h9 => assumption); (case m9 => intro q9 hq9; (repeat (first | exact hq9 | refine List.Mem.tail _ ?_)))) | (refine' off_sub ?h9 ?m9; (case h9 => assumption); (case m9 => intro q9 hq9; (repeat (first | exact hq9 | refine List.Mem.tail _ ?_)))))
  k_with "K_NE" => (first | assumption | exact Ne.symm (by assumption) | (refine' lt_ne ?h9 ?m9; (case h9 => assumption); (case m9 => k_mem)) | (refine' lt_ne' ?h9 ?m9; (case h9 => assumption); (case m9 => k_mem)) | (refine' off_ne ?h9 ?m9; (case h9 => assumption); (case m9 => k_mem)) | (refine' off_ne' ?h9 ?m9; (case h9 => assumption); (case m9 => k_mem)) | (refine' lt_ne1 ?h9 ?m9; (case h9 => assumption); (case m9 => k_mem)) | (refine' lt_ne1' ?h9 ?m9; (case h9 => assumption); (case m9 => k_mem)) | (refine' lt_ne2 ?h9 ?m9; (case h9 => assumption); (case m9 => k_mem)) | (refine' lt_ne2' ?h9 ?m9; (case h9 => assumption); (case m9 => k_mem)) | (refine' lt_ne3 ?h9 ?m9; (case h9 => assumption); (case m9 => k_mem)) | (refine' lt_ne3' ?h9 ?m9; (case h9 => assumption); (case m9 => k_mem)) | (refine neN ?_; (try dsimp only); omega))
  k_with "K_MEM" => (first | with_reducible assumption | exact mm0 | exact mm1 | exact mm2 | exact mm3 | exact mm4 | exact mm5 | exact mm6 | exact mm7 | exact mm8 | exact mm9 | exact mm10 | exact mm11 | exact mm12 | ((repeat (first | with_reducible assumption | exact List.Mem.head _ | (refine mem_in ?_; with_reducible assumption) | refine' List.Mem.tail _ ?_)); done))
  k_with "K_SUB" => (first | exact hq | exact md1 hq | exact md2 hq | exact md3 hq | exact md4 hq | exact md5 hq | exact md6 hq | exact md7 hq | exact md8 hq | exact md9 hq | exact md10 hq | exact md11 hq | exact md12 hq | exact md13 hq | exact md14 hq | (repeat (first | exact hq | refine List.Mem.tail _ ?_)))
  k_with "ENTER" => (first | (refine' code_def ?k1 ?k2 ?k3 ?k4 ?k5 ?kA ?kF ?kK ?k6 ?k7 ?k8 ?k9 ?kB ?_ ?c2 ?c3 ?c4 ?c5; (case kA => exact rfl); (case kF => exact rfl); (case kK => first | assumption | exact rfl); (case k1 => k_asm); (case k2 => k_asm); (case k3 => k_asm); (case k4 => k_asm); (case k5 => k_asm); (case k6 => k_is); (case k7 => k_is); (case k8 => k_room); (case k9 => first | exact BindsTo.of_eq rfl | exact binds_K (by k_in) rfl (by k_is) rfl rfl rfl); (case c5 => decide); (case kB => exact locs rfl); (case c2 => exact rfl); (case c3 => exact rfl); (case c4 => exact rfl); k_whole; intro g' L' h' FG' F' N' B' X' T'; (try dsimp only); (try k_lift B'); (try k_fold)) | (refine' code_defC ?k1 ?k2 ?k3 ?k4 ?k5 ?kA ?kF ?kK ?k6 ?k7 ?k8 ?k9 ?kB ?kD ?_ ?c2 ?c3 ?c4; (case kA => exact rfl); (case kF => exact rfl); (case kK => first | assumption | exact rfl); (case k1 => k_asm); (case k2 => k_asm); (case k3 => k_asm); (case k4 => k_asm); (case k5 => k_asm); (case k6 => k_is); (case k7 => k_is); (case k8 => k_room); (case k9 => first | exact BindsTo.of_eq rfl | exact binds_K (by k_in) rfl (by k_is) rfl rfl rfl); (case kB => exact rfl); (case kD => decide +kernel); (case c2 => exact rfl); (case c3 => exact rfl); (case c4 => exact rfl); k_whole; intro g' L' h' tk' cells' FG' F' N' Y' B' X' T' l1; (try k_lt l1); k_cells Y'; (try simp only [List.cons_append, List.nil_append] at N'); (try dsimp only); (try k_lift B'); (try k_fold)))
  k_with "X FinE" => (((unfold LCg.FinE); intro D' h' tk' F' N' o1'; (have oD' := off_of_off1 o1'); (clear o1'); (try simp only [List.nil_append, List.cons_append] at N'); (try dsimp only)))
  k_with "X ALC" => ((k_here; with_reducible refine plainObj_wpAny_Assign_Attribute ?_ ?_; rotate_left; with_unfolding_all rfl))
  k_with "X FinA" => ((unfold LCg.FinA); intro upsA h' tk' F' N' o1'; (have oU := off_of_off1 o1'); (clear o1'); (try simp only [List.nil_append, List.cons_append] at N'); (try dsimp only))
  k_with "X FOR" => ((k_here; (rename Fr _ _ _ _ => lF'); (with_unfolding_all refine' For_invVF lF' ?k1 ?k2 ?_; (case k1 => exact rfl); (case k2 => exact rfl); k_whole)))
  k_with "K_ROOM" => (first | k_dflt (first | exact room_0 hd | exact room_of 1 hd | exact room_of 2 hd | exact room_of 3 hd | exact room_of 4 hd | exact room_of 5 hd | exact room_of 6 hd | exact room_of 7 hd | exact room_of 8 hd) | ktr_room)
  k_with "K_UNITS" => (first | k_dflt (first | exact units_of 103 hu | exact units_of 303 hu | exact units_of 203 hu | exact units_of 67 hu | exact units_of 503 hu | exact units_of 403 hu) | ktr_units)
  k_with "binaryOp Add ref ref" => (k_here; (with_reducible show wpAny _ _ (binaryOp _ (Value.ref _) (Value.ref _)) _ _ _); k_dflt (refine' addl_at ?k1 ?k2 ?k3 ?k4 ?k5 ?k6 ?_; (case k1 => k_asm); (case k2 => k_asm); (case k3 => k_mem); (case k4 => k_mem); (case k5 => first | assumption | decide | (simp only [List.length_cons, List.length_nil]; omega)); (case k6 => first | assumption | decide | (simp only [List.length_cons, List.length_nil]; omega)); k_whole); intro l' h' F' N' l1; (try k_lt l1); (try k_sweep))
  k_with "CompSrcT" => (k_here; k_dflt (refine LCt.CompSrcT.ledger (by rfl) (by k_asm) (by k_asm) (by k_mem) (by rw [sizeLine_eq, List.size_toArray]; omega) ?_); intro g'; k_dflt (refine' rest_filter _ ?hf ?hi ?hS (fun i9 t9 I9 oI9 C9 oC9 D9 ys9 m9 h' tk9 E9 hi9 hC9 hx9 F' N' off9 ne9 => ?_) (fun ys9 hys9 => ?_); (case hf => assumption); (case hi => assumption); (case hS => exact Or.inr ⟨_, by k_mem, rfl, _, rfl⟩)); (try k_fold))
  k_with "TestEnd" => (refine TestEnd.intro ?_ (by k_asm) (by k_asm); rfl)
  k_with "call builtin:len cons nil" => (k_here; (with_reducible show wpAny _ _ (call (Value.builtin "len") [Value.ref _]) _ _ _); k_dflt (refine' len_filt ?k1 ?k2 ?k3 ?k4 ?k5 ?_; (case k1 => k_asm); (case k2 => k_mem); (case k3 => assumption); (case k4 => assumption); (case k5 => assumption); k_whole))
  k_with "subscriptTail Attribute Name Name ref int" => (k_here; (with_reducible show wpAny _ _ (subscriptTail _ _ (Value.ref _) (Value.int _ _)) _ _ _); (try (k_dflt (refine kba_turn (value' := PySem.Expr.Name (PySem.Str.ofString "_") ⟨0, 0, 0, 0⟩) (fun _ => rfl) ?_))); k_dflt (refine' kda_item (knd := PySem.intKind _ _) ?N ?m ?d (intKind_is _ _ _ _) ?l ?_; (case N => k_asm); (case m => k_mem); (case d => assumption); (case l => assumption); k_whole))
  k_with "subscriptTail Name Name ref int" => (k_here; (with_reducible show wpAny _ _ (subscriptTail _ _ (Value.ref _) (Value.int _ _)) _ _ _); (try (k_dflt (refine kba_turn (value' := PySem.Expr.Name (PySem.Str.ofString "_") ⟨0, 0, 0, 0⟩) (fun _ => rfl) ?_))); k_dflt (refine' kda_item (knd := PySem.intKind _ _) ?N ?m ?d (intKind_is _ _ _ _) ?l ?_; (case N => k_asm); (case m => k_mem); (case d => assumption); (case l => assumption); k_whole))
  k_with "compareOp NotIn int ref" => (k_here; k_dflt (refine' kdg_notin (knd := PySem.intKind _ _) ?N ?m ?d ?lo (intKind_is _ _ _ _) true ?hb ?_; (case N => k_asm); (case m => k_mem); (case d => assumption); (case lo => assumption); (case hb => assumption); k_whole))
  k_with "call builtin:list.append nil" => (k_here; k_dflt (refine' append_at ?k1 ?k2 ?k3 ?k4 ?_; (case k1 => k_asm); (case k2 => k_asm); (case k3 => k_updF); (case k4 => first | assumption | exact filt_len (by assumption) (by assumption) (by assumption)); k_whole); intro h' F' N'; (try dsimp only at N'); (try k_sweep))
  k_with "call builtin:list.append cons nil" => (k_here; k_dflt (refine' append_at ?k1 ?k2 ?k3 ?k4 ?_; (case k1 => k_asm); (case k2 => k_asm); (case k3 => k_updF); (case k4 => first | assumption | exact filt_len (by assumption) (by assumption) (by assumption)); k_whole); intro h' F' N'; (try dsimp only at N'); (try k_sweep))
  k_with "call builtin:sorted cons nil" => (k_here; (with_reducible show wpAny _ _ (call (Value.builtin "sorted") [Value.ref _]) _ _ _); k_dflt (refine' sorted_at rfl ?k1 ?k2 ?k3 ?k4 ?k5 ?_; (case k1 => k_asm); (case k2 => k_asm); (case k3 => k_mem); (case k4 => assumption); (case k5 => assumption); k_whole); intro B' h' tk9 t3' t1' t2' F' N' l1; (try k_lt l1))
  exact trivial
example : True := by
  k_with "call ref cons nil" => (k_here; (with_reducible show wpAny _ _ (call (Value.ref 205) _) _ _ _); k_dflt (refine' take_use ?k1 ?k2 ?k3 ?k4 ?k5 ?k6 ?k7 ?k8 ?k9 ?k10 ?k11 ?k12 ?k13 ?_; (case k1 => k_asm); (case k2 => k_asm); (case k3 => k_asm); (case k4 => k_asm); (case k5 => k_updF); (case k6 => k_asm); (case k7 => first | exact rfl | assumption); (case k8 => assumption); (case k9 => assumption); (case k10 => decide); (case k11 => decide); (case k12 => k_room); (case k13 => k_units); k_whole); intro i9 t9 x9 tx9 y9 ty9 h' tk9 hi9 hi9' hx9 hy9 F' N'; (have hT9 := TakeFact.mk hi9 hi9'); (clear hi9 hi9'); (try dsimp only at N'); (try dsimp only); (try k_fold))
  k_with "subscriptTail Name Constant ref int" => (k_here; (with_reducible show wpAny _ _ (subscriptTail _ _ (Value.ref _) (Value.int _ _)) _ _ _); k_dflt (refine' item_tupleT ?t ?a ?b ?c ?d ?_; (case t => exact News.isTup (by k_asm) (by k_mem)); (case a => decide); (case b => decide); (case c => rfl); (case d => rfl); k_whole))
  k_with "compareOp In int ref" => (k_here; k_dflt (refine in_list_ints (News.isList (by k_asm) (by k_mem)) (by assumption) ?_))
  k_with "X CST" => (k_here; k_dflt (refine LCt.CompSrcT.ledger (by rfl) (by k_asm) (by k_asm) (by k_mem) (by exact Nat.le_of_ble_eq_true rfl) ?_); intro g'; k_dflt (refine' rest_take (src := src) (vs := [.int 1 _, .int 2 _, .int 3 _]) ?hi1 ?U1 ?hax1 ?hne1 rfl ?hx1 ?hy1 (fun i9 t9 I9 oI9 C9 oC9 D9 ys9 x9 tx9 y9 ty9 m9 h' tk9 E9 hx9 hy9 hC9 hm9 F' N' oI oC oD ne9 => ?_) (fun ys9 us9 x8 tx8 y8 ty8 hu9 hl9 hx8 hy8 => ?_); (case hi1 => exact .cons _ _ (.cons _ _ (.cons _ _ .nil))); (case U1 => k_updF); (case hax1 => k_mem); (case hne1 => k_ne); (case hx1 => assumption); (case hy1 => assumption)); (try dsimp only at *); (try k_fold))
  k_with "TakeEnd" => (k_dflt ((refine' TakeEnd.intro ?hx2 ?hy2 ?F2 ?N2 ?e2); (case F2 => k_asm); (case N2 => k_asm); (case e2 => exact rfl); (case hx2 => assumption); (case hy2 => assumption)))
  exact trivial
theorem int_mem3 {v : Value} {a b c : Int} {s t u : Tok} (h : v ∈ [Value.int a s, .int b t, .int c u]) : ∃ i w, v = .int i w := by
  rcases List.mem_cons.mp h with rfl | h
  · exact ⟨_, _, rfl⟩
  · rcases List.mem_cons.mp h with rfl | h
    · exact ⟨_, _, rfl⟩
    · exact ⟨_, _, List.mem_singleton.mp h⟩
theorem ne57 {a : Nat} (h : (257 : Nat) < a) : a + 1 ≠ 257 := fun e => Nat.lt_irrefl _ (Nat.lt_of_lt_of_le h (e ▸ Nat.le_succ a))
theorem all_lt {l : List (Addr × Obj)} {c f : Addr} {o : Obj} (h1 : ∀ q ∈ l, q.1 < c) (h2 : c < f) : ∀ q ∈ (c, o) :: l, q.1 < f := List.forall_mem_cons.mpr ⟨h2, fun q hq => Nat.lt_trans (h1 q hq) h2⟩
theorem step_mem {v : Value} {s t u r x : Tok} (h : v ∈ [Value.int 0 s, .int 1 t, .int 1 u, .int 2 r, .int 4 x]) : ∃ i w, 0 ≤ i ∧ v = .int i w := by
  rcases List.mem_cons.mp h with rfl | h
  · exact ⟨0, _, by decide, rfl⟩
  · rcases List.mem_cons.mp h with rfl | h
    · exact ⟨1, _, by decide, rfl⟩
    · rcases List.mem_cons.mp h with rfl | h
      · exact ⟨1, _, by decide, rfl⟩
      · rcases List.mem_cons.mp h with rfl | h
        · exact ⟨2, _, by decide, rfl⟩
        · exact ⟨4, _, by decide, List.mem_singleton.mp h⟩
theorem most_mem {v : Value} {s t u : Tok} (h : v ∈ [Value.none, Value.int 1 s, .int 2 t, .int 3 u]) : ∃ m, HeldV v m := by
  rcases List.mem_cons.mp h with rfl | h
  · exact ⟨_, .none⟩
  · obtain ⟨i, w, rfl⟩ := int_mem3 h
    exact ⟨_, .int i w⟩
theorem law_ok : PySem.Challenge.rw_pb0539_01.Holds := by
  refine hd (by rfl) (by rfl) (by rfl) ?_
  k_go0
  all_goals (try k_fold)
  rename Shared => s1
  repeat' ((fail_if_success (with_reducible show wpAny _ _ (call (Value.ref 255) _) _ _ _)); (fail_if_success (with_reducible show wpAny _ _ (pyIter (Value.ref _)) (fun it s₂ => LoopAtV _ _ _ _ _ _ _ _ _ it s₂) _ _)); first | (k_unfold; (try dsimp only)) | (k_end; wrow_close) | walk1 | (dsimp only; walk1) | (leave1; try dsimp only))
  rename News _ _ _ _ => N9
  refine' Spec.use (fixed_spec _ _) ?B1 ?F1 ?X1 N9 (fun q hq => hq) ?T1 ?hk1 ?hd1 ?hu1 ?ret1
  case B1 => assumption
  case F1 => assumption
  case X1 => assumption
  case T1 => assumption
  case hk1 => first | exact rfl | assumption
  case hd1 => k_room
  case hu1 => k_units
  rintro r nx h' tk' ⟨rfl, rfl⟩ F' N'
  repeat' ((fail_if_success (with_reducible show wpAny _ _ (call (Value.ref 198) _) _ _ _)); (fail_if_success (with_reducible show wpAny _ _ (call (Value.ref 212) _) _ _ _)); (fail_if_success (with_reducible show wpAny _ _ (call (Value.ref 187) _) _ _ _)); (fail_if_success (with_reducible show wpAny _ _ (call (Value.ref 224) _) _ _ _)); (fail_if_success (with_reducible show wpAny _ _ (call (Value.ref 135) _) _ _ _)); (fail_if_success (with_reducible show wpAny _ _ (call (Value.ref 248) _) _ _ _)); (fail_if_success (with_reducible show wpAny _ _ (call (Value.ref 76) _) _ _ _)); (fail_if_success (with_reducible show wpAny _ _ (call (Value.ref 142) _) _ _ _)); (fail_if_success (with_reducible show wpAny _ _ (call (Value.ref 149) _) _ _ _)); (fail_if_success (with_reducible show wpAny _ _ (pyIter (Value.ref _)) (fun it s₂ => LoopAtV _ _ _ _ _ _ _ _ _ it s₂) _ _)); first | (k_unfold; (try dsimp only)) | (k_end; wrow_close) | walk1 | (dsimp only; walk1) | (leave1; try dsimp only))
  have h257 : (257 : Nat) < s1.heap.objs.size := (show ∀ p ∈ [((257 : Nat), (tabObj #[] : Obj))], p.1 < s1.heap.objs.size by assumption) _ (.head _)
  refine' law_loop (257, tabObj #[]) (by assumption) rfl (by assumption) ?lhb (by assumption) (by assumption) ⟨by assumption, by assumption, by assumption⟩ ?lhs ?lhm ?ltn ?ldn
  case lhb => exact mm_range _
  case lhs => refine sep3i (off_c ?_ (off_c ?_ (off_c ?_ off_nil))) (off_c ?_ (off_c ?_ off_nil)) (off_c ?_ off_nil) <;> first | k_ne | exact ne57 h257 | exact ne57 (Nat.lt_succ_of_lt h257) | exact ne57 (Nat.lt_succ_of_lt (Nat.lt_succ_of_lt h257))
  case lhm => exact rfl
  case ltn =>
    intro i t c1 c2 c3 o1 o2 o3 R u h tk hi hd hS F' N'
    obtain ⟨d1, d2, d3⟩ := hd
    obtain ⟨q_e3, q_e2, q_e1⟩ := sep3o hS
    (try k_fold)
    repeat' ((fail_if_success (with_reducible show wpAny _ _ (call (Value.ref 198) _) _ _ _)); (fail_if_success (with_reducible show wpAny _ _ (call (Value.ref 212) _) _ _ _)); (fail_if_success (with_reducible show wpAny _ _ (call (Value.ref 187) _) _ _ _)); (fail_if_success (with_reducible show wpAny _ _ (call (Value.ref 224) _) _ _ _)); (fail_if_success (with_reducible show wpAny _ _ (call (Value.ref 135) _) _ _ _)); (fail_if_success (with_reducible show wpAny _ _ (call (Value.ref 248) _) _ _ _)); (fail_if_success (with_reducible show wpAny _ _ (call (Value.ref 76) _) _ _ _)); (fail_if_success (with_reducible show wpAny _ _ (call (Value.ref 142) _) _ _ _)); (fail_if_success (with_reducible show wpAny _ _ (call (Value.ref 149) _) _ _ _)); (fail_if_success (with_reducible show wpAny _ _ (pyIter (Value.ref _)) (fun it s₂ => LoopAtV _ _ _ _ _ _ _ _ _ it s₂) _ _)); first | (k_unfold; (try dsimp only)) | (k_end; wrow_close) | walk1 | (dsimp only; walk1) | (leave1; try dsimp only))
    rename News _ _ _ _ => N9
    refine' SpecB.use (pool_spec _ _ _ ?hns _ _ ?h0 ?h1 _) ?hl ?hi ?B ?F ?X N9 (fun q hq => hq) ?T ?hk ?hd ?hu ?ret
    case hl => assumption
    case hi => assumption
    case B => assumption
    case F => assumption
    case X => assumption
    case T => assumption
    case hk => first | exact rfl | assumption
    case hd => k_room
    case hu => k_units
    case hns => omega
    case h0 => omega
    case h1 => omega
    rintro r nx h' tk' ⟨src, x, tx, y, ty, ns, rfl, ls, hx, hy, rfl⟩ F' N'
    repeat' ((fail_if_success (with_reducible show wpAny _ _ (call (Value.ref 198) _) _ _ _)); (fail_if_success (with_reducible show wpAny _ _ (call (Value.ref 212) _) _ _ _)); (fail_if_success (with_reducible show wpAny _ _ (call (Value.ref 187) _) _ _ _)); (fail_if_success (with_reducible show wpAny _ _ (call (Value.ref 224) _) _ _ _)); (fail_if_success (with_reducible show wpAny _ _ (call (Value.ref 135) _) _ _ _)); (fail_if_success (with_reducible show wpAny _ _ (call (Value.ref 248) _) _ _ _)); (fail_if_success (with_reducible show wpAny _ _ (call (Value.ref 76) _) _ _ _)); (fail_if_success (with_reducible show wpAny _ _ (call (Value.ref 142) _) _ _ _)); (fail_if_success (with_reducible show wpAny _ _ (call (Value.ref 149) _) _ _ _)); (fail_if_success (with_reducible show wpAny _ _ (pyIter (Value.ref _)) (fun it s₂ => LoopAtV _ _ _ _ _ _ _ _ _ it s₂) _ _)); first | (k_unfold; (try dsimp only)) | (k_end; wrow_close) | walk1 | (dsimp only; walk1) | (leave1; try dsimp only))
    refine' one_use ?Bo1 ?Fo1 ?Xo1 ?No1 ?Uo1 ?To1 ?hko1 ?hmo1 ?hlo1 ?hxo1 ?hyo1 ?h1o1 ?h2o1 ?hdo1 ?huo1 ?reto1
    case No1 => assumption
    case Bo1 => assumption
    case Fo1 => assumption
    case Xo1 => assumption
    case To1 => assumption
    case hko1 => first | exact rfl | assumption
    case hdo1 => k_room
    case huo1 => k_units
    case hmo1 => k_mem
    case Uo1 => k_updF
    case hlo1 => k_ne
    case hxo1 => assumption
    case hyo1 => assumption
    case h1o1 => exact Nat.le_of_ble_eq_true rfl
    case h2o1 => exact Nat.le_of_ble_eq_true rfl
    intro mv x1 tx1 y1 ty1 h' tk' hmv hx1 hy1 F' N'
    try k_fold
    repeat' ((fail_if_success (with_reducible show wpAny _ _ (call (Value.ref 198) _) _ _ _)); (fail_if_success (with_reducible show wpAny _ _ (call (Value.ref 212) _) _ _ _)); (fail_if_success (with_reducible show wpAny _ _ (call (Value.ref 187) _) _ _ _)); (fail_if_success (with_reducible show wpAny _ _ (call (Value.ref 224) _) _ _ _)); (fail_if_success (with_reducible show wpAny _ _ (call (Value.ref 135) _) _ _ _)); (fail_if_success (with_reducible show wpAny _ _ (call (Value.ref 248) _) _ _ _)); (fail_if_success (with_reducible show wpAny _ _ (call (Value.ref 76) _) _ _ _)); (fail_if_success (with_reducible show wpAny _ _ (call (Value.ref 142) _) _ _ _)); (fail_if_success (with_reducible show wpAny _ _ (call (Value.ref 149) _) _ _ _)); (fail_if_success (with_reducible show wpAny _ _ (pyIter (Value.ref _)) (fun it s₂ => LoopAtV _ _ _ _ _ _ _ _ _ it s₂) _ _)); first | (k_unfold; (try dsimp only)) | (k_end; wrow_close) | walk1 | (dsimp only; walk1) | (leave1; try dsimp only))
    refine' one_use ?Bo2 ?Fo2 ?Xo2 ?No2 ?Uo2 ?To2 ?hko2 ?hmo2 ?hlo2 ?hxo2 ?hyo2 ?h1o2 ?h2o2 ?hdo2 ?huo2 ?reto2
    case No2 => assumption
    case Bo2 => assumption
    case Fo2 => assumption
    case Xo2 => assumption
    case To2 => assumption
    case hko2 => first | exact rfl | assumption
    case hdo2 => k_room
    case huo2 => k_units
    case hmo2 => k_mem
    case Uo2 => k_updF
    case hlo2 => k_ne
    case hxo2 => assumption
    case hyo2 => assumption
    case h1o2 => exact Nat.le_of_ble_eq_true rfl
    case h2o2 => exact Nat.le_of_ble_eq_true rfl
    intro sp x2 tx2 y2 ty2 h' tk' hsp hx2 hy2 F' N'
    try k_fold
    repeat' ((fail_if_success (with_reducible show wpAny _ _ (call (Value.ref 198) _) _ _ _)); (fail_if_success (with_reducible show wpAny _ _ (call (Value.ref 212) _) _ _ _)); (fail_if_success (with_reducible show wpAny _ _ (call (Value.ref 187) _) _ _ _)); (fail_if_success (with_reducible show wpAny _ _ (call (Value.ref 224) _) _ _ _)); (fail_if_success (with_reducible show wpAny _ _ (call (Value.ref 135) _) _ _ _)); (fail_if_success (with_reducible show wpAny _ _ (call (Value.ref 248) _) _ _ _)); (fail_if_success (with_reducible show wpAny _ _ (call (Value.ref 76) _) _ _ _)); (fail_if_success (with_reducible show wpAny _ _ (call (Value.ref 142) _) _ _ _)); (fail_if_success (with_reducible show wpAny _ _ (call (Value.ref 149) _) _ _ _)); (fail_if_success (with_reducible show wpAny _ _ (pyIter (Value.ref _)) (fun it s₂ => LoopAtV _ _ _ _ _ _ _ _ _ it s₂) _ _)); first | (k_unfold; (try dsimp only)) | (k_end; wrow_close) | walk1 | (dsimp only; walk1) | (leave1; try dsimp only))
    refine' one_use ?Bo3 ?Fo3 ?Xo3 ?No3 ?Uo3 ?To3 ?hko3 ?hmo3 ?hlo3 ?hxo3 ?hyo3 ?h1o3 ?h2o3 ?hdo3 ?huo3 ?reto3
    case No3 => assumption
    case Bo3 => assumption
    case Fo3 => assumption
    case Xo3 => assumption
    case To3 => assumption
    case hko3 => first | exact rfl | assumption
    case hdo3 => k_room
    case huo3 => k_units
    case hmo3 => k_mem
    case Uo3 => k_updF
    case hlo3 => k_ne
    case hxo3 => assumption
    case hyo3 => assumption
    case h1o3 => exact Nat.le_of_ble_eq_true rfl
    case h2o3 => exact Nat.le_of_ble_eq_true rfl
    intro ho x3 tx3 y3 ty3 h' tk' hho hx3 hy3 F' N'
    try k_fold
    repeat' ((fail_if_success (with_reducible show wpAny _ _ (call (Value.ref 198) _) _ _ _)); (fail_if_success (with_reducible show wpAny _ _ (call (Value.ref 212) _) _ _ _)); (fail_if_success (with_reducible show wpAny _ _ (call (Value.ref 187) _) _ _ _)); (fail_if_success (with_reducible show wpAny _ _ (call (Value.ref 224) _) _ _ _)); (fail_if_success (with_reducible show wpAny _ _ (call (Value.ref 135) _) _ _ _)); (fail_if_success (with_reducible show wpAny _ _ (call (Value.ref 248) _) _ _ _)); (fail_if_success (with_reducible show wpAny _ _ (call (Value.ref 76) _) _ _ _)); (fail_if_success (with_reducible show wpAny _ _ (call (Value.ref 142) _) _ _ _)); (fail_if_success (with_reducible show wpAny _ _ (call (Value.ref 149) _) _ _ _)); (fail_if_success (with_reducible show wpAny _ _ (pyIter (Value.ref _)) (fun it s₂ => LoopAtV _ _ _ _ _ _ _ _ _ it s₂) _ _)); (fail_if_success (with_reducible show wpAny _ _ (newTuple _) _ _ _)); first | (k_unfold; (try dsimp only)) | (k_end; wrow_close) | walk1 | (dsimp only; walk1) | (leave1; try dsimp only))
    rename News _ _ _ _ => N9
    refine kup_newTuple (by assumption) N9 ?_ (by rw [sizeLine_eq]; exact (by decide : 3 ≤ 16777216))
    intro lim h' F' N' llim
    repeat' ((fail_if_success (with_reducible show wpAny _ _ (call (Value.ref 198) _) _ _ _)); (fail_if_success (with_reducible show wpAny _ _ (call (Value.ref 212) _) _ _ _)); (fail_if_success (with_reducible show wpAny _ _ (call (Value.ref 187) _) _ _ _)); (fail_if_success (with_reducible show wpAny _ _ (call (Value.ref 224) _) _ _ _)); (fail_if_success (with_reducible show wpAny _ _ (call (Value.ref 135) _) _ _ _)); (fail_if_success (with_reducible show wpAny _ _ (call (Value.ref 248) _) _ _ _)); (fail_if_success (with_reducible show wpAny _ _ (call (Value.ref 76) _) _ _ _)); (fail_if_success (with_reducible show wpAny _ _ (call (Value.ref 142) _) _ _ _)); (fail_if_success (with_reducible show wpAny _ _ (call (Value.ref 149) _) _ _ _)); (fail_if_success (with_reducible show wpAny _ _ (pyIter (Value.ref _)) (fun it s₂ => LoopAtV _ _ _ _ _ _ _ _ _ it s₂) _ _)); (fail_if_success (with_reducible show wpAny _ _ (exec (Stmt.Assign _ (PySem.Expr.ListComp _ _ _ _) _) _) _ _ _)); first | (k_unfold; (try dsimp only)) | (k_end; wrow_close) | walk1 | (dsimp only; walk1) | (leave1; try dsimp only))
    obtain ⟨most, hmost⟩ := most_mem hmv
    obtain ⟨span, ts, rfl⟩ := int_mem3 hsp
    obtain ⟨hold, th, rfl⟩ := int_mem3 hho
    have N5 := news_drop (news := (lim, { cls := .type "tuple", data := .seq #[mv, .int span ts, .int hold th] }) :: (src, listOf #[.int x3 tx3, .int y3 ty3] ns) :: (s1.heap.objs.size + 1 + 1 + 1, o3) :: (s1.heap.objs.size + 1 + 1, o2) :: (s1.heap.objs.size + 1, _) :: R) (by assumption) (sub_cons mm0 (sub_cons mm4 (sub_cons mm5 (sub_cons mm6 (sub_cons mm7 fun q hq => md8 hq)))))
    (with_reducible show wpAny _ _ (exec _ _) _ _ _)
    repeat' ((fail_if_success (with_reducible show wpAny _ _ (call (Value.ref 198) _) _ _ _)); (fail_if_success (with_reducible show wpAny _ _ (call (Value.ref 212) _) _ _ _)); (fail_if_success (with_reducible show wpAny _ _ (call (Value.ref 187) _) _ _ _)); (fail_if_success (with_reducible show wpAny _ _ (call (Value.ref 224) _) _ _ _)); (fail_if_success (with_reducible show wpAny _ _ (call (Value.ref 135) _) _ _ _)); (fail_if_success (with_reducible show wpAny _ _ (call (Value.ref 248) _) _ _ _)); (fail_if_success (with_reducible show wpAny _ _ (call (Value.ref 76) _) _ _ _)); (fail_if_success (with_reducible show wpAny _ _ (call (Value.ref 142) _) _ _ _)); (fail_if_success (with_reducible show wpAny _ _ (call (Value.ref 149) _) _ _ _)); (fail_if_success (with_reducible show wpAny _ _ (pyIter (Value.ref _)) (fun it s₂ => LoopAtV _ _ _ _ _ _ _ _ _ it s₂) _ _)); first | (k_unfold; (try dsimp only)) | (k_end; wrow_close) | walk1 | (dsimp only; walk1) | (leave1; try dsimp only))
    rename News _ _ _ _ => N9
    refine' Spec.use (ports_g _ mv (HeldV.handed hmost) span hold ts th _) ?B2 ?F2 ?X2 N9 (fun q hq => hq) ?T2 ?hk2 ?hd2 ?hu2 ?ret2
    case B2 => assumption
    case F2 => assumption
    case X2 => assumption
    case T2 => assumption
    case hk2 => first | exact rfl | assumption
    case hd2 => k_room
    case hu2 => k_units
    rintro r nx h' tk' ⟨c, C, oR, oW, nC, rfl, ⟨hcm, hcs, hch⟩, rfl, S5, iR, iW, lR, lW⟩ F' N'
    repeat' ((fail_if_success (with_reducible show wpAny _ _ (call (Value.ref 198) _) _ _ _)); (fail_if_success (with_reducible show wpAny _ _ (call (Value.ref 212) _) _ _ _)); (fail_if_success (with_reducible show wpAny _ _ (call (Value.ref 187) _) _ _ _)); (fail_if_success (with_reducible show wpAny _ _ (call (Value.ref 224) _) _ _ _)); (fail_if_success (with_reducible show wpAny _ _ (call (Value.ref 135) _) _ _ _)); (fail_if_success (with_reducible show wpAny _ _ (call (Value.ref 248) _) _ _ _)); (fail_if_success (with_reducible show wpAny _ _ (call (Value.ref 76) _) _ _ _)); (fail_if_success (with_reducible show wpAny _ _ (call (Value.ref 142) _) _ _ _)); (fail_if_success (with_reducible show wpAny _ _ (call (Value.ref 149) _) _ _ _)); (fail_if_success (with_reducible show wpAny _ _ (pyIter (Value.ref _)) (fun it s₂ => LoopAtV _ _ _ _ _ _ _ _ _ it s₂) _ _)); first | (k_unfold; (try dsimp only)) | (k_end; wrow_close) | walk1 | (dsimp only; walk1) | (leave1; try dsimp only))
    rename News _ _ _ _ => N9
    refine' Spec.use (rows_spec _ _ ys9 us9 ys9.length _ hu9 (by rw [hu9.length]; exact Nat.lt_of_le_of_lt hl9 (by decide))) ?B3 ?F3 ?X3 N9 (sub_cons (List.mem_append_right _ mm0) fun q hq => hq) ?T3 ?hk3 ?hd3 ?hu3 ?ret3
    case B3 => assumption
    case F3 => assumption
    case X3 => assumption
    case T3 => assumption
    case hk3 => first | exact rfl | assumption
    case hd3 => k_room
    case hu3 => k_units
    rintro r nx h' tk' ⟨rowsA, oS, RB, rfl, rfl, SR, iS, hRB⟩ F' N'
    have SA := law_sep (by exact sep_addr hS rfl) (by exact lt_as 0 ls rfl) (by exact lt_as 3 llim rfl) (by exact off_as 1 oU rfl) S5 SR
    obtain ⟨qa3, qa2, qaU, qa1, SA2⟩ := sep4 SA
    obtain ⟨qaR, SA3⟩ := sep_c SA2
    obtain ⟨qaS, SA4⟩ := sep_c SA3
    obtain ⟨qaL, -⟩ := sep_c SA4
    replace N' := news_drop N' law_reorg
    (with_reducible show wpAny _ _ _ _ _ _)
    repeat' ((fail_if_success (with_reducible show wpAny _ _ (call (Value.ref 198) _) _ _ _)); (fail_if_success (with_reducible show wpAny _ _ (call (Value.ref 212) _) _ _ _)); (fail_if_success (with_reducible show wpAny _ _ (call (Value.ref 187) _) _ _ _)); (fail_if_success (with_reducible show wpAny _ _ (call (Value.ref 224) _) _ _ _)); (fail_if_success (with_reducible show wpAny _ _ (call (Value.ref 135) _) _ _ _)); (fail_if_success (with_reducible show wpAny _ _ (call (Value.ref 248) _) _ _ _)); (fail_if_success (with_reducible show wpAny _ _ (call (Value.ref 76) _) _ _ _)); (fail_if_success (with_reducible show wpAny _ _ (call (Value.ref 142) _) _ _ _)); (fail_if_success (with_reducible show wpAny _ _ (call (Value.ref 149) _) _ _ _)); (fail_if_success (with_reducible show wpAny _ _ (pyIter (Value.ref _)) (fun it s₂ => LoopAtV _ _ _ _ _ _ _ _ _ it s₂) _ _)); first | (k_unfold; (try dsimp only)) | (k_end; wrow_close) | walk1 | (dsimp only; walk1) | (leave1; try dsimp only))
    refine' adds_loop (C := C) (c := c) (nC := nC) (us := us9) (x1 := (s1.heap.objs.size + 1 + 1 + 1, _)) (x2 := (upsA, _)) (oR := oR) (oW := oW) [(Str.ofString "script", _), (Str.ofString "limits", .ref lim), (Str.ofString "ups", .ref upsA), (Str.ofString "seen", .ref _), (Str.ofString "now", .int 0 _)] rfl (by assumption) (by assumption) adds_sub ?hl9 (law_sep2 SA (by k_all)) iR iW (fun _ => pb0) ?hp9 ?tr9 ?dn9
    case hl9 => exact lt_off (by assumption) adds_sub2
    case hp9 => refine List.forall_mem_cons.mpr ⟨?_, List.forall_mem_cons.mpr ⟨?_, List.forall_mem_cons.mpr ⟨?_, List.forall_mem_cons.mpr ⟨?_, List.forall_mem_cons.mpr ⟨?_, fun _ h => nomatch h⟩⟩⟩⟩⟩ <;> (dsimp only; exact rfl)
    case tr9 =>
      intro n t oR oW kR kW Bs R u h tk hn lkR lkW vR vW iR iW S F' N'
      (try k_fold)
      replace N' : News _ _ _ ((s1.heap.objs.size + 1 + 1 + 1, _) :: (upsA, _) :: (c.P, instObj 187 c.dP) :: (c.dP, c.d C) :: (c.R, oR) :: (c.W, oW) :: (C, listOf ([] : List Value).toArray nC) :: (Bs ++ R)) := N'
      repeat' ((fail_if_success (with_reducible show wpAny _ _ (call (Value.ref 198) _) _ _ _)); (fail_if_success (with_reducible show wpAny _ _ (call (Value.ref 212) _) _ _ _)); (fail_if_success (with_reducible show wpAny _ _ (call (Value.ref 187) _) _ _ _)); (fail_if_success (with_reducible show wpAny _ _ (call (Value.ref 224) _) _ _ _)); (fail_if_success (with_reducible show wpAny _ _ (call (Value.ref 135) _) _ _ _)); (fail_if_success (with_reducible show wpAny _ _ (call (Value.ref 248) _) _ _ _)); (fail_if_success (with_reducible show wpAny _ _ (call (Value.ref 76) _) _ _ _)); (fail_if_success (with_reducible show wpAny _ _ (call (Value.ref 142) _) _ _ _)); (fail_if_success (with_reducible show wpAny _ _ (call (Value.ref 149) _) _ _ _)); (fail_if_success (with_reducible show wpAny _ _ (pyIter (Value.ref _)) (fun it s₂ => LoopAtV _ _ _ _ _ _ _ _ _ it s₂) _ _)); first | (k_unfold; (try dsimp only)) | (k_end; wrow_close) | walk1 | (dsimp only; walk1) | (leave1; try dsimp only))
      rename News _ _ _ _ => N9
      refine' Spec.use (port_new _ n 1000 _ _ _ _) ?B4 ?F4 ?X4 N9 (fun q hq => hq) ?T4 ?hk4 ?hd4 ?hu4 ?ret4
      case B4 => assumption
      case F4 => assumption
      case X4 => assumption
      case T4 => assumption
      case hk4 => first | exact rfl | assumption
      case hd4 => k_room
      case hu4 => k_units
      rintro r nx h' tk' ⟨p, dp, kp, fv, mtu, rfl, rfl, o1, o2⟩ F' N'
      repeat' ((fail_if_success (with_reducible show wpAny _ _ (call (Value.ref 198) _) _ _ _)); (fail_if_success (with_reducible show wpAny _ _ (call (Value.ref 212) _) _ _ _)); (fail_if_success (with_reducible show wpAny _ _ (call (Value.ref 187) _) _ _ _)); (fail_if_success (with_reducible show wpAny _ _ (call (Value.ref 224) _) _ _ _)); (fail_if_success (with_reducible show wpAny _ _ (call (Value.ref 135) _) _ _ _)); (fail_if_success (with_reducible show wpAny _ _ (call (Value.ref 248) _) _ _ _)); (fail_if_success (with_reducible show wpAny _ _ (call (Value.ref 76) _) _ _ _)); (fail_if_success (with_reducible show wpAny _ _ (call (Value.ref 142) _) _ _ _)); (fail_if_success (with_reducible show wpAny _ _ (call (Value.ref 149) _) _ _ _)); (fail_if_success (with_reducible show wpAny _ _ (pyIter (Value.ref _)) (fun it s₂ => LoopAtV _ _ _ _ _ _ _ _ _ it s₂) _ _)); first | (k_unfold; (try dsimp only)) | (k_end; wrow_close) | walk1 | (dsimp only; walk1) | (leave1; try dsimp only))
      rename News _ _ _ _ => N9
      refine' Spec.use (add_g _ c C p dp kp n t _ fv mtu (upOf us9 n) oR oW kR kW [] nC Bs ((s1.heap.objs.size + 1 + 1 + 1, _) :: (upsA, _) :: R) S (off_sub o1 (add_in1 (H := H5 c C oR oW [] nC))) (off_sub o2 (add_in (H := H5 c C oR oW [] nC))) hn iR iW vR vW lkR lkW lR lW) ?B5 ?F5 ?X5 N9 (add_in2 (H := H5 c C oR oW [] nC)) ?T5 ?hk5 ?hd5 ?hu5 ?ret5
      case B5 => assumption
      case F5 => assumption
      case X5 => assumption
      case T5 => assumption
      case hk5 => first | exact rfl | assumption
      case hd5 => k_room
      case hu5 => k_units
      rintro r nx h' tk' ⟨rfl, b, oR', oW', rfl, S6, rfl, ok0, x0, iR', iW'⟩ F' N'
      repeat' ((fail_if_success (with_reducible show wpAny _ _ (call (Value.ref 198) _) _ _ _)); (fail_if_success (with_reducible show wpAny _ _ (call (Value.ref 212) _) _ _ _)); (fail_if_success (with_reducible show wpAny _ _ (call (Value.ref 187) _) _ _ _)); (fail_if_success (with_reducible show wpAny _ _ (call (Value.ref 224) _) _ _ _)); (fail_if_success (with_reducible show wpAny _ _ (call (Value.ref 135) _) _ _ _)); (fail_if_success (with_reducible show wpAny _ _ (call (Value.ref 248) _) _ _ _)); (fail_if_success (with_reducible show wpAny _ _ (call (Value.ref 76) _) _ _ _)); (fail_if_success (with_reducible show wpAny _ _ (call (Value.ref 142) _) _ _ _)); (fail_if_success (with_reducible show wpAny _ _ (call (Value.ref 149) _) _ _ _)); (fail_if_success (with_reducible show wpAny _ _ (pyIter (Value.ref _)) (fun it s₂ => LoopAtV _ _ _ _ _ _ _ _ _ it s₂) _ _)); first | (k_unfold; (try dsimp only)) | (k_end; wrow_close) | walk1 | (dsimp only; walk1) | (leave1; try dsimp only))
      refine AddTurn.intro (by assumption) ?_ (news_drop (by assumption) (add_out (H := H5 c C oR' oW' [] nC))) S6 rfl ok0 x0 iR' iW'
      exact List.forall_mem_cons.mpr ⟨rfl, List.forall_mem_cons.mpr ⟨rfl, List.forall_mem_cons.mpr ⟨rfl, List.forall_mem_cons.mpr ⟨rfl, List.forall_mem_cons.mpr ⟨rfl, fun _ h => nomatch h⟩⟩⟩⟩⟩
    case dn9 =>
      intro σ u h tk hJ F' N'
      (with_reducible show wpAny _ _ _ _ _ _)
      (try k_fold)
      obtain ⟨d, g, rfl, rfl, rfl, rfl, rfl, rfl, rfl, rfl, D, G, sub⟩ := law_good hJ (law_sep3 SA (by k_all)) hRB iS hmost hcm hcs hch lR hx8 hy8
      clear SA SA2 SA3 SA4 qa3 qa2 qaU qa1 qaR qaS qaL S5 SR hJ
      replace N' := lw_open' N' sub
      obtain ⟨qP, qdP, qrw, qsn, qsr⟩ := lw_seps G
      have hgx := G.1.x0
      have hgy := G.1.y0
      (repeat' ((fail_if_success (with_reducible show wpAny _ _ (call (Value.ref 198) _) _ _ _)); (fail_if_success (with_reducible show wpAny _ _ (call (Value.ref 212) _) _ _ _)); (fail_if_success (with_reducible show wpAny _ _ (call (Value.ref 187) _) _ _ _)); (fail_if_success (with_reducible show wpAny _ _ (call (Value.ref 224) _) _ _ _)); (fail_if_success (with_reducible show wpAny _ _ (call (Value.ref 135) _) _ _ _)); (fail_if_success (with_reducible show wpAny _ _ (call (Value.ref 248) _) _ _ _)); (fail_if_success (with_reducible show wpAny _ _ (call (Value.ref 76) _) _ _ _)); (fail_if_success (with_reducible show wpAny _ _ (call (Value.ref 142) _) _ _ _)); (fail_if_success (with_reducible show wpAny _ _ (call (Value.ref 149) _) _ _ _)); (fail_if_success (with_reducible show wpAny _ _ (pyIter (Value.ref _)) (fun it s₂ => LoopAtV _ _ _ _ _ _ _ _ _ it s₂) _ _)); first | (k_unfold; (try dsimp only)) | (k_end; wrow_close) | walk1 | (dsimp only; walk1) | (leave1; try dsimp only)))
      obtain ⟨g1, G1, sub1⟩ := lw_src (tx := tx9) (ty := ty9) G hx9 hy9
      refine' deeds_loop (g := g1) [(Str.ofString "script", _), (Str.ofString "limits", .ref d.lim), (Str.ofString "seen", .ref d.seen)] rfl (by assumption) ?hb9 (by assumption) (by assumption) sub1 rfl ?hp8 G1 ?tr8 ?dn8
      case hb9 =>
        obtain ⟨h1, h2⟩ := hT9
        exact ⟨Int.le_add_of_nonneg_right h1, by omega⟩
      case hp8 => refine List.forall_mem_cons.mpr ⟨?_, List.forall_mem_cons.mpr ⟨?_, List.forall_mem_cons.mpr ⟨?_, fun _ h => nomatch h⟩⟩⟩ <;> (dsimp only; exact rfl)
      case tr8 =>
        intro i t g2 now tn R2 u h tk hi2 G2 F' N'
        (try k_fold)
        replace N' := lw_open' (R := R ++ R2) N' fun q hq => hq
        obtain ⟨qP, qdP, qrw, qsn, qsr⟩ := lw_seps (R := R ++ R2) G2
        have hgx := G2.1.x0
        have hgy := G2.1.y0
        (repeat' ((fail_if_success (with_reducible show wpAny _ _ (call (Value.ref 198) _) _ _ _)); (fail_if_success (with_reducible show wpAny _ _ (call (Value.ref 212) _) _ _ _)); (fail_if_success (with_reducible show wpAny _ _ (call (Value.ref 187) _) _ _ _)); (fail_if_success (with_reducible show wpAny _ _ (call (Value.ref 224) _) _ _ _)); (fail_if_success (with_reducible show wpAny _ _ (call (Value.ref 135) _) _ _ _)); (fail_if_success (with_reducible show wpAny _ _ (call (Value.ref 248) _) _ _ _)); (fail_if_success (with_reducible show wpAny _ _ (call (Value.ref 76) _) _ _ _)); (fail_if_success (with_reducible show wpAny _ _ (call (Value.ref 142) _) _ _ _)); (fail_if_success (with_reducible show wpAny _ _ (call (Value.ref 149) _) _ _ _)); (fail_if_success (with_reducible show wpAny _ _ (pyIter (Value.ref _)) (fun it s₂ => LoopAtV _ _ _ _ _ _ _ _ _ it s₂) _ _)); first | (k_unfold; (try dsimp only)) | (k_end; wrow_close) | walk1 | (dsimp only; walk1) | (leave1; try dsimp only)))
        refine' one_use ?Bo4 ?Fo4 ?Xo4 ?No4 ?Uo4 ?To4 ?hko4 ?hmo4 ?hlo4 ?hxo4 ?hyo4 ?h1o4 ?h2o4 ?hdo4 ?huo4 ?reto4
        case No4 => assumption
        case Bo4 => assumption
        case Fo4 => assumption
        case Xo4 => assumption
        case To4 => assumption
        case hko4 => first | exact rfl | assumption
        case hdo4 => k_room
        case huo4 => k_units
        case hmo4 => k_mem
        case Uo4 => k_updF
        case hlo4 => k_ne
        case hxo4 => assumption
        case hyo4 => assumption
        case h1o4 => exact Nat.le_of_ble_eq_true rfl
        case h2o4 => exact Nat.le_of_ble_eq_true rfl
        intro st x4 tx4 y4 ty4 h' tk' hst hx4 hy4 F' N'
        (try k_fold)
        obtain ⟨stp, tst, hst0, rfl⟩ := step_mem hst
        obtain ⟨g3, G3, sub3⟩ := lw_src (tx := tx4) (ty := ty4) (R := R ++ R2) G2 hx4 hy4
        (repeat' ((fail_if_success (with_reducible show wpAny _ _ (call (Value.ref 198) _) _ _ _)); (fail_if_success (with_reducible show wpAny _ _ (call (Value.ref 212) _) _ _ _)); (fail_if_success (with_reducible show wpAny _ _ (call (Value.ref 187) _) _ _ _)); (fail_if_success (with_reducible show wpAny _ _ (call (Value.ref 224) _) _ _ _)); (fail_if_success (with_reducible show wpAny _ _ (call (Value.ref 135) _) _ _ _)); (fail_if_success (with_reducible show wpAny _ _ (call (Value.ref 248) _) _ _ _)); (fail_if_success (with_reducible show wpAny _ _ (call (Value.ref 76) _) _ _ _)); (fail_if_success (with_reducible show wpAny _ _ (call (Value.ref 142) _) _ _ _)); (fail_if_success (with_reducible show wpAny _ _ (call (Value.ref 149) _) _ _ _)); (fail_if_success (with_reducible show wpAny _ _ (pyIter (Value.ref _)) (fun it s₂ => LoopAtV _ _ _ _ _ _ _ _ _ it s₂) _ _)); first | (k_unfold; (try dsimp only)) | (k_end; wrow_close) | walk1 | (dsimp only; walk1) | (leave1; try dsimp only)))
        rename News _ _ _ _ => N9
        refine' Spec.use (deed_spec _ d g3 _ i most (now + stp) _ D G3.1 (by omega) G3.2.1 (fun n hn => (G3.2.2 n hn).later (Int.le_add_of_nonneg_right hst0))) ?B6 ?F6 ?X6 N9 (fun q hq => .tail _ (sub3 q hq)) ?T6 ?hk6 ?hd6 ?hu6 ?ret6
        case B6 => assumption
        case F6 => assumption
        case X6 => assumption
        case T6 => assumption
        case hk6 => first | exact rfl | assumption
        case hd6 => k_room
        case hu6 => k_units
        rintro r nx h' tk' ⟨rfl, g4, rfl, G4a, G4b, G4c⟩ F' N'
        have G4 : LG _ d g4 _ (i + 1) (now + stp) := ⟨G4a, G4b, G4c⟩
        have NA := N'
        replace N' := lw_open' (R := R ++ R2) N' fun q hq => hq
        obtain ⟨qP, qdP, qrw, qsn, qsr⟩ := lw_seps (R := R ++ R2) G4
        repeat' ((fail_if_success (with_reducible show wpAny _ _ (call (Value.ref 198) _) _ _ _)); (fail_if_success (with_reducible show wpAny _ _ (call (Value.ref 212) _) _ _ _)); (fail_if_success (with_reducible show wpAny _ _ (call (Value.ref 187) _) _ _ _)); (fail_if_success (with_reducible show wpAny _ _ (call (Value.ref 224) _) _ _ _)); (fail_if_success (with_reducible show wpAny _ _ (call (Value.ref 135) _) _ _ _)); (fail_if_success (with_reducible show wpAny _ _ (call (Value.ref 248) _) _ _ _)); (fail_if_success (with_reducible show wpAny _ _ (call (Value.ref 76) _) _ _ _)); (fail_if_success (with_reducible show wpAny _ _ (call (Value.ref 142) _) _ _ _)); (fail_if_success (with_reducible show wpAny _ _ (call (Value.ref 149) _) _ _ _)); (fail_if_success (with_reducible show wpAny _ _ (pyIter (Value.ref _)) (fun it s₂ => LoopAtV _ _ _ _ _ _ _ _ _ it s₂) _ _)); (fail_if_success (with_reducible show wpAny _ _ (eval (PySem.Expr.ListComp _ _ _ _) _) _ _ _)); first | (k_unfold; (try dsimp only)) | (k_end; wrow_close) | walk1 | (dsimp only; walk1) | (leave1; try dsimp only))
        k_dflt (refine LCg.ListComp_U (F₀ := by k_asm) (by with_unfolding_all rfl) (by decide) (by rfl) (by decide) (by rfl) ?_)
        iterate 3 (first | (k_unfold; (try dsimp only)) | walk1 | (dsimp only; walk1))
        k_dflt (refine' callWith_K0 ?vk1 ?vk2 ?_; (case vk1 => k_in); (case vk2 => k_is); k_whole)
        (refine' Spec.use (num3_spec _ g4.C d.c d.oR _ _ _ D.hR D.hRn _ ?qm1 ?qm2 ?qm3) ?qB ?qF ?qX NA (fun q hq => hq) ?qT ?qhk ?qhd ?qhu ?qret)
        case qm1 => exact mm0
        case qm2 => exact mm1
        case qm3 => exact mm2
        case qB => assumption
        case qF => assumption
        case qX => assumption
        case qT => assumption
        case qhk => first | exact rfl | assumption
        case qhd => k_room
        case qhu => k_units
        clear NA
        rintro r nx h' tk' ⟨B9, v9, nn9, rfl, ⟨t1, t2, t3, rfl⟩, rfl, l9⟩ F' N'
        repeat' ((fail_if_success (with_reducible show wpAny _ _ (call (Value.ref 198) _) _ _ _)); (fail_if_success (with_reducible show wpAny _ _ (call (Value.ref 212) _) _ _ _)); (fail_if_success (with_reducible show wpAny _ _ (call (Value.ref 187) _) _ _ _)); (fail_if_success (with_reducible show wpAny _ _ (call (Value.ref 224) _) _ _ _)); (fail_if_success (with_reducible show wpAny _ _ (call (Value.ref 135) _) _ _ _)); (fail_if_success (with_reducible show wpAny _ _ (call (Value.ref 248) _) _ _ _)); (fail_if_success (with_reducible show wpAny _ _ (call (Value.ref 76) _) _ _ _)); (fail_if_success (with_reducible show wpAny _ _ (call (Value.ref 142) _) _ _ _)); (fail_if_success (with_reducible show wpAny _ _ (call (Value.ref 149) _) _ _ _)); (fail_if_success (with_reducible show wpAny _ _ (pyIter (Value.ref _)) (fun it s₂ => LoopAtV _ _ _ _ _ _ _ _ _ it s₂) _ _)); (fail_if_success (with_reducible show wpAny _ _ (eval (PySem.Expr.ListComp _ _ _ _) _) _ _ _)); (fail_if_success (with_reducible show LCg.CompSrc _ _ _ _ _ _ _ _ _ _ _ _ _ _)); first | (k_unfold; (try dsimp only)) | (k_end; wrow_close) | walk1 | (dsimp only; walk1) | (leave1; try dsimp only))
        (skip)
        refine LCg.CompSrc.ledger (by rfl) (by k_asm) N' (.head _) (by exact Nat.le_of_ble_eq_true rfl) ?_
        intro g'
        refine rest_bools (fun n => (g4.PB n).x.up) (.head _) (fun i9 t9 I9 oI9 C9 oC9 D9 ys9 m9 h' tk9 E9 hi9 hC9 hx9 F' N' oI oC oD ne9 => ?_) ?_
        · have Nc := news_drop (news := (I9, oI9) :: (C9, oC9) :: (D9, LCg.lst ys9) :: _) N' (sub_cons mm0 (sub_cons mm1 (sub_cons mm2 fun q hq => md4 (lw_port (R := R ++ R2) hi9 q hq))))
          obtain ⟨hpn, hPn⟩ := lw_pne G4 hi9
          (repeat' ((fail_if_success (with_reducible show wpAny _ _ (call (Value.ref 198) _) _ _ _)); (fail_if_success (with_reducible show wpAny _ _ (call (Value.ref 212) _) _ _ _)); (fail_if_success (with_reducible show wpAny _ _ (call (Value.ref 187) _) _ _ _)); (fail_if_success (with_reducible show wpAny _ _ (call (Value.ref 224) _) _ _ _)); (fail_if_success (with_reducible show wpAny _ _ (call (Value.ref 135) _) _ _ _)); (fail_if_success (with_reducible show wpAny _ _ (call (Value.ref 248) _) _ _ _)); (fail_if_success (with_reducible show wpAny _ _ (call (Value.ref 76) _) _ _ _)); (fail_if_success (with_reducible show wpAny _ _ (call (Value.ref 142) _) _ _ _)); (fail_if_success (with_reducible show wpAny _ _ (call (Value.ref 149) _) _ _ _)); (fail_if_success (with_reducible show wpAny _ _ (pyIter (Value.ref _)) (fun it s₂ => LoopAtV _ _ _ _ _ _ _ _ _ it s₂) _ _)); first | (k_unfold; (try dsimp only)) | (k_end; wrow_close) | walk1 | (dsimp only; walk1) | (leave1; try dsimp only)))
          refine' port_use (q := (g4.PB i9).p) ?pB1 ?pF1 ?pX1 N' ?pT1 ?phk1 ?phd1 ?phu1 ?pm1 ?pm2 ?pm3 D.hR ?pl1 ?pl2 D.hRn ?pret1
          case pB1 => assumption
          case pF1 => assumption
          case pX1 => assumption
          case pT1 => assumption
          case phk1 => first | exact rfl | assumption
          case phd1 => k_room
          case phu1 => k_units
          case pm1 => exact md4 mm0
          case pm2 => exact md4 mm1
          case pm3 => exact md4 mm2
          case pl1 => (rw [(G4.1.adP i9 hi9).1]; exact val3 hi9)
          case pl2 => rw [val3 hi9]; rfl
          intro h' tk' F' N'
          have Nc := news_drop (news := (I9, oI9) :: (C9, oC9) :: (D9, LCg.lst ys9) :: _) N' (sub_cons mm0 (sub_cons mm1 (sub_cons mm2 fun q hq => md4 (lw_port (R := R ++ R2) hi9 q hq))))
          (repeat' ((fail_if_success (with_reducible show wpAny _ _ (call (Value.ref 198) _) _ _ _)); (fail_if_success (with_reducible show wpAny _ _ (call (Value.ref 212) _) _ _ _)); (fail_if_success (with_reducible show wpAny _ _ (call (Value.ref 187) _) _ _ _)); (fail_if_success (with_reducible show wpAny _ _ (call (Value.ref 224) _) _ _ _)); (fail_if_success (with_reducible show wpAny _ _ (call (Value.ref 135) _) _ _ _)); (fail_if_success (with_reducible show wpAny _ _ (call (Value.ref 248) _) _ _ _)); (fail_if_success (with_reducible show wpAny _ _ (call (Value.ref 76) _) _ _ _)); (fail_if_success (with_reducible show wpAny _ _ (call (Value.ref 142) _) _ _ _)); (fail_if_success (with_reducible show wpAny _ _ (call (Value.ref 149) _) _ _ _)); (fail_if_success (with_reducible show wpAny _ _ (pyIter (Value.ref _)) (fun it s₂ => LoopAtV _ _ _ _ _ _ _ _ _ it s₂) _ _)); first | (k_unfold; (try dsimp only)) | (k_end; wrow_close) | walk1 | (dsimp only; walk1) | (leave1; try dsimp only)))
          exact BoolEnd.intro (by assumption) N' (fun q hq => hq)
        · (repeat' ((fail_if_success (with_reducible show wpAny _ _ (call (Value.ref 198) _) _ _ _)); (fail_if_success (with_reducible show wpAny _ _ (call (Value.ref 212) _) _ _ _)); (fail_if_success (with_reducible show wpAny _ _ (call (Value.ref 187) _) _ _ _)); (fail_if_success (with_reducible show wpAny _ _ (call (Value.ref 224) _) _ _ _)); (fail_if_success (with_reducible show wpAny _ _ (call (Value.ref 135) _) _ _ _)); (fail_if_success (with_reducible show wpAny _ _ (call (Value.ref 248) _) _ _ _)); (fail_if_success (with_reducible show wpAny _ _ (call (Value.ref 76) _) _ _ _)); (fail_if_success (with_reducible show wpAny _ _ (call (Value.ref 142) _) _ _ _)); (fail_if_success (with_reducible show wpAny _ _ (call (Value.ref 149) _) _ _ _)); (fail_if_success (with_reducible show wpAny _ _ (pyIter (Value.ref _)) (fun it s₂ => LoopAtV _ _ _ _ _ _ _ _ _ it s₂) _ _)); (fail_if_success (with_reducible show wpAny _ _ (eval (PySem.Expr.ListComp _ _ _ _) _) _ _ _)); first | (k_unfold; (try dsimp only)) | (k_end; wrow_close) | walk1 | (dsimp only; walk1) | (leave1; try dsimp only)))
          have N2 := news_drop (news := (D', LCg.lst [.bool (g4.PB 1).x.up, .bool (g4.PB 2).x.up, .bool (g4.PB 3).x.up]) :: _) N' (sub_cons mm0 fun q hq => md2 (lw_open q hq))
          k_dflt (refine LCg.ListComp_U (F₀ := by k_asm) (by with_unfolding_all rfl) (by decide) (by rfl) (by decide) (by rfl) ?_)
          (repeat' ((fail_if_success (with_reducible show wpAny _ _ (call (Value.ref 198) _) _ _ _)); (fail_if_success (with_reducible show wpAny _ _ (call (Value.ref 212) _) _ _ _)); (fail_if_success (with_reducible show wpAny _ _ (call (Value.ref 187) _) _ _ _)); (fail_if_success (with_reducible show wpAny _ _ (call (Value.ref 224) _) _ _ _)); (fail_if_success (with_reducible show wpAny _ _ (call (Value.ref 135) _) _ _ _)); (fail_if_success (with_reducible show wpAny _ _ (call (Value.ref 248) _) _ _ _)); (fail_if_success (with_reducible show wpAny _ _ (call (Value.ref 76) _) _ _ _)); (fail_if_success (with_reducible show wpAny _ _ (call (Value.ref 142) _) _ _ _)); (fail_if_success (with_reducible show wpAny _ _ (call (Value.ref 149) _) _ _ _)); (fail_if_success (with_reducible show wpAny _ _ (pyIter (Value.ref _)) (fun it s₂ => LoopAtV _ _ _ _ _ _ _ _ _ it s₂) _ _)); (fail_if_success (with_reducible show wpAny _ _ (eval (PySem.Expr.ListComp _ _ _ _) _) _ _ _)); (fail_if_success (with_reducible show LCg.CompSrc _ _ _ _ _ _ _ _ _ _ _ _ _ _)); first | (k_unfold; (try dsimp only)) | (k_end; wrow_close) | walk1 | (dsimp only; walk1) | (leave1; try dsimp only)))
          refine LCg.CompSrc.ledger (by rfl) (by k_asm) (by assumption) (.head _) (by exact Nat.le_of_ble_eq_true rfl) ?_
          intro g'
          refine rest_bools (fun n => (g4.RB n).y.up) (.head _) (fun i9 t9 I9 oI9 C9 oC9 D9 ys9 m9 h' tk9 E9 hi9 hC9 hx9 F' N' oI oC oD ne9 => ?_) ?_
          · have Nc := news_drop (news := (I9, oI9) :: (C9, oC9) :: (D9, LCg.lst ys9) :: _) N' (sub_cons mm0 (sub_cons mm1 (sub_cons mm2 fun q hq => md5 (lw_close q (lw_row (R := R ++ R2) hi9 q hq)))))
            have hSr := D.hS
            have hSl : valueAt [(1, Value.ref (d.ra 1)), (2, .ref (d.ra 2)), (3, .ref (d.ra 3))] i9 = some (.ref (g4.RB i9).r) := by
              rw [G4.1.adR i9 hi9]
              exact val3r hi9
            obtain ⟨hH, hO⟩ := (G4.1.okR i9 hi9).row
            (repeat' ((fail_if_success (with_reducible show wpAny _ _ (call (Value.ref 198) _) _ _ _)); (fail_if_success (with_reducible show wpAny _ _ (call (Value.ref 212) _) _ _ _)); (fail_if_success (with_reducible show wpAny _ _ (call (Value.ref 187) _) _ _ _)); (fail_if_success (with_reducible show wpAny _ _ (call (Value.ref 224) _) _ _ _)); (fail_if_success (with_reducible show wpAny _ _ (call (Value.ref 135) _) _ _ _)); (fail_if_success (with_reducible show wpAny _ _ (call (Value.ref 248) _) _ _ _)); (fail_if_success (with_reducible show wpAny _ _ (call (Value.ref 76) _) _ _ _)); (fail_if_success (with_reducible show wpAny _ _ (call (Value.ref 142) _) _ _ _)); (fail_if_success (with_reducible show wpAny _ _ (call (Value.ref 149) _) _ _ _)); (fail_if_success (with_reducible show wpAny _ _ (pyIter (Value.ref _)) (fun it s₂ => LoopAtV _ _ _ _ _ _ _ _ _ it s₂) _ _)); first | (k_unfold; (try dsimp only)) | (k_end; wrow_close) | walk1 | (dsimp only; walk1) | (leave1; try dsimp only)))
            exact BoolEnd.intro (by assumption) N' (fun q hq => hq)
          · (repeat' ((fail_if_success (with_reducible show wpAny _ _ (call (Value.ref 198) _) _ _ _)); (fail_if_success (with_reducible show wpAny _ _ (call (Value.ref 212) _) _ _ _)); (fail_if_success (with_reducible show wpAny _ _ (call (Value.ref 187) _) _ _ _)); (fail_if_success (with_reducible show wpAny _ _ (call (Value.ref 224) _) _ _ _)); (fail_if_success (with_reducible show wpAny _ _ (call (Value.ref 135) _) _ _ _)); (fail_if_success (with_reducible show wpAny _ _ (call (Value.ref 248) _) _ _ _)); (fail_if_success (with_reducible show wpAny _ _ (call (Value.ref 76) _) _ _ _)); (fail_if_success (with_reducible show wpAny _ _ (call (Value.ref 142) _) _ _ _)); (fail_if_success (with_reducible show wpAny _ _ (call (Value.ref 149) _) _ _ _)); (fail_if_success (with_reducible show wpAny _ _ (pyIter (Value.ref _)) (fun it s₂ => LoopAtV _ _ _ _ _ _ _ _ _ it s₂) _ _)); (fail_if_success (with_reducible show wpAny _ _ (eval (PySem.Expr.ListComp _ _ _ _) _) _ _ _)); (fail_if_success (with_reducible show wpAny _ _ (compareOp CmpOp.NotEq _ _) _ _ _)); first | (k_unfold; (try dsimp only)) | (k_end; wrow_close) | walk1 | (dsimp only; walk1) | (leave1; try dsimp only)))
            refine ne_bools [(g4.PB 1).x.up, (g4.PB 2).x.up, (g4.PB 3).x.up] rfl (by rw [(G4c 1 (.inl rfl)).up, (G4c 2 (.inr (.inl rfl))).up, (G4c 3 (.inr (.inr rfl))).up]) (by assumption) mm2 mm0 (by k_units) ?_
            (repeat' ((fail_if_success (with_reducible show wpAny _ _ (call (Value.ref 198) _) _ _ _)); (fail_if_success (with_reducible show wpAny _ _ (call (Value.ref 212) _) _ _ _)); (fail_if_success (with_reducible show wpAny _ _ (call (Value.ref 187) _) _ _ _)); (fail_if_success (with_reducible show wpAny _ _ (call (Value.ref 224) _) _ _ _)); (fail_if_success (with_reducible show wpAny _ _ (call (Value.ref 135) _) _ _ _)); (fail_if_success (with_reducible show wpAny _ _ (call (Value.ref 248) _) _ _ _)); (fail_if_success (with_reducible show wpAny _ _ (call (Value.ref 76) _) _ _ _)); (fail_if_success (with_reducible show wpAny _ _ (call (Value.ref 142) _) _ _ _)); (fail_if_success (with_reducible show wpAny _ _ (call (Value.ref 149) _) _ _ _)); (fail_if_success (with_reducible show wpAny _ _ (pyIter (Value.ref _)) (fun it s₂ => LoopAtV _ _ _ _ _ _ _ _ _ it s₂) _ _)); (fail_if_success (with_reducible show wpAny _ _ (eval (PySem.Expr.ListComp _ _ _ _) _) _ _ _)); first | (k_unfold; (try dsimp only)) | (k_end; wrow_close) | walk1 | (dsimp only; walk1) | (leave1; try dsimp only)))
            refine DTurn.intro (g := g4) (now := now + stp) (by assumption) rfl ?_ (news_drop (by assumption) fun q hq => md3 (lw_close q hq)) G4
            refine List.forall_mem_cons.mpr ⟨rfl, List.forall_mem_cons.mpr ⟨rfl, List.forall_mem_cons.mpr ⟨rfl, fun _ h => nomatch h⟩⟩⟩
      case dn8 =>
        intro K g2 now u h tk G2 F' N'
        (try k_fold)
        (repeat' ((fail_if_success (with_reducible show wpAny _ _ (call (Value.ref 198) _) _ _ _)); (fail_if_success (with_reducible show wpAny _ _ (call (Value.ref 212) _) _ _ _)); (fail_if_success (with_reducible show wpAny _ _ (call (Value.ref 187) _) _ _ _)); (fail_if_success (with_reducible show wpAny _ _ (call (Value.ref 224) _) _ _ _)); (fail_if_success (with_reducible show wpAny _ _ (call (Value.ref 135) _) _ _ _)); (fail_if_success (with_reducible show wpAny _ _ (call (Value.ref 248) _) _ _ _)); (fail_if_success (with_reducible show wpAny _ _ (call (Value.ref 76) _) _ _ _)); (fail_if_success (with_reducible show wpAny _ _ (call (Value.ref 142) _) _ _ _)); (fail_if_success (with_reducible show wpAny _ _ (call (Value.ref 149) _) _ _ _)); (fail_if_success (with_reducible show wpAny _ _ (pyIter (Value.ref _)) (fun it s₂ => LoopAtV _ _ _ _ _ _ _ _ _ it s₂) _ _)); (fail_if_success (with_reducible show wpAny _ _ (eval (PySem.Expr.ListComp _ _ _ _) _) _ _ _)); first | (k_unfold; (try dsimp only)) | (k_end; wrow_close) | walk1 | (dsimp only; walk1) | (leave1; try dsimp only)))
        refine LTurn.intro _ (by assumption) rfl (by assumption) lw_end_sub ⟨by assumption, by assumption, by assumption⟩ ⟨d.c, g2.C, d.oR, _, _, _, rfl, rfl, D.hR, D.hRn⟩ (lw_end G2 (sep_addr hS rfl))
  case ldn =>
    intro c1 c2 c3 o1 o2 o3 Y u h tk hd hY hS F' N'
    obtain ⟨d1, d2, d3⟩ := hd
    (try k_fold)
    obtain ⟨c, C, oR, v1, v2, v3, rfl, rfl, hR, hRn⟩ := hY
    dsimp only [List.cons_append, List.nil_append] at N'
    obtain ⟨q_e3, hS⟩ := sep_c hS
    obtain ⟨q_e2, hS⟩ := sep_c hS
    obtain ⟨q_e1, hS⟩ := sep_c hS
    obtain ⟨q_P, hS⟩ := sep_c hS
    obtain ⟨q_dP, hS⟩ := sep_c hS
    obtain ⟨q_R, -⟩ := sep_c hS
    dsimp only [List.cons_append, List.nil_append] at q_e3 q_e2 q_e1 q_P q_dP q_R
    repeat' ((fail_if_success (with_reducible show wpAny _ _ (call (Value.ref 198) _) _ _ _)); (fail_if_success (with_reducible show wpAny _ _ (call (Value.ref 212) _) _ _ _)); (fail_if_success (with_reducible show wpAny _ _ (call (Value.ref 187) _) _ _ _)); (fail_if_success (with_reducible show wpAny _ _ (call (Value.ref 224) _) _ _ _)); (fail_if_success (with_reducible show wpAny _ _ (call (Value.ref 135) _) _ _ _)); (fail_if_success (with_reducible show wpAny _ _ (call (Value.ref 248) _) _ _ _)); (fail_if_success (with_reducible show wpAny _ _ (call (Value.ref 76) _) _ _ _)); (fail_if_success (with_reducible show wpAny _ _ (call (Value.ref 142) _) _ _ _)); (fail_if_success (with_reducible show wpAny _ _ (call (Value.ref 149) _) _ _ _)); (fail_if_success (with_reducible show wpAny _ _ (pyIter (Value.ref _)) (fun it s₂ => LoopAtV _ _ _ _ _ _ _ _ _ it s₂) _ _)); (fail_if_success (with_reducible show wpAny _ _ (eval (PySem.Expr.Lambda _ _ _ _) _) _ _ _)); first | (k_unfold; (try dsimp only)) | (k_end; wrow_close) | walk1 | (dsimp only; walk1) | (leave1; try dsimp only))
    refine kla_eval rfl ?_
    refine' kla_nest ?lF1 ?lN1 ?lT1 ?lC1 ?lcd1 ?lU1 ?lt1 ?ln1 ?lcl1 ?_
    case lF1 => k_asm
    case lN1 => k_asm
    case lT1 => k_asm
    case lcd1 => exact rfl
    case lC1 => kn_code
    case lU1 => k_updF
    case lt1 => kn_triples
    case ln1 => kn_among
    case lcl1 => exact rfl
    k_whole
    intro f1 c1 oc1 vs1 t1 ct1 h' tk' F' N' d1a d1b l1 l2
    have lf1 := all_lt (o := oc1) l1 l2
    (try dsimp only at N')
    repeat' ((fail_if_success (with_reducible show wpAny _ _ (call (Value.ref 198) _) _ _ _)); (fail_if_success (with_reducible show wpAny _ _ (call (Value.ref 212) _) _ _ _)); (fail_if_success (with_reducible show wpAny _ _ (call (Value.ref 187) _) _ _ _)); (fail_if_success (with_reducible show wpAny _ _ (call (Value.ref 224) _) _ _ _)); (fail_if_success (with_reducible show wpAny _ _ (call (Value.ref 135) _) _ _ _)); (fail_if_success (with_reducible show wpAny _ _ (call (Value.ref 248) _) _ _ _)); (fail_if_success (with_reducible show wpAny _ _ (call (Value.ref 76) _) _ _ _)); (fail_if_success (with_reducible show wpAny _ _ (call (Value.ref 142) _) _ _ _)); (fail_if_success (with_reducible show wpAny _ _ (call (Value.ref 149) _) _ _ _)); (fail_if_success (with_reducible show wpAny _ _ (pyIter (Value.ref _)) (fun it s₂ => LoopAtV _ _ _ _ _ _ _ _ _ it s₂) _ _)); (fail_if_success (with_reducible show wpAny _ _ (eval (PySem.Expr.Lambda _ _ _ _) _) _ _ _)); first | (k_unfold; (try dsimp only)) | (k_end; wrow_close) | walk1 | (dsimp only; walk1) | (leave1; try dsimp only))
    refine kla_eval rfl ?_
    refine' kla_nest ?lF2 ?lN2 ?lT2 ?lC2 ?lcd2 ?lU2 ?lt2 ?ln2 ?lcl2 ?_
    case lF2 => k_asm
    case lN2 => k_asm
    case lT2 => k_asm
    case lcd2 => exact rfl
    case lC2 => kn_code
    case lU2 => k_updF
    case lt2 => kn_triples
    case ln2 => kn_among
    case lcl2 => exact rfl
    k_whole
    intro f2 c2 oc2 vs2 t2 ct2 h' tk' F' N' d2a d2b l1 l2
    have lf2 := all_lt (o := oc2) l1 l2
    (try dsimp only at N')
    repeat' ((fail_if_success (with_reducible show wpAny _ _ (call (Value.ref 198) _) _ _ _)); (fail_if_success (with_reducible show wpAny _ _ (call (Value.ref 212) _) _ _ _)); (fail_if_success (with_reducible show wpAny _ _ (call (Value.ref 187) _) _ _ _)); (fail_if_success (with_reducible show wpAny _ _ (call (Value.ref 224) _) _ _ _)); (fail_if_success (with_reducible show wpAny _ _ (call (Value.ref 135) _) _ _ _)); (fail_if_success (with_reducible show wpAny _ _ (call (Value.ref 248) _) _ _ _)); (fail_if_success (with_reducible show wpAny _ _ (call (Value.ref 76) _) _ _ _)); (fail_if_success (with_reducible show wpAny _ _ (call (Value.ref 142) _) _ _ _)); (fail_if_success (with_reducible show wpAny _ _ (call (Value.ref 149) _) _ _ _)); (fail_if_success (with_reducible show wpAny _ _ (pyIter (Value.ref _)) (fun it s₂ => LoopAtV _ _ _ _ _ _ _ _ _ it s₂) _ _)); (fail_if_success (with_reducible show wpAny _ _ (eval (PySem.Expr.Lambda _ _ _ _) _) _ _ _)); first | (k_unfold; (try dsimp only)) | (k_end; wrow_close) | walk1 | (dsimp only; walk1) | (leave1; try dsimp only))
    refine kla_eval rfl ?_
    refine' kla_nest ?lF3 ?lN3 ?lT3 ?lC3 ?lcd3 ?lU3 ?lt3 ?ln3 ?lcl3 ?_
    case lF3 => k_asm
    case lN3 => k_asm
    case lT3 => k_asm
    case lcd3 => exact rfl
    case lC3 => kn_code
    case lU3 => k_updF
    case lt3 => kn_triples
    case ln3 => kn_among
    case lcl3 => exact rfl
    k_whole
    intro f3 c3 oc3 vs3 t3 ct3 h' tk' F' N' d3a d3b l1 l2
    have lf3 := all_lt (o := oc3) l1 l2
    (try dsimp only at N')
    repeat' ((fail_if_success (with_reducible show wpAny _ _ (call (Value.ref 198) _) _ _ _)); (fail_if_success (with_reducible show wpAny _ _ (call (Value.ref 212) _) _ _ _)); (fail_if_success (with_reducible show wpAny _ _ (call (Value.ref 187) _) _ _ _)); (fail_if_success (with_reducible show wpAny _ _ (call (Value.ref 224) _) _ _ _)); (fail_if_success (with_reducible show wpAny _ _ (call (Value.ref 135) _) _ _ _)); (fail_if_success (with_reducible show wpAny _ _ (call (Value.ref 248) _) _ _ _)); (fail_if_success (with_reducible show wpAny _ _ (call (Value.ref 76) _) _ _ _)); (fail_if_success (with_reducible show wpAny _ _ (call (Value.ref 142) _) _ _ _)); (fail_if_success (with_reducible show wpAny _ _ (call (Value.ref 149) _) _ _ _)); (fail_if_success (with_reducible show wpAny _ _ (pyIter (Value.ref _)) (fun it s₂ => LoopAtV _ _ _ _ _ _ _ _ _ it s₂) _ _)); (fail_if_success (with_reducible show wpAny _ _ (eval (PySem.Expr.Lambda _ _ _ _) _) _ _ _)); first | (k_unfold; (try dsimp only)) | (k_end; wrow_close) | walk1 | (dsimp only; walk1) | (leave1; try dsimp only))
    refine kla_eval rfl ?_
    refine' kla_nest ?lF4 ?lN4 ?lT4 ?lC4 ?lcd4 ?lU4 ?lt4 ?ln4 ?lcl4 ?_
    case lF4 => k_asm
    case lN4 => k_asm
    case lT4 => k_asm
    case lcd4 => exact rfl
    case lC4 => kn_code
    case lU4 => k_updF
    case lt4 => kn_triples
    case ln4 => kn_among
    case lcl4 => exact rfl
    k_whole
    intro f4 c4 oc4 vs4 t4 ct4 h' tk' F' N' d4a d4b l1 l2
    have lf4 := all_lt (o := oc4) l1 l2
    (try dsimp only at N')
    repeat' ((fail_if_success (with_reducible show wpAny _ _ (call (Value.ref 198) _) _ _ _)); (fail_if_success (with_reducible show wpAny _ _ (call (Value.ref 212) _) _ _ _)); (fail_if_success (with_reducible show wpAny _ _ (call (Value.ref 187) _) _ _ _)); (fail_if_success (with_reducible show wpAny _ _ (call (Value.ref 224) _) _ _ _)); (fail_if_success (with_reducible show wpAny _ _ (call (Value.ref 135) _) _ _ _)); (fail_if_success (with_reducible show wpAny _ _ (call (Value.ref 248) _) _ _ _)); (fail_if_success (with_reducible show wpAny _ _ (call (Value.ref 76) _) _ _ _)); (fail_if_success (with_reducible show wpAny _ _ (call (Value.ref 142) _) _ _ _)); (fail_if_success (with_reducible show wpAny _ _ (call (Value.ref 149) _) _ _ _)); (fail_if_success (with_reducible show wpAny _ _ (pyIter (Value.ref _)) (fun it s₂ => LoopAtV _ _ _ _ _ _ _ _ _ it s₂) _ _)); (fail_if_success (with_reducible show wpAny _ _ (eval (PySem.Expr.ListComp _ _ _ _) _) _ _ _)); first | (k_unfold; (try dsimp only)) | (k_end; wrow_close) | walk1 | (dsimp only; walk1) | (leave1; try dsimp only))
    k_dflt (refine LCt.ListComp_T (F₀ := by k_asm) (by with_unfolding_all rfl) (by decide) (by rfl) (by decide) (by rfl) ?_)
    repeat' ((fail_if_success (with_reducible show wpAny _ _ (call (Value.ref 198) _) _ _ _)); (fail_if_success (with_reducible show wpAny _ _ (call (Value.ref 212) _) _ _ _)); (fail_if_success (with_reducible show wpAny _ _ (call (Value.ref 187) _) _ _ _)); (fail_if_success (with_reducible show wpAny _ _ (call (Value.ref 224) _) _ _ _)); (fail_if_success (with_reducible show wpAny _ _ (call (Value.ref 135) _) _ _ _)); (fail_if_success (with_reducible show wpAny _ _ (call (Value.ref 248) _) _ _ _)); (fail_if_success (with_reducible show wpAny _ _ (call (Value.ref 76) _) _ _ _)); (fail_if_success (with_reducible show wpAny _ _ (call (Value.ref 142) _) _ _ _)); (fail_if_success (with_reducible show wpAny _ _ (call (Value.ref 149) _) _ _ _)); (fail_if_success (with_reducible show wpAny _ _ (pyIter (Value.ref _)) (fun it s₂ => LoopAtV _ _ _ _ _ _ _ _ _ it s₂) _ _)); (fail_if_success (with_reducible show LCt.CompSrcT _ _ _ _ _ _ _ _ _ _ _ _ _ _ _)); first | (k_unfold; (try dsimp only)) | (k_end; wrow_close) | walk1 | (dsimp only; walk1) | (leave1; try dsimp only))
    have hPn : c.P ≠ c.dP := Ne.symm (off_cons.mp q_P).1
    refine LCt.CompSrcT.ledger (by rfl) (by k_asm) (by k_asm) (.head _) (by exact Nat.le_of_ble_eq_true rfl) ?_
    intro g'
    refine rest_refs (vs := [.ref f1, .ref f2, .ref f3, .ref f4]) ?_ (Or.inr ⟨_, .head _, rfl, _, rfl⟩) (fun v9 I9 oI9 C9 oC9 D9 m9 h' tk9 E9 hv9 hC9 hx9 F' N' off9 ne9 => ?_) ?_
    · refine List.forall_mem_cons.mpr ⟨?_, List.forall_mem_cons.mpr ⟨?_, List.forall_mem_cons.mpr ⟨?_, List.forall_mem_cons.mpr ⟨?_, fun _ h => nomatch h⟩⟩⟩⟩
      · exact ⟨f1, _, _, 56, rfl, .inr rfl, mm7, rfl, fun news' sub => lam_add1 _ c C f1 c1 _ oR o3 oc1 _ _ _ _ _ _ _ rfl news' hPn (sub _ mm7) (sub _ mm8) d1a d1b (sub _ mm9) d3 (sub _ mm12) (sub _ (md12 mm1)) (sub _ (md12 mm2)) hR rfl hRn⟩
      · exact ⟨f2, _, _, 44, rfl, .inl rfl, mm5, rfl, fun news' sub => lam_add0 _ c C f2 c2 _ oR o3 oc2 _ _ _ _ _ _ _ rfl news' hPn (sub _ mm5) (sub _ mm6) d2a d2b (sub _ mm9) d3 (sub _ mm12) (sub _ (md12 mm1)) (sub _ (md12 mm2)) hR hRn⟩
      · exact ⟨f3, _, _, 56, rfl, .inr rfl, mm3, rfl, fun news' sub => lam_port _ c C f3 c3 _ oR o3 oc3 _ _ _ _ _ _ _ rfl news' hPn (sub _ mm3) (sub _ mm4) d3a d3b (sub _ mm9) d3 (sub _ mm12) (sub _ (md12 mm1)) (sub _ (md12 mm2)) hR rfl hRn⟩
      · exact ⟨f4, _, _, 56, rfl, .inr rfl, mm1, rfl, fun news' sub => lam_up _ c C f4 c4 _ oR o3 oc4 _ _ _ _ _ _ _ rfl news' hPn (sub _ mm1) (sub _ mm2) d4a d4b (sub _ mm9) d3 (sub _ mm12) (sub _ (md12 mm1)) (sub _ (md12 mm2)) hR rfl hRn⟩
    · obtain ⟨f9, fo9, fd9, X9, rfl, hX9, hm9, hfd9, S9⟩ := hv9
      repeat' ((fail_if_success (with_reducible show wpAny _ _ (call (Value.ref 198) _) _ _ _)); (fail_if_success (with_reducible show wpAny _ _ (call (Value.ref 212) _) _ _ _)); (fail_if_success (with_reducible show wpAny _ _ (call (Value.ref 187) _) _ _ _)); (fail_if_success (with_reducible show wpAny _ _ (call (Value.ref 224) _) _ _ _)); (fail_if_success (with_reducible show wpAny _ _ (call (Value.ref 135) _) _ _ _)); (fail_if_success (with_reducible show wpAny _ _ (call (Value.ref 248) _) _ _ _)); (fail_if_success (with_reducible show wpAny _ _ (call (Value.ref 76) _) _ _ _)); (fail_if_success (with_reducible show wpAny _ _ (call (Value.ref 142) _) _ _ _)); (fail_if_success (with_reducible show wpAny _ _ (call (Value.ref 149) _) _ _ _)); (fail_if_success (with_reducible show wpAny _ _ (call (Value.ref 219) _) _ _ _)); (fail_if_success (with_reducible show wpAny _ _ (pyIter (Value.ref _)) (fun it s₂ => LoopAtV _ _ _ _ _ _ _ _ _ it s₂) _ _)); (fail_if_success (with_reducible show wpAny _ _ (eval (PySem.Expr.ListComp _ _ _ _) _) _ _ _)); first | (k_unfold; (try dsimp only)) | (k_end; wrow_close) | walk1 | (dsimp only; walk1) | (leave1; try dsimp only))
      refine' refused_use (k := 7) (fo := fo9) ?rB ?rF ?rX ?rN ?rT ?rk ?rXB ?rTB hX9 ?rm hfd9 (by decide) (S9 _ ?rsub) ?rd ?ru ?rret
      case rB => assumption
      case rF => assumption
      case rX => assumption
      case rN => assumption
      case rT => assumption
      case rk => first | exact rfl | assumption
      case rXB => assumption
      case rTB => assumption
      case rm => exact md3 hm9
      case rsub => exact fun q hq => md3 hq
      case rd => k_room
      case ru => k_units
      intro h' tk' F' N'
      repeat' ((fail_if_success (with_reducible show wpAny _ _ (call (Value.ref 198) _) _ _ _)); (fail_if_success (with_reducible show wpAny _ _ (call (Value.ref 212) _) _ _ _)); (fail_if_success (with_reducible show wpAny _ _ (call (Value.ref 187) _) _ _ _)); (fail_if_success (with_reducible show wpAny _ _ (call (Value.ref 224) _) _ _ _)); (fail_if_success (with_reducible show wpAny _ _ (call (Value.ref 135) _) _ _ _)); (fail_if_success (with_reducible show wpAny _ _ (call (Value.ref 248) _) _ _ _)); (fail_if_success (with_reducible show wpAny _ _ (call (Value.ref 76) _) _ _ _)); (fail_if_success (with_reducible show wpAny _ _ (call (Value.ref 142) _) _ _ _)); (fail_if_success (with_reducible show wpAny _ _ (call (Value.ref 149) _) _ _ _)); (fail_if_success (with_reducible show wpAny _ _ (call (Value.ref 219) _) _ _ _)); (fail_if_success (with_reducible show wpAny _ _ (pyIter (Value.ref _)) (fun it s₂ => LoopAtV _ _ _ _ _ _ _ _ _ it s₂) _ _)); (fail_if_success (with_reducible show wpAny _ _ (eval (PySem.Expr.ListComp _ _ _ _) _) _ _ _)); (fail_if_success (with_reducible show TestEnd _ _ _ _ _ _ _ _)); first | (k_unfold; (try dsimp only)) | (k_end; wrow_close) | walk1 | (dsimp only; walk1) | (leave1; try dsimp only))
      exact TestEnd.intro rfl (by assumption) (by assumption)
    · repeat' ((fail_if_success (with_reducible show wpAny _ _ (call (Value.ref 198) _) _ _ _)); (fail_if_success (with_reducible show wpAny _ _ (call (Value.ref 212) _) _ _ _)); (fail_if_success (with_reducible show wpAny _ _ (call (Value.ref 187) _) _ _ _)); (fail_if_success (with_reducible show wpAny _ _ (call (Value.ref 224) _) _ _ _)); (fail_if_success (with_reducible show wpAny _ _ (call (Value.ref 135) _) _ _ _)); (fail_if_success (with_reducible show wpAny _ _ (call (Value.ref 248) _) _ _ _)); (fail_if_success (with_reducible show wpAny _ _ (call (Value.ref 76) _) _ _ _)); (fail_if_success (with_reducible show wpAny _ _ (call (Value.ref 142) _) _ _ _)); (fail_if_success (with_reducible show wpAny _ _ (call (Value.ref 149) _) _ _ _)); (fail_if_success (with_reducible show wpAny _ _ (pyIter (Value.ref _)) (fun it s₂ => LoopAtV _ _ _ _ _ _ _ _ _ it s₂) _ _)); (fail_if_success (with_reducible show wpAny _ _ (eval (PySem.Expr.ListComp _ _ _ _) _) _ _ _)); first | (k_unfold; (try dsimp only)) | (k_end; wrow_close) | walk1 | (dsimp only; walk1) | (leave1; try dsimp only))
end
end Mine
theorem PySem.Challenge.cw_pb0539_01_holds : PySem.Challenge.rw_pb0539_01.Holds := by
  exact Mine.law_ok
