import PyProof.Rows.All
import Wide.All
import OpenK.AllK
import Wide.FinOn
import OpenK.XGo
import Lean
import PySem.Challenge.RW_sm0057_01
open PySem PySem.W PySem.Calls PyProof.Rows
set_option Elab.async false
set_option maxRecDepth 100000
set_option maxHeartbeats 8000000
set_option linter.unusedVariables false
namespace Mine
abbrev PG : Program := PySem.Challenge.rw_sm0057_01.row.prog
/-- the part of the heap that the walk reads -/
noncomputable def KF : Params → Frag := by
  refine (?f : (Params → Frag) → (PG.main.body = [.FunctionDef ?_ ?a21 ?b21 ?_ ?_ ?_ ?s21 ?_ ?_ ?_,
   ?_,
   ?_,
   ?_,
   ?_,
   ?_,
   ?_,
   ?_,
   ?_,
   ?_,
   .ClassDef ?_ ?_ ?_ [.FunctionDef ?_ ?a35 ?b35 ?_ ?_ ?_ ?s35 ?_ ?_ ?_] ?_ ?_ ?_ ?_ ?_ ?_ ?_,
   .ClassDef ?_ ?_ ?_ [?_, .FunctionDef ?_ ?a55 ?b55 ?_ ?_ ?_ ?s55 ?_ ?_ ?_] ?_ ?_ ?_ ?_ ?_ ?_ ?_,
   .ClassDef ?_ ?_ ?_ [.FunctionDef ?_ ?a76 ?b76 ?_ ?_ ?_ ?s76 ?_ ?_ ?_] ?_ ?_ ?_ ?_ ?_ ?_ ?_,
   .FunctionDef ?_ ?a90 ?b90 ?_ ?_ ?_ ?s90 ?_ ?_ ?_,
   .FunctionDef ?_ ?a97 ?b97 ?_ ?_ ?_ ?s97 ?_ ?_ ?_,
   ?_,
   .ClassDef ?_ ?_ ?_ [.FunctionDef ?_ ?a112 ?b112 ?_ ?_ ?_ ?s112 ?_ ?_ ?_, .FunctionDef ?_ ?a119 ?b119 ?_ ?_ ?_ ?s119 ?_ ?_ ?_, .FunctionDef ?_ ?a126 ?b126 ?_ ?_ ?_ ?s126 ?_ ?_ ?_, .FunctionDef ?_ ?a133 ?b133 ?_ ?_ ?_ ?s133 ?_ ?_ ?_, .FunctionDef ?_ ?a140 ?b140 ?_ ?_ ?_ ?s140 ?_ ?_ ?_, .FunctionDef ?_ ?a147 ?b147 ?_ ?_ ?_ ?s147 ?_ ?_ ?_, .FunctionDef ?_ ?a154 ?b154 ?_ ?_ ?_ ?s154 ?_ ?_ ?_, .FunctionDef ?_ ?a161 ?b161 ?_ ?_ ?_ ?s161 ?_ ?_ ?_, .FunctionDef ?_ ?a168 ?b168 ?_ ?_ ?_ ?s168 ?_ ?_ ?_, .FunctionDef ?_ ?a175 ?b175 ?_ ?_ ?_ ?s175 ?_ ?_ ?_, .FunctionDef ?_ ?a182 ?b182 ?_ ?_ ?_ ?s182 ?_ ?_ ?_, .FunctionDef ?_ ?a189 ?b189 ?_ ?_ ?_ ?s189 ?_ ?_ ?_, .FunctionDef ?_ ?a196 ?b196 ?_ ?_ ?_ ?s196 ?_ ?_ ?_, .FunctionDef ?_ ?a203 ?b203 ?_ ?_ ?_ ?s203 ?_ ?_ ?_, .FunctionDef ?_ ?a210 ?b210 ?_ ?_ ?_ ?s210 ?_ ?_ ?_] ?_ ?_ ?_ ?_ ?_ ?_ ?_,
   ?_,
   .ClassDef ?_ ?_ ?_ [.FunctionDef ?_ ?a231 ?b231 ?_ ?_ ?_ ?s231 ?_ ?_ ?_, .FunctionDef ?_ ?a236 ?b236 ?_ ?_ ?_ ?s236 ?_ ?_ ?_, .FunctionDef ?_ ?a243 ?b243 ?_ ?_ ?_ ?s243 ?_ ?_ ?_, .FunctionDef ?_ ?a250 ?b250 ?_ ?_ ?_ ?s250 ?_ ?_ ?_, .FunctionDef ?_ ?a257 ?b257 ?_ ?_ ?_ ?s257 ?_ ?_ ?_, .FunctionDef ?_ ?a264 ?b264 ?_ ?_ ?_ ?s264 ?_ ?_ ?_, .FunctionDef ?_ ?a271 ?b271 ?_ ?_ ?_ ?s271 ?_ ?_ ?_, .FunctionDef ?_ ?a278 ?b278 ?_ ?_ ?_ ?s278 ?_ ?_ ?_, .FunctionDef ?_ ?a285 ?b285 ?_ ?_ ?_ ?s285 ?_ ?_ ?_, .FunctionDef ?_ ?a292 ?b292 ?_ ?_ ?_ ?s292 ?_ ?_ ?_, .FunctionDef ?_ ?a299 ?b299 ?_ ?_ ?_ ?s299 ?_ ?_ ?_] ?_ ?_ ?_ ?_ ?_ ?_ ?_,
   ?_,
   .FunctionDef ?_ ?a313 ?b313 ?_ ?_ ?_ ?s313 ?_ ?_ ?_,
   .FunctionDef ?_ ?a318 ?b318 ?_ ?_ ?_ ?s318 ?_ ?_ ?_,
   .FunctionDef ?_ ?a323 ?b323 ?_ ?_ ?_ ?s323 ?_ ?_ ?_,
   .FunctionDef ?_ ?a330 ?b330 ?_ ?_ ?_ ?s330 ?_ ?_ ?_,
   .FunctionDef ?_ ?a335 ?b335 ?_ ?_ ?_ ?s335 ?_ ?_ ?_,
   .FunctionDef ?_ ?a342 ?b342 ?_ ?_ ?_ ?s342 ?_ ?_ ?_,
   .FunctionDef ?_ ?a349 ?b349 ?_ ?_ ?_ ?s349 ?_ ?_ ?_,
   .FunctionDef ?_ ?a356 ?b356 ?_ ?_ ?_ ?s356 ?_ ?_ ?_]) → Params → Frag) (fun P =>
    (nat_lit 2, { cls := Value.none, data := Data.dict #[{ hash := PyData.keyHash P (Str.ofString "type.__subclasses__.Exception.0"), key := Value.str (Str.ofString "type.__subclasses__.Exception.0") 242, val := Value.int 38 0 }, { hash := PyData.keyHash P (Str.ofString "type.__subclasses__.Exception.n"), key := Value.str (Str.ofString "type.__subclasses__.Exception.n") 243, val := Value.int 1 0 }] 2 }) ::
    (nat_lit 3, { cls := Value.type "dict", data := Data.dict #[{ hash := PyData.keyHash P (Str.ofString "__name__"), key := Value.str (Str.ofString "__name__") 165, val := Value.str (Str.ofString "law_sm0057_01") 607 }, { hash := PyData.keyHash P (Str.ofString "__doc__"), key := Value.str (Str.ofString "__doc__") 166, val := Value.none }, { hash := PyData.keyHash P (Str.ofString "__package__"), key := Value.str (Str.ofString "__package__") 167, val := Value.none }, { hash := PyData.keyHash P (Str.ofString "__loader__"), key := Value.str (Str.ofString "__loader__") 168, val := Value.builtin "__main__.__loader__#opaque" }, { hash := PyData.keyHash P (Str.ofString "__spec__"), key := Value.str (Str.ofString "__spec__") 169, val := Value.none }, { hash := PyData.keyHash P (Str.ofString "__annotations__"), key := Value.str (Str.ofString "__annotations__") 170, val := Value.ref 6 }, { hash := PyData.keyHash P (Str.ofString "__builtins__"), key := Value.str (Str.ofString "__builtins__") 171, val := Value.ref 4 }, { hash := PyData.keyHash P (Str.ofString "__file__"), key := Value.str (Str.ofString "__file__") 173, val := Value.str (Str.ofString "/claim/cut.py") 172 }, { hash := PyData.keyHash P (Str.ofString "__cached__"), key := Value.str (Str.ofString "__cached__") 174, val := Value.none }, { hash := PyData.keyHash P (Str.ofString "_wall"), key := Value.str (Str.ofString "_wall") 193, val := Value.ref 21 }, { hash := PyData.keyHash P (Str.ofString "INT_SIZE"), key := Value.str (Str.ofString "INT_SIZE") 195, val := Value.int 4 194 }, { hash := PyData.keyHash P (Str.ofString "GREATEST_INT"), key := Value.str (Str.ofString "GREATEST_INT") 201, val := Value.int 2147483647 200 }, { hash := PyData.keyHash P (Str.ofString "T_NONE"), key := Value.str (Str.ofString "T_NONE") 206, val := Value.int (-1) 205 }, { hash := PyData.keyHash P (Str.ofString "T_NIL"), key := Value.str (Str.ofString "T_NIL") 208, val := Value.int 0 207 }, { hash := PyData.keyHash P (Str.ofString "T_BOOLEAN"), key := Value.str (Str.ofString "T_BOOLEAN") 210, val := Value.int 1 209 }, { hash := PyData.keyHash P (Str.ofString "T_LIGHT"), key := Value.str (Str.ofString "T_LIGHT") 212, val := Value.int 2 211 }, { hash := PyData.keyHash P (Str.ofString "T_NUMBER"), key := Value.str (Str.ofString "T_NUMBER") 214, val := Value.int 3 213 }, { hash := PyData.keyHash P (Str.ofString "T_STRING"), key := Value.str (Str.ofString "T_STRING") 216, val := Value.int 4 215 }, { hash := PyData.keyHash P (Str.ofString "BadDump"), key := Value.str (Str.ofString "BadDump") 245, val := Value.ref 38 }, { hash := PyData.keyHash P (Str.ofString "HeapObject"), key := Value.str (Str.ofString "HeapObject") 278, val := Value.ref 58 }, { hash := PyData.keyHash P (Str.ofString "LightValue"), key := Value.str (Str.ofString "LightValue") 307, val := Value.ref 79 }, { hash := PyData.keyHash P (Str.ofString "type_of"), key := Value.str (Str.ofString "type_of") 314, val := Value.ref 90 }, { hash := PyData.keyHash P (Str.ofString "wrap"), key := Value.str (Str.ofString "wrap") 323, val := Value.ref 97 }, { hash := PyData.keyHash P (Str.ofString "Reader"), key := Value.str (Str.ofString "Reader") 490, val := Value.ref 213 }, { hash := PyData.keyHash P (Str.ofString "Writer"), key := Value.str (Str.ofString "Writer") 606, val := Value.ref 302 }, { hash := PyData.keyHash P (Str.ofString "_law_cut"), key := Value.str (Str.ofString "_law_cut") 617, val := Value.ref 313 }, { hash := PyData.keyHash P (Str.ofString "_law_letters"), key := Value.str (Str.ofString "_law_letters") 623, val := Value.ref 318 }, { hash := PyData.keyHash P (Str.ofString "_law_thing"), key := Value.str (Str.ofString "_law_thing") 629, val := Value.ref 323 }, { hash := PyData.keyHash P (Str.ofString "_law_put"), key := Value.str (Str.ofString "_law_put") 642, val := Value.ref 330 }, { hash := PyData.keyHash P (Str.ofString "_law_got"), key := Value.str (Str.ofString "_law_got") 648, val := Value.ref 335 }, { hash := PyData.keyHash P (Str.ofString "_law_brought"), key := Value.str (Str.ofString "_law_brought") 659, val := Value.ref 342 }, { hash := PyData.keyHash P (Str.ofString "_law_read"), key := Value.str (Str.ofString "_law_read") 676, val := Value.ref 349 }, { hash := PyData.keyHash P (Str.ofString "law"), key := Value.str (Str.ofString "law") 694, val := Value.ref 356 }] 33 }) ::
    (nat_lit 15, { cls := Value.type "tuple", data := Data.seq #[] }) ::
    (nat_lit 17, { cls := Value.type "tuple", data := Data.seq #[Value.str (Str.ofString "k") 190] }) ::
    (nat_lit 18, { cls := Value.type "tuple", data := Data.seq #[] }) ::
    (nat_lit 20, { cls := Value.type "code", data := Data.fields #[Value.str (Str.ofString "_wall") 187, Value.str (Str.ofString "_wall") 188, Value.str (Str.ofString "/claim/cut.py") 189, Value.int 1 0, Value.int 1 0, Value.int 0 0, Value.int 0 0, Value.int 3 0, Value.ref 15, Value.bool true, Value.int 181 0, Value.ref 16, Value.none, Value.ref 17, Value.ref 18, Value.ref 19, Value.int 191 0, Value.int 1 0, Value.str (Str.ofString "/claim/cut.py") 192] }) ::
    (nat_lit 21, { cls := Value.type "function", data := Data.func { name := Str.ofString "_wall", qualname := Str.ofString "_wall", params := ?a21, body := FuncBody.stmts ?b21, scope := ?s21, globals := 3, closure := [], defaults := Value.none, kwdefaults := Value.none, pyModule := Value.str (Str.ofString "__main__") 164, code := Value.ref 20 } }) ::
    (nat_lit 22, { cls := Value.type "tuple", data := Data.seq #[Value.type "Exception"] }) ::
    (nat_lit 29, { cls := Value.type "tuple", data := Data.seq #[] }) ::
    (nat_lit 31, { cls := Value.type "tuple", data := Data.seq #[Value.str (Str.ofString "self") 232, Value.str (Str.ofString "text") 233] }) ::
    (nat_lit 32, { cls := Value.type "tuple", data := Data.seq #[] }) ::
    (nat_lit 34, { cls := Value.type "code", data := Data.fields #[Value.str (Str.ofString "__init__") 229, Value.str (Str.ofString "BadDump.__init__") 230, Value.str (Str.ofString "/claim/cut.py") 231, Value.int 15 0, Value.int 2 0, Value.int 0 0, Value.int 0 0, Value.int 3 0, Value.ref 29, Value.bool true, Value.int 181 0, Value.ref 30, Value.none, Value.ref 31, Value.ref 32, Value.ref 33, Value.int 234 0, Value.int 15 0, Value.str (Str.ofString "/claim/cut.py") 235] }) ::
    (nat_lit 35, { cls := Value.type "function", data := Data.func { name := Str.ofString "__init__", qualname := Str.ofString "BadDump.__init__", params := ?a35, body := FuncBody.stmts ?b35, scope := ?s35, globals := 3, closure := [], defaults := Value.none, kwdefaults := Value.none, pyModule := Value.str (Str.ofString "lua.values") 202, code := Value.ref 34 } }) ::
    (nat_lit 36, { cls := Value.type "tuple", data := Data.seq #[Value.str (Str.ofString "text") 237] }) ::
    (nat_lit 37, { cls := Value.type "dict", data := Data.dict #[{ hash := PyData.keyHash P (Str.ofString "__module__"), key := Value.str (Str.ofString "__module__") 224, val := Value.str (Str.ofString "lua.values") 202 }, { hash := PyData.keyHash P (Str.ofString "__firstlineno__"), key := Value.str (Str.ofString "__firstlineno__") 228, val := Value.int 13 227 }, { hash := PyData.keyHash P (Str.ofString "__init__"), key := Value.str (Str.ofString "__init__") 236, val := Value.ref 35 }, { hash := PyData.keyHash P (Str.ofString "__static_attributes__"), key := Value.str (Str.ofString "__static_attributes__") 238, val := Value.ref 36 }, { hash := PyData.keyHash P (Str.ofString "__weakref__"), key := Value.str (Str.ofString "__weakref__") 240, val := Value.ref 39 }, { hash := PyData.keyHash P (Str.ofString "__doc__"), key := Value.str (Str.ofString "__doc__") 241, val := Value.none }] 3 }) ::
    (nat_lit 38, { cls := Value.type "type", data := Data.cls { name := Str.ofString "BadDump", bases := [Value.type "Exception"], mro := [Value.ref 38, Value.type "Exception", Value.type "BaseException", Value.type "object"], ns := 37, qualname := Str.ofString "BadDump" }, slots := #[some (Value.ref 22), none, some (Value.str (Str.ofString "BadDump") 217), some (Value.str (Str.ofString "BadDump") 225), some (Value.builtin "Exception.__new__"), some (Value.bool true)] }) ::
    (nat_lit 39, { cls := Value.type "getset_descriptor", data := Data.fields #[Value.str (Str.ofString "__weakref__") 239, Value.ref 38, Value.builtin "ExceptionGroup.__weakref__", Value.none] }) ::
    (nat_lit 49, { cls := Value.type "tuple", data := Data.seq #[] }) ::
    (nat_lit 51, { cls := Value.type "tuple", data := Data.seq #[Value.str (Str.ofString "self") 262, Value.str (Str.ofString "number") 263, Value.str (Str.ofString "size") 264] }) ::
    (nat_lit 52, { cls := Value.type "tuple", data := Data.seq #[] }) ::
    (nat_lit 54, { cls := Value.type "code", data := Data.fields #[Value.str (Str.ofString "__init__") 259, Value.str (Str.ofString "HeapObject.__init__") 260, Value.str (Str.ofString "/claim/cut.py") 261, Value.int 20 0, Value.int 3 0, Value.int 0 0, Value.int 0 0, Value.int 3 0, Value.ref 49, Value.bool true, Value.int 181 0, Value.ref 50, Value.none, Value.ref 51, Value.ref 52, Value.ref 53, Value.int 265 0, Value.int 20 0, Value.str (Str.ofString "/claim/cut.py") 266] }) ::
    (nat_lit 55, { cls := Value.type "function", data := Data.func { name := Str.ofString "__init__", qualname := Str.ofString "HeapObject.__init__", params := ?a55, body := FuncBody.stmts ?b55, scope := ?s55, globals := 3, closure := [], defaults := Value.none, kwdefaults := Value.none, pyModule := Value.str (Str.ofString "lua.values") 202, code := Value.ref 54 } }) ::
    (nat_lit 56, { cls := Value.type "tuple", data := Data.seq #[Value.str (Str.ofString "mark") 268, Value.str (Str.ofString "number") 269, Value.str (Str.ofString "size") 270] }) ::
    (nat_lit 57, { cls := Value.type "dict", data := Data.dict #[{ hash := PyData.keyHash P (Str.ofString "__module__"), key := Value.str (Str.ofString "__module__") 253, val := Value.str (Str.ofString "lua.values") 202 }, { hash := PyData.keyHash P (Str.ofString "__firstlineno__"), key := Value.str (Str.ofString "__firstlineno__") 257, val := Value.int 17 256 }, { hash := PyData.keyHash P (Str.ofString "kind"), key := Value.str (Str.ofString "kind") 258, val := Value.int (-1) 205 }, { hash := PyData.keyHash P (Str.ofString "__init__"), key := Value.str (Str.ofString "__init__") 267, val := Value.ref 55 }, { hash := PyData.keyHash P (Str.ofString "__static_attributes__"), key := Value.str (Str.ofString "__static_attributes__") 271, val := Value.ref 56 }, { hash := PyData.keyHash P (Str.ofString "__dict__"), key := Value.str (Str.ofString "__dict__") 273, val := Value.ref 59 }, { hash := PyData.keyHash P (Str.ofString "__weakref__"), key := Value.str (Str.ofString "__weakref__") 275, val := Value.ref 60 }, { hash := PyData.keyHash P (Str.ofString "__doc__"), key := Value.str (Str.ofString "__doc__") 276, val := Value.none }] 4 }) ::
    (nat_lit 58, { cls := Value.type "type", data := Data.cls { name := Str.ofString "HeapObject", bases := [Value.type "object"], mro := [Value.ref 58, Value.type "object"], ns := 57, qualname := Str.ofString "HeapObject" }, slots := #[none, none, some (Value.str (Str.ofString "HeapObject") 246), some (Value.str (Str.ofString "HeapObject") 254), some (Value.builtin "object.__new__"), some (Value.bool true)] }) ::
    (nat_lit 59, { cls := Value.type "getset_descriptor", data := Data.fields #[Value.str (Str.ofString "__dict__") 272, Value.ref 58, Value.builtin "function.__dict__", Value.builtin "function.__dict__#set"] }) ::
    (nat_lit 60, { cls := Value.type "getset_descriptor", data := Data.fields #[Value.str (Str.ofString "__weakref__") 274, Value.ref 58, Value.builtin "ExceptionGroup.__weakref__", Value.none] }) ::
    (nat_lit 70, { cls := Value.type "tuple", data := Data.seq #[] }) ::
    (nat_lit 72, { cls := Value.type "tuple", data := Data.seq #[Value.str (Str.ofString "self") 294, Value.str (Str.ofString "number") 295] }) ::
    (nat_lit 73, { cls := Value.type "tuple", data := Data.seq #[] }) ::
    (nat_lit 75, { cls := Value.type "code", data := Data.fields #[Value.str (Str.ofString "__init__") 291, Value.str (Str.ofString "LightValue.__init__") 292, Value.str (Str.ofString "/claim/cut.py") 293, Value.int 26 0, Value.int 2 0, Value.int 0 0, Value.int 0 0, Value.int 3 0, Value.ref 70, Value.bool true, Value.int 181 0, Value.ref 71, Value.none, Value.ref 72, Value.ref 73, Value.ref 74, Value.int 296 0, Value.int 26 0, Value.str (Str.ofString "/claim/cut.py") 297] }) ::
    (nat_lit 76, { cls := Value.type "function", data := Data.func { name := Str.ofString "__init__", qualname := Str.ofString "LightValue.__init__", params := ?a76, body := FuncBody.stmts ?b76, scope := ?s76, globals := 3, closure := [], defaults := Value.none, kwdefaults := Value.none, pyModule := Value.str (Str.ofString "lua.values") 202, code := Value.ref 75 } }) ::
    (nat_lit 77, { cls := Value.type "tuple", data := Data.seq #[Value.str (Str.ofString "number") 299] }) ::
    (nat_lit 78, { cls := Value.type "dict", data := Data.dict #[{ hash := PyData.keyHash P (Str.ofString "__module__"), key := Value.str (Str.ofString "__module__") 286, val := Value.str (Str.ofString "lua.values") 202 }, { hash := PyData.keyHash P (Str.ofString "__firstlineno__"), key := Value.str (Str.ofString "__firstlineno__") 290, val := Value.int 24 289 }, { hash := PyData.keyHash P (Str.ofString "__init__"), key := Value.str (Str.ofString "__init__") 298, val := Value.ref 76 }, { hash := PyData.keyHash P (Str.ofString "__static_attributes__"), key := Value.str (Str.ofString "__static_attributes__") 300, val := Value.ref 77 }, { hash := PyData.keyHash P (Str.ofString "__dict__"), key := Value.str (Str.ofString "__dict__") 302, val := Value.ref 80 }, { hash := PyData.keyHash P (Str.ofString "__weakref__"), key := Value.str (Str.ofString "__weakref__") 304, val := Value.ref 81 }, { hash := PyData.keyHash P (Str.ofString "__doc__"), key := Value.str (Str.ofString "__doc__") 305, val := Value.none }] 4 }) ::
    (nat_lit 79, { cls := Value.type "type", data := Data.cls { name := Str.ofString "LightValue", bases := [Value.type "object"], mro := [Value.ref 79, Value.type "object"], ns := 78, qualname := Str.ofString "LightValue" }, slots := #[none, none, some (Value.str (Str.ofString "LightValue") 279), some (Value.str (Str.ofString "LightValue") 287), some (Value.builtin "object.__new__"), some (Value.bool true)] }) ::
    (nat_lit 80, { cls := Value.type "getset_descriptor", data := Data.fields #[Value.str (Str.ofString "__dict__") 301, Value.ref 79, Value.builtin "function.__dict__", Value.builtin "function.__dict__#set"] }) ::
    (nat_lit 81, { cls := Value.type "getset_descriptor", data := Data.fields #[Value.str (Str.ofString "__weakref__") 303, Value.ref 79, Value.builtin "ExceptionGroup.__weakref__", Value.none] }) ::
    (nat_lit 84, { cls := Value.type "tuple", data := Data.seq #[] }) ::
    (nat_lit 86, { cls := Value.type "tuple", data := Data.seq #[Value.str (Str.ofString "value") 311] }) ::
    (nat_lit 87, { cls := Value.type "tuple", data := Data.seq #[] }) ::
    (nat_lit 89, { cls := Value.type "code", data := Data.fields #[Value.str (Str.ofString "type_of") 308, Value.str (Str.ofString "type_of") 309, Value.str (Str.ofString "/claim/cut.py") 310, Value.int 28 0, Value.int 1 0, Value.int 0 0, Value.int 0 0, Value.int 3 0, Value.ref 84, Value.bool true, Value.int 181 0, Value.ref 85, Value.none, Value.ref 86, Value.ref 87, Value.ref 88, Value.int 312 0, Value.int 28 0, Value.str (Str.ofString "/claim/cut.py") 313] }) ::
    (nat_lit 90, { cls := Value.type "function", data := Data.func { name := Str.ofString "type_of", qualname := Str.ofString "type_of", params := ?a90, body := FuncBody.stmts ?b90, scope := ?s90, globals := 3, closure := [], defaults := Value.none, kwdefaults := Value.none, pyModule := Value.str (Str.ofString "lua.values") 202, code := Value.ref 89 } }) ::
    (nat_lit 91, { cls := Value.type "tuple", data := Data.seq #[] }) ::
    (nat_lit 93, { cls := Value.type "tuple", data := Data.seq #[Value.str (Str.ofString "n") 318, Value.str (Str.ofString "width") 319, Value.str (Str.ofString "low") 320] }) ::
    (nat_lit 94, { cls := Value.type "tuple", data := Data.seq #[] }) ::
    (nat_lit 96, { cls := Value.type "code", data := Data.fields #[Value.str (Str.ofString "wrap") 315, Value.str (Str.ofString "wrap") 316, Value.str (Str.ofString "/claim/cut.py") 317, Value.int 42 0, Value.int 2 0, Value.int 0 0, Value.int 0 0, Value.int 3 0, Value.ref 91, Value.bool true, Value.int 181 0, Value.ref 92, Value.none, Value.ref 93, Value.ref 94, Value.ref 95, Value.int 321 0, Value.int 42 0, Value.str (Str.ofString "/claim/cut.py") 322] }) ::
    (nat_lit 97, { cls := Value.type "function", data := Data.func { name := Str.ofString "wrap", qualname := Str.ofString "wrap", params := ?a97, body := FuncBody.stmts ?b97, scope := ?s97, globals := 3, closure := [], defaults := Value.none, kwdefaults := Value.none, pyModule := Value.str (Str.ofString "lua.values") 202, code := Value.ref 96 } }) ::
    (nat_lit 105, { cls := Value.type "tuple", data := Data.seq #[Value.none, Value.int 0 338] }) ::
    (nat_lit 106, { cls := Value.type "tuple", data := Data.seq #[] }) ::
    (nat_lit 108, { cls := Value.type "tuple", data := Data.seq #[Value.str (Str.ofString "self") 342, Value.str (Str.ofString "data") 343, Value.str (Str.ofString "width") 344, Value.str (Str.ofString "most_deep") 345, Value.str (Str.ofString "name") 346, Value.str (Str.ofString "sizes") 347, Value.str (Str.ofString "more") 348, Value.str (Str.ofString "levels") 349] }) ::
    (nat_lit 109, { cls := Value.type "tuple", data := Data.seq #[] }) ::
    (nat_lit 111, { cls := Value.type "code", data := Data.fields #[Value.str (Str.ofString "__init__") 339, Value.str (Str.ofString "Reader.__init__") 340, Value.str (Str.ofString "/claim/cut.py") 341, Value.int 50 0, Value.int 8 0, Value.int 0 0, Value.int 0 0, Value.int 3 0, Value.ref 106, Value.bool true, Value.int 181 0, Value.ref 107, Value.none, Value.ref 108, Value.ref 109, Value.ref 110, Value.int 350 0, Value.int 50 0, Value.str (Str.ofString "/claim/cut.py") 351] }) ::
    (nat_lit 112, { cls := Value.type "function", data := Data.func { name := Str.ofString "__init__", qualname := Str.ofString "Reader.__init__", params := ?a112, body := FuncBody.stmts ?b112, scope := ?s112, globals := 3, closure := [], defaults := Value.ref 105, kwdefaults := Value.none, pyModule := Value.str (Str.ofString "lua.dumpin") 324, code := Value.ref 111 } }) ::
    (nat_lit 113, { cls := Value.type "tuple", data := Data.seq #[] }) ::
    (nat_lit 115, { cls := Value.type "tuple", data := Data.seq #[Value.str (Str.ofString "self") 356, Value.str (Str.ofString "why") 357] }) ::
    (nat_lit 116, { cls := Value.type "tuple", data := Data.seq #[] }) ::
    (nat_lit 118, { cls := Value.type "code", data := Data.fields #[Value.str (Str.ofString "fail") 353, Value.str (Str.ofString "Reader.fail") 354, Value.str (Str.ofString "/claim/cut.py") 355, Value.int 60 0, Value.int 2 0, Value.int 0 0, Value.int 0 0, Value.int 3 0, Value.ref 113, Value.bool true, Value.int 181 0, Value.ref 114, Value.none, Value.ref 115, Value.ref 116, Value.ref 117, Value.int 358 0, Value.int 60 0, Value.str (Str.ofString "/claim/cut.py") 359] }) ::
    (nat_lit 119, { cls := Value.type "function", data := Data.func { name := Str.ofString "fail", qualname := Str.ofString "Reader.fail", params := ?a119, body := FuncBody.stmts ?b119, scope := ?s119, globals := 3, closure := [], defaults := Value.none, kwdefaults := Value.none, pyModule := Value.str (Str.ofString "lua.dumpin") 324, code := Value.ref 118 } }) ::
    (nat_lit 120, { cls := Value.type "tuple", data := Data.seq #[] }) ::
    (nat_lit 122, { cls := Value.type "tuple", data := Data.seq #[Value.str (Str.ofString "self") 364, Value.str (Str.ofString "size") 365, Value.str (Str.ofString "left") 366, Value.str (Str.ofString "pieces") 367, Value.str (Str.ofString "many") 368, Value.str (Str.ofString "piece") 369] }) ::
    (nat_lit 123, { cls := Value.type "tuple", data := Data.seq #[] }) ::
    (nat_lit 125, { cls := Value.type "code", data := Data.fields #[Value.str (Str.ofString "need") 361, Value.str (Str.ofString "Reader.need") 362, Value.str (Str.ofString "/claim/cut.py") 363, Value.int 63 0, Value.int 2 0, Value.int 0 0, Value.int 0 0, Value.int 3 0, Value.ref 120, Value.bool true, Value.int 181 0, Value.ref 121, Value.none, Value.ref 122, Value.ref 123, Value.ref 124, Value.int 370 0, Value.int 63 0, Value.str (Str.ofString "/claim/cut.py") 371] }) ::
    (nat_lit 126, { cls := Value.type "function", data := Data.func { name := Str.ofString "need", qualname := Str.ofString "Reader.need", params := ?a126, body := FuncBody.stmts ?b126, scope := ?s126, globals := 3, closure := [], defaults := Value.none, kwdefaults := Value.none, pyModule := Value.str (Str.ofString "lua.dumpin") 324, code := Value.ref 125 } }) ::
    (nat_lit 127, { cls := Value.type "tuple", data := Data.seq #[] }) ::
    (nat_lit 129, { cls := Value.type "tuple", data := Data.seq #[Value.str (Str.ofString "self") 376, Value.str (Str.ofString "size") 377, Value.str (Str.ofString "found") 378] }) ::
    (nat_lit 130, { cls := Value.type "tuple", data := Data.seq #[] }) ::
    (nat_lit 132, { cls := Value.type "code", data := Data.fields #[Value.str (Str.ofString "block") 373, Value.str (Str.ofString "Reader.block") 374, Value.str (Str.ofString "/claim/cut.py") 375, Value.int 74 0, Value.int 2 0, Value.int 0 0, Value.int 0 0, Value.int 3 0, Value.ref 127, Value.bool true, Value.int 181 0, Value.ref 128, Value.none, Value.ref 129, Value.ref 130, Value.ref 131, Value.int 379 0, Value.int 74 0, Value.str (Str.ofString "/claim/cut.py") 380] }) ::
    (nat_lit 133, { cls := Value.type "function", data := Data.func { name := Str.ofString "block", qualname := Str.ofString "Reader.block", params := ?a133, body := FuncBody.stmts ?b133, scope := ?s133, globals := 3, closure := [], defaults := Value.none, kwdefaults := Value.none, pyModule := Value.str (Str.ofString "lua.dumpin") 324, code := Value.ref 132 } }) ::
    (nat_lit 134, { cls := Value.type "tuple", data := Data.seq #[] }) ::
    (nat_lit 136, { cls := Value.type "tuple", data := Data.seq #[Value.str (Str.ofString "self") 385, Value.str (Str.ofString "size") 386, Value.str (Str.ofString "found") 387, Value.str (Str.ofString "block") 388, Value.str (Str.ofString "at") 389] }) ::
    (nat_lit 137, { cls := Value.type "tuple", data := Data.seq #[] }) ::
    (nat_lit 139, { cls := Value.type "code", data := Data.fields #[Value.str (Str.ofString "whole") 382, Value.str (Str.ofString "Reader.whole") 383, Value.str (Str.ofString "/claim/cut.py") 384, Value.int 81 0, Value.int 2 0, Value.int 0 0, Value.int 0 0, Value.int 3 0, Value.ref 134, Value.bool true, Value.int 181 0, Value.ref 135, Value.none, Value.ref 136, Value.ref 137, Value.ref 138, Value.int 390 0, Value.int 81 0, Value.str (Str.ofString "/claim/cut.py") 391] }) ::
    (nat_lit 140, { cls := Value.type "function", data := Data.func { name := Str.ofString "whole", qualname := Str.ofString "Reader.whole", params := ?a140, body := FuncBody.stmts ?b140, scope := ?s140, globals := 3, closure := [], defaults := Value.none, kwdefaults := Value.none, pyModule := Value.str (Str.ofString "lua.dumpin") 324, code := Value.ref 139 } }) ::
    (nat_lit 141, { cls := Value.type "tuple", data := Data.seq #[] }) ::
    (nat_lit 143, { cls := Value.type "tuple", data := Data.seq #[Value.str (Str.ofString "self") 396] }) ::
    (nat_lit 144, { cls := Value.type "tuple", data := Data.seq #[] }) ::
    (nat_lit 146, { cls := Value.type "code", data := Data.fields #[Value.str (Str.ofString "octet") 393, Value.str (Str.ofString "Reader.octet") 394, Value.str (Str.ofString "/claim/cut.py") 395, Value.int 87 0, Value.int 1 0, Value.int 0 0, Value.int 0 0, Value.int 3 0, Value.ref 141, Value.bool true, Value.int 181 0, Value.ref 142, Value.none, Value.ref 143, Value.ref 144, Value.ref 145, Value.int 397 0, Value.int 87 0, Value.str (Str.ofString "/claim/cut.py") 398] }) ::
    (nat_lit 147, { cls := Value.type "function", data := Data.func { name := Str.ofString "octet", qualname := Str.ofString "Reader.octet", params := ?a147, body := FuncBody.stmts ?b147, scope := ?s147, globals := 3, closure := [], defaults := Value.none, kwdefaults := Value.none, pyModule := Value.str (Str.ofString "lua.dumpin") 324, code := Value.ref 146 } }) ::
    (nat_lit 148, { cls := Value.type "tuple", data := Data.seq #[] }) ::
    (nat_lit 150, { cls := Value.type "tuple", data := Data.seq #[Value.str (Str.ofString "self") 403, Value.str (Str.ofString "found") 404] }) ::
    (nat_lit 151, { cls := Value.type "tuple", data := Data.seq #[] }) ::
    (nat_lit 153, { cls := Value.type "code", data := Data.fields #[Value.str (Str.ofString "integer") 400, Value.str (Str.ofString "Reader.integer") 401, Value.str (Str.ofString "/claim/cut.py") 402, Value.int 90 0, Value.int 1 0, Value.int 0 0, Value.int 0 0, Value.int 3 0, Value.ref 148, Value.bool true, Value.int 181 0, Value.ref 149, Value.none, Value.ref 150, Value.ref 151, Value.ref 152, Value.int 405 0, Value.int 90 0, Value.str (Str.ofString "/claim/cut.py") 406] }) ::
    (nat_lit 154, { cls := Value.type "function", data := Data.func { name := Str.ofString "integer", qualname := Str.ofString "Reader.integer", params := ?a154, body := FuncBody.stmts ?b154, scope := ?s154, globals := 3, closure := [], defaults := Value.none, kwdefaults := Value.none, pyModule := Value.str (Str.ofString "lua.dumpin") 324, code := Value.ref 153 } }) ::
    (nat_lit 155, { cls := Value.type "tuple", data := Data.seq #[] }) ::
    (nat_lit 157, { cls := Value.type "tuple", data := Data.seq #[Value.str (Str.ofString "self") 411, Value.str (Str.ofString "size") 412, Value.str (Str.ofString "found") 413] }) ::
    (nat_lit 158, { cls := Value.type "tuple", data := Data.seq #[] }) ::
    (nat_lit 160, { cls := Value.type "code", data := Data.fields #[Value.str (Str.ofString "count") 408, Value.str (Str.ofString "Reader.count") 409, Value.str (Str.ofString "/claim/cut.py") 410, Value.int 96 0, Value.int 2 0, Value.int 0 0, Value.int 0 0, Value.int 3 0, Value.ref 155, Value.bool true, Value.int 181 0, Value.ref 156, Value.none, Value.ref 157, Value.ref 158, Value.ref 159, Value.int 414 0, Value.int 96 0, Value.str (Str.ofString "/claim/cut.py") 415] }) ::
    (nat_lit 161, { cls := Value.type "function", data := Data.func { name := Str.ofString "count", qualname := Str.ofString "Reader.count", params := ?a161, body := FuncBody.stmts ?b161, scope := ?s161, globals := 3, closure := [], defaults := Value.none, kwdefaults := Value.none, pyModule := Value.str (Str.ofString "lua.dumpin") 324, code := Value.ref 160 } }) ::
    (nat_lit 162, { cls := Value.type "tuple", data := Data.seq #[] }) ::
    (nat_lit 164, { cls := Value.type "tuple", data := Data.seq #[Value.str (Str.ofString "self") 420, Value.str (Str.ofString "found") 421] }) ::
    (nat_lit 165, { cls := Value.type "tuple", data := Data.seq #[] }) ::
    (nat_lit 167, { cls := Value.type "code", data := Data.fields #[Value.str (Str.ofString "number") 417, Value.str (Str.ofString "Reader.number") 418, Value.str (Str.ofString "/claim/cut.py") 419, Value.int 102 0, Value.int 1 0, Value.int 0 0, Value.int 0 0, Value.int 3 0, Value.ref 162, Value.bool true, Value.int 181 0, Value.ref 163, Value.none, Value.ref 164, Value.ref 165, Value.ref 166, Value.int 422 0, Value.int 102 0, Value.str (Str.ofString "/claim/cut.py") 423] }) ::
    (nat_lit 168, { cls := Value.type "function", data := Data.func { name := Str.ofString "number", qualname := Str.ofString "Reader.number", params := ?a168, body := FuncBody.stmts ?b168, scope := ?s168, globals := 3, closure := [], defaults := Value.none, kwdefaults := Value.none, pyModule := Value.str (Str.ofString "lua.dumpin") 324, code := Value.ref 167 } }) ::
    (nat_lit 169, { cls := Value.type "tuple", data := Data.seq #[] }) ::
    (nat_lit 171, { cls := Value.type "tuple", data := Data.seq #[Value.str (Str.ofString "self") 428, Value.str (Str.ofString "size") 429] }) ::
    (nat_lit 172, { cls := Value.type "tuple", data := Data.seq #[] }) ::
    (nat_lit 174, { cls := Value.type "code", data := Data.fields #[Value.str (Str.ofString "text") 425, Value.str (Str.ofString "Reader.text") 426, Value.str (Str.ofString "/claim/cut.py") 427, Value.int 108 0, Value.int 1 0, Value.int 0 0, Value.int 0 0, Value.int 3 0, Value.ref 169, Value.bool true, Value.int 181 0, Value.ref 170, Value.none, Value.ref 171, Value.ref 172, Value.ref 173, Value.int 430 0, Value.int 108 0, Value.str (Str.ofString "/claim/cut.py") 431] }) ::
    (nat_lit 175, { cls := Value.type "function", data := Data.func { name := Str.ofString "text", qualname := Str.ofString "Reader.text", params := ?a175, body := FuncBody.stmts ?b175, scope := ?s175, globals := 3, closure := [], defaults := Value.none, kwdefaults := Value.none, pyModule := Value.str (Str.ofString "lua.dumpin") 324, code := Value.ref 174 } }) ::
    (nat_lit 176, { cls := Value.type "tuple", data := Data.seq #[] }) ::
    (nat_lit 178, { cls := Value.type "tuple", data := Data.seq #[Value.str (Str.ofString "self") 436, Value.str (Str.ofString "kind") 437, Value.str (Str.ofString "found") 438] }) ::
    (nat_lit 179, { cls := Value.type "tuple", data := Data.seq #[] }) ::
    (nat_lit 181, { cls := Value.type "code", data := Data.fields #[Value.str (Str.ofString "constant") 433, Value.str (Str.ofString "Reader.constant") 434, Value.str (Str.ofString "/claim/cut.py") 435, Value.int 114 0, Value.int 1 0, Value.int 0 0, Value.int 0 0, Value.int 3 0, Value.ref 176, Value.bool true, Value.int 181 0, Value.ref 177, Value.none, Value.ref 178, Value.ref 179, Value.ref 180, Value.int 439 0, Value.int 114 0, Value.str (Str.ofString "/claim/cut.py") 440] }) ::
    (nat_lit 182, { cls := Value.type "function", data := Data.func { name := Str.ofString "constant", qualname := Str.ofString "Reader.constant", params := ?a182, body := FuncBody.stmts ?b182, scope := ?s182, globals := 3, closure := [], defaults := Value.none, kwdefaults := Value.none, pyModule := Value.str (Str.ofString "lua.dumpin") 324, code := Value.ref 181 } }) ::
    (nat_lit 183, { cls := Value.type "tuple", data := Data.seq #[] }) ::
    (nat_lit 185, { cls := Value.type "tuple", data := Data.seq #[Value.str (Str.ofString "self") 445, Value.str (Str.ofString "proto") 446] }) ::
    (nat_lit 186, { cls := Value.type "tuple", data := Data.seq #[] }) ::
    (nat_lit 188, { cls := Value.type "code", data := Data.fields #[Value.str (Str.ofString "code") 442, Value.str (Str.ofString "Reader.code") 443, Value.str (Str.ofString "/claim/cut.py") 444, Value.int 129 0, Value.int 2 0, Value.int 0 0, Value.int 0 0, Value.int 3 0, Value.ref 183, Value.bool true, Value.int 181 0, Value.ref 184, Value.none, Value.ref 185, Value.ref 186, Value.ref 187, Value.int 447 0, Value.int 129 0, Value.str (Str.ofString "/claim/cut.py") 448] }) ::
    (nat_lit 189, { cls := Value.type "function", data := Data.func { name := Str.ofString "code", qualname := Str.ofString "Reader.code", params := ?a189, body := FuncBody.stmts ?b189, scope := ?s189, globals := 3, closure := [], defaults := Value.none, kwdefaults := Value.none, pyModule := Value.str (Str.ofString "lua.dumpin") 324, code := Value.ref 188 } }) ::
    (nat_lit 190, { cls := Value.type "tuple", data := Data.seq #[] }) ::
    (nat_lit 192, { cls := Value.type "tuple", data := Data.seq #[Value.str (Str.ofString "self") 453, Value.str (Str.ofString "proto") 454] }) ::
    (nat_lit 193, { cls := Value.type "tuple", data := Data.seq #[] }) ::
    (nat_lit 195, { cls := Value.type "code", data := Data.fields #[Value.str (Str.ofString "constants") 450, Value.str (Str.ofString "Reader.constants") 451, Value.str (Str.ofString "/claim/cut.py") 452, Value.int 132 0, Value.int 2 0, Value.int 0 0, Value.int 0 0, Value.int 3 0, Value.ref 190, Value.bool true, Value.int 181 0, Value.ref 191, Value.none, Value.ref 192, Value.ref 193, Value.ref 194, Value.int 455 0, Value.int 132 0, Value.str (Str.ofString "/claim/cut.py") 456] }) ::
    (nat_lit 196, { cls := Value.type "function", data := Data.func { name := Str.ofString "constants", qualname := Str.ofString "Reader.constants", params := ?a196, body := FuncBody.stmts ?b196, scope := ?s196, globals := 3, closure := [], defaults := Value.none, kwdefaults := Value.none, pyModule := Value.str (Str.ofString "lua.dumpin") 324, code := Value.ref 195 } }) ::
    (nat_lit 197, { cls := Value.type "tuple", data := Data.seq #[] }) ::
    (nat_lit 199, { cls := Value.type "tuple", data := Data.seq #[Value.str (Str.ofString "self") 461, Value.str (Str.ofString "proto") 462] }) ::
    (nat_lit 200, { cls := Value.type "tuple", data := Data.seq #[] }) ::
    (nat_lit 202, { cls := Value.type "code", data := Data.fields #[Value.str (Str.ofString "lines_and_names") 458, Value.str (Str.ofString "Reader.lines_and_names") 459, Value.str (Str.ofString "/claim/cut.py") 460, Value.int 135 0, Value.int 2 0, Value.int 0 0, Value.int 0 0, Value.int 3 0, Value.ref 197, Value.bool true, Value.int 181 0, Value.ref 198, Value.none, Value.ref 199, Value.ref 200, Value.ref 201, Value.int 463 0, Value.int 135 0, Value.str (Str.ofString "/claim/cut.py") 464] }) ::
    (nat_lit 203, { cls := Value.type "function", data := Data.func { name := Str.ofString "lines_and_names", qualname := Str.ofString "Reader.lines_and_names", params := ?a203, body := FuncBody.stmts ?b203, scope := ?s203, globals := 3, closure := [], defaults := Value.none, kwdefaults := Value.none, pyModule := Value.str (Str.ofString "lua.dumpin") 324, code := Value.ref 202 } }) ::
    (nat_lit 204, { cls := Value.type "tuple", data := Data.seq #[] }) ::
    (nat_lit 206, { cls := Value.type "tuple", data := Data.seq #[Value.str (Str.ofString "self") 469, Value.str (Str.ofString "outer_source") 470] }) ::
    (nat_lit 207, { cls := Value.type "tuple", data := Data.seq #[] }) ::
    (nat_lit 209, { cls := Value.type "code", data := Data.fields #[Value.str (Str.ofString "function") 466, Value.str (Str.ofString "Reader.function") 467, Value.str (Str.ofString "/claim/cut.py") 468, Value.int 138 0, Value.int 2 0, Value.int 0 0, Value.int 0 0, Value.int 3 0, Value.ref 204, Value.bool true, Value.int 181 0, Value.ref 205, Value.none, Value.ref 206, Value.ref 207, Value.ref 208, Value.int 471 0, Value.int 138 0, Value.str (Str.ofString "/claim/cut.py") 472] }) ::
    (nat_lit 210, { cls := Value.type "function", data := Data.func { name := Str.ofString "function", qualname := Str.ofString "Reader.function", params := ?a210, body := FuncBody.stmts ?b210, scope := ?s210, globals := 3, closure := [], defaults := Value.none, kwdefaults := Value.none, pyModule := Value.str (Str.ofString "lua.dumpin") 324, code := Value.ref 209 } }) ::
    (nat_lit 211, { cls := Value.type "tuple", data := Data.seq #[Value.str (Str.ofString "at") 474, Value.str (Str.ofString "data") 475, Value.str (Str.ofString "depth") 476, Value.str (Str.ofString "length_size") 477, Value.str (Str.ofString "more") 478, Value.str (Str.ofString "most_deep") 479, Value.str (Str.ofString "name") 480, Value.str (Str.ofString "number_size") 481, Value.str (Str.ofString "width") 482] }) ::
    (nat_lit 212, { cls := Value.type "dict", data := Data.dict #[{ hash := PyData.keyHash P (Str.ofString "__module__"), key := Value.str (Str.ofString "__module__") 333, val := Value.str (Str.ofString "lua.dumpin") 324 }, { hash := PyData.keyHash P (Str.ofString "__firstlineno__"), key := Value.str (Str.ofString "__firstlineno__") 337, val := Value.int 48 336 }, { hash := PyData.keyHash P (Str.ofString "__init__"), key := Value.str (Str.ofString "__init__") 352, val := Value.ref 112 }, { hash := PyData.keyHash P (Str.ofString "fail"), key := Value.str (Str.ofString "fail") 360, val := Value.ref 119 }, { hash := PyData.keyHash P (Str.ofString "need"), key := Value.str (Str.ofString "need") 372, val := Value.ref 126 }, { hash := PyData.keyHash P (Str.ofString "block"), key := Value.str (Str.ofString "block") 381, val := Value.ref 133 }, { hash := PyData.keyHash P (Str.ofString "whole"), key := Value.str (Str.ofString "whole") 392, val := Value.ref 140 }, { hash := PyData.keyHash P (Str.ofString "octet"), key := Value.str (Str.ofString "octet") 399, val := Value.ref 147 }, { hash := PyData.keyHash P (Str.ofString "integer"), key := Value.str (Str.ofString "integer") 407, val := Value.ref 154 }, { hash := PyData.keyHash P (Str.ofString "count"), key := Value.str (Str.ofString "count") 416, val := Value.ref 161 }, { hash := PyData.keyHash P (Str.ofString "number"), key := Value.str (Str.ofString "number") 424, val := Value.ref 168 }, { hash := PyData.keyHash P (Str.ofString "text"), key := Value.str (Str.ofString "text") 432, val := Value.ref 175 }, { hash := PyData.keyHash P (Str.ofString "constant"), key := Value.str (Str.ofString "constant") 441, val := Value.ref 182 }, { hash := PyData.keyHash P (Str.ofString "code"), key := Value.str (Str.ofString "code") 449, val := Value.ref 189 }, { hash := PyData.keyHash P (Str.ofString "constants"), key := Value.str (Str.ofString "constants") 457, val := Value.ref 196 }, { hash := PyData.keyHash P (Str.ofString "lines_and_names"), key := Value.str (Str.ofString "lines_and_names") 465, val := Value.ref 203 }, { hash := PyData.keyHash P (Str.ofString "function"), key := Value.str (Str.ofString "function") 473, val := Value.ref 210 }, { hash := PyData.keyHash P (Str.ofString "__static_attributes__"), key := Value.str (Str.ofString "__static_attributes__") 483, val := Value.ref 211 }, { hash := PyData.keyHash P (Str.ofString "__dict__"), key := Value.str (Str.ofString "__dict__") 485, val := Value.ref 214 }, { hash := PyData.keyHash P (Str.ofString "__weakref__"), key := Value.str (Str.ofString "__weakref__") 487, val := Value.ref 215 }, { hash := PyData.keyHash P (Str.ofString "__doc__"), key := Value.str (Str.ofString "__doc__") 488, val := Value.none }] 4 }) ::
    (nat_lit 213, { cls := Value.type "type", data := Data.cls { name := Str.ofString "Reader", bases := [Value.type "object"], mro := [Value.ref 213, Value.type "object"], ns := 212, qualname := Str.ofString "Reader" }, slots := #[none, none, some (Value.str (Str.ofString "Reader") 326), some (Value.str (Str.ofString "Reader") 334), some (Value.builtin "object.__new__"), some (Value.bool true)] }) ::
    (nat_lit 214, { cls := Value.type "getset_descriptor", data := Data.fields #[Value.str (Str.ofString "__dict__") 484, Value.ref 213, Value.builtin "function.__dict__", Value.builtin "function.__dict__#set"] }) ::
    (nat_lit 215, { cls := Value.type "getset_descriptor", data := Data.fields #[Value.str (Str.ofString "__weakref__") 486, Value.ref 213, Value.builtin "ExceptionGroup.__weakref__", Value.none] }) ::
    (nat_lit 225, { cls := Value.type "tuple", data := Data.seq #[] }) ::
    (nat_lit 227, { cls := Value.type "tuple", data := Data.seq #[Value.str (Str.ofString "self") 508, Value.str (Str.ofString "sizes") 509, Value.str (Str.ofString "is_stripped") 510] }) ::
    (nat_lit 228, { cls := Value.type "tuple", data := Data.seq #[] }) ::
    (nat_lit 230, { cls := Value.type "code", data := Data.fields #[Value.str (Str.ofString "__init__") 505, Value.str (Str.ofString "Writer.__init__") 506, Value.str (Str.ofString "/claim/cut.py") 507, Value.int 143 0, Value.int 3 0, Value.int 0 0, Value.int 0 0, Value.int 3 0, Value.ref 225, Value.bool true, Value.int 181 0, Value.ref 226, Value.none, Value.ref 227, Value.ref 228, Value.ref 229, Value.int 511 0, Value.int 143 0, Value.str (Str.ofString "/claim/cut.py") 512] }) ::
    (nat_lit 231, { cls := Value.type "function", data := Data.func { name := Str.ofString "__init__", qualname := Str.ofString "Writer.__init__", params := ?a231, body := FuncBody.stmts ?b231, scope := ?s231, globals := 3, closure := [], defaults := Value.none, kwdefaults := Value.none, pyModule := Value.str (Str.ofString "lua.dumpout") 491, code := Value.ref 230 } }) ::
    (nat_lit 232, { cls := Value.type "tuple", data := Data.seq #[] }) ::
    (nat_lit 235, { cls := Value.type "code", data := Data.fields #[Value.str (Str.ofString "whole") 514, Value.str (Str.ofString "Writer.whole") 515, Value.str (Str.ofString "/claim/cut.py") 516, Value.int 148 0, Value.int 3 0, Value.int 0 0, Value.int 0 0, Value.int 3 0, Value.ref 232, Value.bool true, Value.int 181 0, Value.ref 233, Value.none, Value.none, Value.none, Value.ref 234, Value.int 517 0, Value.int 148 0, Value.str (Str.ofString "/claim/cut.py") 518] }) ::
    (nat_lit 236, { cls := Value.type "function", data := Data.func { name := Str.ofString "whole", qualname := Str.ofString "Writer.whole", params := ?a236, body := FuncBody.stmts ?b236, scope := ?s236, globals := 3, closure := [], defaults := Value.none, kwdefaults := Value.none, pyModule := Value.str (Str.ofString "lua.dumpout") 491, code := Value.ref 235 } }) ::
    (nat_lit 237, { cls := Value.type "tuple", data := Data.seq #[] }) ::
    (nat_lit 239, { cls := Value.type "tuple", data := Data.seq #[Value.str (Str.ofString "self") 523, Value.str (Str.ofString "value") 524] }) ::
    (nat_lit 240, { cls := Value.type "tuple", data := Data.seq #[] }) ::
    (nat_lit 242, { cls := Value.type "code", data := Data.fields #[Value.str (Str.ofString "octet") 520, Value.str (Str.ofString "Writer.octet") 521, Value.str (Str.ofString "/claim/cut.py") 522, Value.int 153 0, Value.int 2 0, Value.int 0 0, Value.int 0 0, Value.int 3 0, Value.ref 237, Value.bool true, Value.int 181 0, Value.ref 238, Value.none, Value.ref 239, Value.ref 240, Value.ref 241, Value.int 525 0, Value.int 153 0, Value.str (Str.ofString "/claim/cut.py") 526] }) ::
    (nat_lit 243, { cls := Value.type "function", data := Data.func { name := Str.ofString "octet", qualname := Str.ofString "Writer.octet", params := ?a243, body := FuncBody.stmts ?b243, scope := ?s243, globals := 3, closure := [], defaults := Value.none, kwdefaults := Value.none, pyModule := Value.str (Str.ofString "lua.dumpout") 491, code := Value.ref 242 } }) ::
    (nat_lit 244, { cls := Value.type "tuple", data := Data.seq #[] }) ::
    (nat_lit 246, { cls := Value.type "tuple", data := Data.seq #[Value.str (Str.ofString "self") 531, Value.str (Str.ofString "value") 532] }) ::
    (nat_lit 247, { cls := Value.type "tuple", data := Data.seq #[] }) ::
    (nat_lit 249, { cls := Value.type "code", data := Data.fields #[Value.str (Str.ofString "integer") 528, Value.str (Str.ofString "Writer.integer") 529, Value.str (Str.ofString "/claim/cut.py") 530, Value.int 156 0, Value.int 2 0, Value.int 0 0, Value.int 0 0, Value.int 3 0, Value.ref 244, Value.bool true, Value.int 181 0, Value.ref 245, Value.none, Value.ref 246, Value.ref 247, Value.ref 248, Value.int 533 0, Value.int 156 0, Value.str (Str.ofString "/claim/cut.py") 534] }) ::
    (nat_lit 250, { cls := Value.type "function", data := Data.func { name := Str.ofString "integer", qualname := Str.ofString "Writer.integer", params := ?a250, body := FuncBody.stmts ?b250, scope := ?s250, globals := 3, closure := [], defaults := Value.none, kwdefaults := Value.none, pyModule := Value.str (Str.ofString "lua.dumpout") 491, code := Value.ref 249 } }) ::
    (nat_lit 251, { cls := Value.type "tuple", data := Data.seq #[] }) ::
    (nat_lit 253, { cls := Value.type "tuple", data := Data.seq #[Value.str (Str.ofString "self") 539, Value.str (Str.ofString "value") 540, Value.str (Str.ofString "half") 541] }) ::
    (nat_lit 254, { cls := Value.type "tuple", data := Data.seq #[] }) ::
    (nat_lit 256, { cls := Value.type "code", data := Data.fields #[Value.str (Str.ofString "number") 536, Value.str (Str.ofString "Writer.number") 537, Value.str (Str.ofString "/claim/cut.py") 538, Value.int 161 0, Value.int 2 0, Value.int 0 0, Value.int 0 0, Value.int 3 0, Value.ref 251, Value.bool true, Value.int 181 0, Value.ref 252, Value.none, Value.ref 253, Value.ref 254, Value.ref 255, Value.int 542 0, Value.int 161 0, Value.str (Str.ofString "/claim/cut.py") 543] }) ::
    (nat_lit 257, { cls := Value.type "function", data := Data.func { name := Str.ofString "number", qualname := Str.ofString "Writer.number", params := ?a257, body := FuncBody.stmts ?b257, scope := ?s257, globals := 3, closure := [], defaults := Value.none, kwdefaults := Value.none, pyModule := Value.str (Str.ofString "lua.dumpout") 491, code := Value.ref 256 } }) ::
    (nat_lit 258, { cls := Value.type "tuple", data := Data.seq #[] }) ::
    (nat_lit 260, { cls := Value.type "tuple", data := Data.seq #[Value.str (Str.ofString "self") 548, Value.str (Str.ofString "value") 549] }) ::
    (nat_lit 261, { cls := Value.type "tuple", data := Data.seq #[] }) ::
    (nat_lit 263, { cls := Value.type "code", data := Data.fields #[Value.str (Str.ofString "text") 545, Value.str (Str.ofString "Writer.text") 546, Value.str (Str.ofString "/claim/cut.py") 547, Value.int 167 0, Value.int 2 0, Value.int 0 0, Value.int 0 0, Value.int 3 0, Value.ref 258, Value.bool true, Value.int 181 0, Value.ref 259, Value.none, Value.ref 260, Value.ref 261, Value.ref 262, Value.int 550 0, Value.int 167 0, Value.str (Str.ofString "/claim/cut.py") 551] }) ::
    (nat_lit 264, { cls := Value.type "function", data := Data.func { name := Str.ofString "text", qualname := Str.ofString "Writer.text", params := ?a264, body := FuncBody.stmts ?b264, scope := ?s264, globals := 3, closure := [], defaults := Value.none, kwdefaults := Value.none, pyModule := Value.str (Str.ofString "lua.dumpout") 491, code := Value.ref 263 } }) ::
    (nat_lit 265, { cls := Value.type "tuple", data := Data.seq #[] }) ::
    (nat_lit 267, { cls := Value.type "tuple", data := Data.seq #[Value.str (Str.ofString "self") 556, Value.str (Str.ofString "value") 557, Value.str (Str.ofString "kind") 558] }) ::
    (nat_lit 268, { cls := Value.type "tuple", data := Data.seq #[] }) ::
    (nat_lit 270, { cls := Value.type "code", data := Data.fields #[Value.str (Str.ofString "constant") 553, Value.str (Str.ofString "Writer.constant") 554, Value.str (Str.ofString "/claim/cut.py") 555, Value.int 175 0, Value.int 2 0, Value.int 0 0, Value.int 0 0, Value.int 3 0, Value.ref 265, Value.bool true, Value.int 181 0, Value.ref 266, Value.none, Value.ref 267, Value.ref 268, Value.ref 269, Value.int 559 0, Value.int 175 0, Value.str (Str.ofString "/claim/cut.py") 560] }) ::
    (nat_lit 271, { cls := Value.type "function", data := Data.func { name := Str.ofString "constant", qualname := Str.ofString "Writer.constant", params := ?a271, body := FuncBody.stmts ?b271, scope := ?s271, globals := 3, closure := [], defaults := Value.none, kwdefaults := Value.none, pyModule := Value.str (Str.ofString "lua.dumpout") 491, code := Value.ref 270 } }) ::
    (nat_lit 272, { cls := Value.type "tuple", data := Data.seq #[] }) ::
    (nat_lit 274, { cls := Value.type "tuple", data := Data.seq #[Value.str (Str.ofString "self") 565, Value.str (Str.ofString "proto") 566] }) ::
    (nat_lit 275, { cls := Value.type "tuple", data := Data.seq #[] }) ::
    (nat_lit 277, { cls := Value.type "code", data := Data.fields #[Value.str (Str.ofString "constants") 562, Value.str (Str.ofString "Writer.constants") 563, Value.str (Str.ofString "/claim/cut.py") 564, Value.int 187 0, Value.int 2 0, Value.int 0 0, Value.int 0 0, Value.int 3 0, Value.ref 272, Value.bool true, Value.int 181 0, Value.ref 273, Value.none, Value.ref 274, Value.ref 275, Value.ref 276, Value.int 567 0, Value.int 187 0, Value.str (Str.ofString "/claim/cut.py") 568] }) ::
    (nat_lit 278, { cls := Value.type "function", data := Data.func { name := Str.ofString "constants", qualname := Str.ofString "Writer.constants", params := ?a278, body := FuncBody.stmts ?b278, scope := ?s278, globals := 3, closure := [], defaults := Value.none, kwdefaults := Value.none, pyModule := Value.str (Str.ofString "lua.dumpout") 491, code := Value.ref 277 } }) ::
    (nat_lit 279, { cls := Value.type "tuple", data := Data.seq #[] }) ::
    (nat_lit 281, { cls := Value.type "tuple", data := Data.seq #[Value.str (Str.ofString "self") 573, Value.str (Str.ofString "proto") 574] }) ::
    (nat_lit 282, { cls := Value.type "tuple", data := Data.seq #[] }) ::
    (nat_lit 284, { cls := Value.type "code", data := Data.fields #[Value.str (Str.ofString "code") 570, Value.str (Str.ofString "Writer.code") 571, Value.str (Str.ofString "/claim/cut.py") 572, Value.int 190 0, Value.int 2 0, Value.int 0 0, Value.int 0 0, Value.int 3 0, Value.ref 279, Value.bool true, Value.int 181 0, Value.ref 280, Value.none, Value.ref 281, Value.ref 282, Value.ref 283, Value.int 575 0, Value.int 190 0, Value.str (Str.ofString "/claim/cut.py") 576] }) ::
    (nat_lit 285, { cls := Value.type "function", data := Data.func { name := Str.ofString "code", qualname := Str.ofString "Writer.code", params := ?a285, body := FuncBody.stmts ?b285, scope := ?s285, globals := 3, closure := [], defaults := Value.none, kwdefaults := Value.none, pyModule := Value.str (Str.ofString "lua.dumpout") 491, code := Value.ref 284 } }) ::
    (nat_lit 286, { cls := Value.type "tuple", data := Data.seq #[] }) ::
    (nat_lit 288, { cls := Value.type "tuple", data := Data.seq #[Value.str (Str.ofString "self") 581, Value.str (Str.ofString "proto") 582] }) ::
    (nat_lit 289, { cls := Value.type "tuple", data := Data.seq #[] }) ::
    (nat_lit 291, { cls := Value.type "code", data := Data.fields #[Value.str (Str.ofString "lines_and_names") 578, Value.str (Str.ofString "Writer.lines_and_names") 579, Value.str (Str.ofString "/claim/cut.py") 580, Value.int 193 0, Value.int 2 0, Value.int 0 0, Value.int 0 0, Value.int 3 0, Value.ref 286, Value.bool true, Value.int 181 0, Value.ref 287, Value.none, Value.ref 288, Value.ref 289, Value.ref 290, Value.int 583 0, Value.int 193 0, Value.str (Str.ofString "/claim/cut.py") 584] }) ::
    (nat_lit 292, { cls := Value.type "function", data := Data.func { name := Str.ofString "lines_and_names", qualname := Str.ofString "Writer.lines_and_names", params := ?a292, body := FuncBody.stmts ?b292, scope := ?s292, globals := 3, closure := [], defaults := Value.none, kwdefaults := Value.none, pyModule := Value.str (Str.ofString "lua.dumpout") 491, code := Value.ref 291 } }) ::
    (nat_lit 293, { cls := Value.type "tuple", data := Data.seq #[] }) ::
    (nat_lit 295, { cls := Value.type "tuple", data := Data.seq #[Value.str (Str.ofString "self") 589, Value.str (Str.ofString "proto") 590, Value.str (Str.ofString "outer_source") 591] }) ::
    (nat_lit 296, { cls := Value.type "tuple", data := Data.seq #[] }) ::
    (nat_lit 298, { cls := Value.type "code", data := Data.fields #[Value.str (Str.ofString "function") 586, Value.str (Str.ofString "Writer.function") 587, Value.str (Str.ofString "/claim/cut.py") 588, Value.int 196 0, Value.int 3 0, Value.int 0 0, Value.int 0 0, Value.int 3 0, Value.ref 293, Value.bool true, Value.int 181 0, Value.ref 294, Value.none, Value.ref 295, Value.ref 296, Value.ref 297, Value.int 592 0, Value.int 196 0, Value.str (Str.ofString "/claim/cut.py") 593] }) ::
    (nat_lit 299, { cls := Value.type "function", data := Data.func { name := Str.ofString "function", qualname := Str.ofString "Writer.function", params := ?a299, body := FuncBody.stmts ?b299, scope := ?s299, globals := 3, closure := [], defaults := Value.none, kwdefaults := Value.none, pyModule := Value.str (Str.ofString "lua.dumpout") 491, code := Value.ref 298 } }) ::
    (nat_lit 300, { cls := Value.type "tuple", data := Data.seq #[Value.str (Str.ofString "is_stripped") 595, Value.str (Str.ofString "length_size") 596, Value.str (Str.ofString "number_size") 597, Value.str (Str.ofString "pieces") 598] }) ::
    (nat_lit 301, { cls := Value.type "dict", data := Data.dict #[{ hash := PyData.keyHash P (Str.ofString "__module__"), key := Value.str (Str.ofString "__module__") 500, val := Value.str (Str.ofString "lua.dumpout") 491 }, { hash := PyData.keyHash P (Str.ofString "__firstlineno__"), key := Value.str (Str.ofString "__firstlineno__") 504, val := Value.int 141 503 }, { hash := PyData.keyHash P (Str.ofString "__init__"), key := Value.str (Str.ofString "__init__") 513, val := Value.ref 231 }, { hash := PyData.keyHash P (Str.ofString "whole"), key := Value.str (Str.ofString "whole") 519, val := Value.ref 236 }, { hash := PyData.keyHash P (Str.ofString "octet"), key := Value.str (Str.ofString "octet") 527, val := Value.ref 243 }, { hash := PyData.keyHash P (Str.ofString "integer"), key := Value.str (Str.ofString "integer") 535, val := Value.ref 250 }, { hash := PyData.keyHash P (Str.ofString "number"), key := Value.str (Str.ofString "number") 544, val := Value.ref 257 }, { hash := PyData.keyHash P (Str.ofString "text"), key := Value.str (Str.ofString "text") 552, val := Value.ref 264 }, { hash := PyData.keyHash P (Str.ofString "constant"), key := Value.str (Str.ofString "constant") 561, val := Value.ref 271 }, { hash := PyData.keyHash P (Str.ofString "constants"), key := Value.str (Str.ofString "constants") 569, val := Value.ref 278 }, { hash := PyData.keyHash P (Str.ofString "code"), key := Value.str (Str.ofString "code") 577, val := Value.ref 285 }, { hash := PyData.keyHash P (Str.ofString "lines_and_names"), key := Value.str (Str.ofString "lines_and_names") 585, val := Value.ref 292 }, { hash := PyData.keyHash P (Str.ofString "function"), key := Value.str (Str.ofString "function") 594, val := Value.ref 299 }, { hash := PyData.keyHash P (Str.ofString "__static_attributes__"), key := Value.str (Str.ofString "__static_attributes__") 599, val := Value.ref 300 }, { hash := PyData.keyHash P (Str.ofString "__dict__"), key := Value.str (Str.ofString "__dict__") 601, val := Value.ref 303 }, { hash := PyData.keyHash P (Str.ofString "__weakref__"), key := Value.str (Str.ofString "__weakref__") 603, val := Value.ref 304 }, { hash := PyData.keyHash P (Str.ofString "__doc__"), key := Value.str (Str.ofString "__doc__") 604, val := Value.none }] 4 }) ::
    (nat_lit 302, { cls := Value.type "type", data := Data.cls { name := Str.ofString "Writer", bases := [Value.type "object"], mro := [Value.ref 302, Value.type "object"], ns := 301, qualname := Str.ofString "Writer" }, slots := #[none, none, some (Value.str (Str.ofString "Writer") 493), some (Value.str (Str.ofString "Writer") 501), some (Value.builtin "object.__new__"), some (Value.bool true)] }) ::
    (nat_lit 303, { cls := Value.type "getset_descriptor", data := Data.fields #[Value.str (Str.ofString "__dict__") 600, Value.ref 302, Value.builtin "function.__dict__", Value.builtin "function.__dict__#set"] }) ::
    (nat_lit 304, { cls := Value.type "getset_descriptor", data := Data.fields #[Value.str (Str.ofString "__weakref__") 602, Value.ref 302, Value.builtin "ExceptionGroup.__weakref__", Value.none] }) ::
    (nat_lit 307, { cls := Value.type "tuple", data := Data.seq #[] }) ::
    (nat_lit 309, { cls := Value.type "tuple", data := Data.seq #[Value.str (Str.ofString "roll") 612, Value.str (Str.ofString "bound") 613, Value.str (Str.ofString "spot") 614] }) ::
    (nat_lit 310, { cls := Value.type "tuple", data := Data.seq #[] }) ::
    (nat_lit 312, { cls := Value.type "code", data := Data.fields #[Value.str (Str.ofString "_law_cut") 609, Value.str (Str.ofString "_law_cut") 610, Value.str (Str.ofString "/claim/cut.py") 611, Value.int 199 0, Value.int 2 0, Value.int 0 0, Value.int 0 0, Value.int 3 0, Value.ref 307, Value.bool true, Value.int 181 0, Value.ref 308, Value.none, Value.ref 309, Value.ref 310, Value.ref 311, Value.int 615 0, Value.int 199 0, Value.str (Str.ofString "/claim/cut.py") 616] }) ::
    (nat_lit 313, { cls := Value.type "function", data := Data.func { name := Str.ofString "_law_cut", qualname := Str.ofString "_law_cut", params := ?a313, body := FuncBody.stmts ?b313, scope := ?s313, globals := 3, closure := [], defaults := Value.none, kwdefaults := Value.none, pyModule := Value.str (Str.ofString "law_sm0057_01") 607, code := Value.ref 312 } }) ::
    (nat_lit 314, { cls := Value.type "tuple", data := Data.seq #[] }) ::
    (nat_lit 317, { cls := Value.type "code", data := Data.fields #[Value.str (Str.ofString "_law_letters") 618, Value.str (Str.ofString "_law_letters") 619, Value.str (Str.ofString "/claim/cut.py") 620, Value.int 203 0, Value.int 1 0, Value.int 0 0, Value.int 0 0, Value.int 3 0, Value.ref 314, Value.bool true, Value.int 181 0, Value.ref 315, Value.none, Value.none, Value.none, Value.ref 316, Value.int 621 0, Value.int 203 0, Value.str (Str.ofString "/claim/cut.py") 622] }) ::
    (nat_lit 318, { cls := Value.type "function", data := Data.func { name := Str.ofString "_law_letters", qualname := Str.ofString "_law_letters", params := ?a318, body := FuncBody.stmts ?b318, scope := ?s318, globals := 3, closure := [], defaults := Value.none, kwdefaults := Value.none, pyModule := Value.str (Str.ofString "law_sm0057_01") 607, code := Value.ref 317 } }) ::
    (nat_lit 319, { cls := Value.type "tuple", data := Data.seq #[] }) ::
    (nat_lit 322, { cls := Value.type "code", data := Data.fields #[Value.str (Str.ofString "_law_thing") 624, Value.str (Str.ofString "_law_thing") 625, Value.str (Str.ofString "/claim/cut.py") 626, Value.int 206 0, Value.int 2 0, Value.int 0 0, Value.int 0 0, Value.int 3 0, Value.ref 319, Value.bool true, Value.int 181 0, Value.ref 320, Value.none, Value.none, Value.none, Value.ref 321, Value.int 627 0, Value.int 206 0, Value.str (Str.ofString "/claim/cut.py") 628] }) ::
    (nat_lit 323, { cls := Value.type "function", data := Data.func { name := Str.ofString "_law_thing", qualname := Str.ofString "_law_thing", params := ?a323, body := FuncBody.stmts ?b323, scope := ?s323, globals := 3, closure := [], defaults := Value.none, kwdefaults := Value.none, pyModule := Value.str (Str.ofString "law_sm0057_01") 607, code := Value.ref 322 } }) ::
    (nat_lit 324, { cls := Value.type "tuple", data := Data.seq #[] }) ::
    (nat_lit 326, { cls := Value.type "tuple", data := Data.seq #[Value.str (Str.ofString "writer") 633, Value.str (Str.ofString "thing") 634, Value.str (Str.ofString "kind") 635, Value.str (Str.ofString "value") 636, Value.str (Str.ofString "wide") 637, Value.str (Str.ofString "one") 638, Value.str (Str.ofString "work") 639] }) ::
    (nat_lit 327, { cls := Value.type "tuple", data := Data.seq #[] }) ::
    (nat_lit 329, { cls := Value.type "code", data := Data.fields #[Value.str (Str.ofString "_law_put") 630, Value.str (Str.ofString "_law_put") 631, Value.str (Str.ofString "/claim/cut.py") 632, Value.int 235 0, Value.int 2 0, Value.int 0 0, Value.int 0 0, Value.int 3 0, Value.ref 324, Value.bool true, Value.int 181 0, Value.ref 325, Value.none, Value.ref 326, Value.ref 327, Value.ref 328, Value.int 640 0, Value.int 235 0, Value.str (Str.ofString "/claim/cut.py") 641] }) ::
    (nat_lit 330, { cls := Value.type "function", data := Data.func { name := Str.ofString "_law_put", qualname := Str.ofString "_law_put", params := ?a330, body := FuncBody.stmts ?b330, scope := ?s330, globals := 3, closure := [], defaults := Value.none, kwdefaults := Value.none, pyModule := Value.str (Str.ofString "law_sm0057_01") 607, code := Value.ref 329 } }) ::
    (nat_lit 331, { cls := Value.type "tuple", data := Data.seq #[] }) ::
    (nat_lit 334, { cls := Value.type "code", data := Data.fields #[Value.str (Str.ofString "_law_got") 643, Value.str (Str.ofString "_law_got") 644, Value.str (Str.ofString "/claim/cut.py") 645, Value.int 250 0, Value.int 2 0, Value.int 0 0, Value.int 0 0, Value.int 3 0, Value.ref 331, Value.bool true, Value.int 181 0, Value.ref 332, Value.none, Value.none, Value.none, Value.ref 333, Value.int 646 0, Value.int 250 0, Value.str (Str.ofString "/claim/cut.py") 647] }) ::
    (nat_lit 335, { cls := Value.type "function", data := Data.func { name := Str.ofString "_law_got", qualname := Str.ofString "_law_got", params := ?a335, body := FuncBody.stmts ?b335, scope := ?s335, globals := 3, closure := [], defaults := Value.none, kwdefaults := Value.none, pyModule := Value.str (Str.ofString "law_sm0057_01") 607, code := Value.ref 334 } }) ::
    (nat_lit 336, { cls := Value.type "tuple", data := Data.seq #[] }) ::
    (nat_lit 338, { cls := Value.type "tuple", data := Data.seq #[Value.str (Str.ofString "thing") 652, Value.str (Str.ofString "width") 653, Value.str (Str.ofString "kind") 654, Value.str (Str.ofString "value") 655, Value.str (Str.ofString "half") 656] }) ::
    (nat_lit 339, { cls := Value.type "tuple", data := Data.seq #[] }) ::
    (nat_lit 341, { cls := Value.type "code", data := Data.fields #[Value.str (Str.ofString "_law_brought") 649, Value.str (Str.ofString "_law_brought") 650, Value.str (Str.ofString "/claim/cut.py") 651, Value.int 258 0, Value.int 2 0, Value.int 0 0, Value.int 0 0, Value.int 3 0, Value.ref 336, Value.bool true, Value.int 181 0, Value.ref 337, Value.none, Value.ref 338, Value.ref 339, Value.ref 340, Value.int 657 0, Value.int 258 0, Value.str (Str.ofString "/claim/cut.py") 658] }) ::
    (nat_lit 342, { cls := Value.type "function", data := Data.func { name := Str.ofString "_law_brought", qualname := Str.ofString "_law_brought", params := ?a342, body := FuncBody.stmts ?b342, scope := ?s342, globals := 3, closure := [], defaults := Value.none, kwdefaults := Value.none, pyModule := Value.str (Str.ofString "law_sm0057_01") 607, code := Value.ref 341 } }) ::
    (nat_lit 343, { cls := Value.type "tuple", data := Data.seq #[] }) ::
    (nat_lit 345, { cls := Value.type "tuple", data := Data.seq #[Value.str (Str.ofString "octets") 663, Value.str (Str.ofString "things") 664, Value.str (Str.ofString "sizes") 665, Value.str (Str.ofString "width") 666, Value.str (Str.ofString "step") 667, Value.str (Str.ofString "more") 668, Value.str (Str.ofString "reader") 669, Value.str (Str.ofString "gone") 670, Value.str (Str.ofString "thing") 671] }) ::
    (nat_lit 346, { cls := Value.type "tuple", data := Data.seq #[Value.str (Str.ofString "step") 672, Value.str (Str.ofString "hand") 673] }) ::
    (nat_lit 348, { cls := Value.type "code", data := Data.fields #[Value.str (Str.ofString "_law_read") 660, Value.str (Str.ofString "_law_read") 661, Value.str (Str.ofString "/claim/cut.py") 662, Value.int 264 0, Value.int 5 0, Value.int 0 0, Value.int 0 0, Value.int 3 0, Value.ref 343, Value.bool true, Value.int 181 0, Value.ref 344, Value.none, Value.ref 345, Value.ref 346, Value.ref 347, Value.int 674 0, Value.int 264 0, Value.str (Str.ofString "/claim/cut.py") 675] }) ::
    (nat_lit 349, { cls := Value.type "function", data := Data.func { name := Str.ofString "_law_read", qualname := Str.ofString "_law_read", params := ?a349, body := FuncBody.stmts ?b349, scope := ?s349, globals := 3, closure := [], defaults := Value.none, kwdefaults := Value.none, pyModule := Value.str (Str.ofString "law_sm0057_01") 607, code := Value.ref 348 } }) ::
    (nat_lit 350, { cls := Value.type "tuple", data := Data.seq #[] }) ::
    (nat_lit 352, { cls := Value.type "tuple", data := Data.seq #[Value.str (Str.ofString "script") 680, Value.str (Str.ofString "roll") 681, Value.str (Str.ofString "sizes") 682, Value.str (Str.ofString "width") 683, Value.str (Str.ofString "writer") 684, Value.str (Str.ofString "octets") 685, Value.str (Str.ofString "things") 686, Value.str (Str.ofString "turn") 687, Value.str (Str.ofString "thing") 688, Value.str (Str.ofString "is_let") 689, Value.str (Str.ofString "behind") 690, Value.str (Str.ofString "piece") 691] }) ::
    (nat_lit 353, { cls := Value.type "tuple", data := Data.seq #[] }) ::
    (nat_lit 355, { cls := Value.type "code", data := Data.fields #[Value.str (Str.ofString "law") 677, Value.str (Str.ofString "law") 678, Value.str (Str.ofString "/claim/cut.py") 679, Value.int 282 0, Value.int 1 0, Value.int 0 0, Value.int 0 0, Value.int 3 0, Value.ref 350, Value.bool true, Value.int 181 0, Value.ref 351, Value.none, Value.ref 352, Value.ref 353, Value.ref 354, Value.int 692 0, Value.int 282 0, Value.str (Str.ofString "/claim/cut.py") 693] }) ::
    (nat_lit 356, { cls := Value.type "function", data := Data.func { name := Str.ofString "law", qualname := Str.ofString "law", params := ?a356, body := FuncBody.stmts ?b356, scope := ?s356, globals := 3, closure := [], defaults := Value.none, kwdefaults := Value.none, pyModule := Value.str (Str.ofString "law_sm0057_01") 607, code := Value.ref 355 } }) :: []) ?h
  case f => exact fun x _ => x
  case h => exact rfl
local macro_rules | `(tactic| walk_at $s:str) => `(tactic| k_extra $s)
local macro_rules | `(tactic| k_ne) => `(tactic| k_extra "NE")
example (w : World) (base : Heap) (X : (KF w.params).In base) : PySem.Challenge.rw_sm0057_01 = PySem.Challenge.rw_sm0057_01 := by
  revert X; k_fill; intro _; rfl
set_option maxHeartbeats 0
/-- the top's run over the tree heap, its parts as letters -/
def runG (thr ok : Thread → Bool) (st : SharedT → Thread → Option (SharedT × Thread)) : Nat → SharedT → Thread → Option SharedT
  | 0, _, _ => none
  | n + 1, s, t => match thr t with
    | true => some s
    | false => match ok t with
      | false => none
      | true => match st s t with
        | some (s', t') => runG thr ok st n s' t'
        | none => none
theorem topRun_of {tb : String → Option Builtin} {p : Program} {w : World} {n₀ : Nat} {ann : Option Value} : ∀ {n : Nat} {s s' : SharedT} {t : Thread},
    runG through (stepOk n₀ ann) (stepT (denote tb) p w) n s t = some s' → topRun tb p w n₀ ann n s.abs t = some s'.abs
  | 0, _, _, _, h => by cases h
  | n + 1, s, s', t, h => by
    unfold runG at h
    unfold topRun
    cases he : through t with
    | true => rw [he] at h; cases h; rfl
    | false =>
      rw [he] at h
      cases hk : stepOk n₀ ann t with
      | false => rw [hk] at h; cases h
      | true =>
        rw [hk] at h
        cases hs : stepT (denote tb) p w s t with
        | none => rw [hs] at h; cases h
        | some r => obtain ⟨s₂, t₂⟩ := r; rw [hs] at h; rw [stepT_spec hs]; exact topRun_of h
def treeOf : List Obj → Nat → BT → BT
  | [], _, t => t
  | o :: r, n, t => treeOf r (n + 1) (t.ins n o)
noncomputable abbrev bootT (w : World) (os : OsState) : SharedT := ⟨treeOf (boot_heap w.params).objs.toList 0 .nil, 11, (boot_heap w.params).life, Array.mk [], boot_drawn, boot_toks, os⟩

/-- one run over the tree, and all the looks at its end -/
theorem left_once {p q : Program} {loose : List Str} {Xt : Shared → Bool} {α : Type} {Yf : Shared → α} {Ya : World → α} {N : Nat} {ann : Option Value}
    (open_ : ∀ w : World, (fencedOpening treeTable p w N).map (fun s => (s.heap, s.gens, s.drawn, s.toks)) = some (boot_heap w.params, Array.mk [], boot_drawn, boot_toks))
    (tree : ∀ P : Params, absHeap (treeOf (boot_heap P).objs.toList 0 .nil) 11 (boot_heap P).life = boot_heap P)
    (size : ∀ w : World, ((boot_heap w.params).isNs mainGlobals && (Array.mk [] : Array GenState).size == 0, (boot_heap w.params).objs.size, (boot_heap w.params).nsMap mainGlobals "__annotations__") = (true, 11, ann))
    (once : ∀ (w : World) (os : OsState), (runG through (stepOk 11 ann) (stepT (denote treeTable) p w) N (bootT w os) (topStub p)).map (fun s =>
        ((staticsOk (importedModules p.main.body) (boot_heap w.params) s.abs.heap && namesBound p s.abs.heap && gensDone s.abs && laidKept (boot_heap w.params) s.abs.heap),
          openSeen q loose (importedModules p.main.body) Xt true s.abs, Yf s.abs)) = some (true, openGood q loose, Ya w)) : LeftO p q loose Xt Yf Ya N := fun w => by
  obtain ⟨⟨h, gs, d, k, os⟩, e, e'⟩ := Option.map_eq_some_iff.mp (open_ w)
  obtain ⟨rfl, rfl, rfl, rfl⟩ : h = boot_heap w.params ∧ gs = Array.mk [] ∧ d = boot_drawn ∧ k = boot_toks := by simpa using e'
  obtain ⟨z1, z2, z3⟩ : _ ∧ _ ∧ _ := by simpa only [Prod.mk.injEq] using size w
  obtain ⟨s, h1, h2⟩ := Option.map_eq_some_iff.mp (once w os)
  obtain ⟨l1, l2, l3⟩ : _ ∧ _ ∧ _ := by simpa only [Prod.mk.injEq] using h2
  have r := topRun_of h1
  have t : topFrom treeTable p w N ⟨boot_heap w.params, Array.mk [], boot_drawn, boot_toks, os⟩ = some s.abs := by
    unfold topFrom
    dsimp only
    rw [z1, z2, z3]
    unfold SharedT.abs at r
    dsimp only at r
    rw [tree] at r
    rw [r]
    show (match staticsOk (importedModules p.main.body) (boot_heap w.params) s.abs.heap && namesBound p s.abs.heap && gensDone s.abs && laidKept (boot_heap w.params) s.abs.heap with | true => _ | false => _) = _
    rw [l1]; rfl
  unfold openEnds
  rw [e]
  show (topFrom treeTable p w N _).map _ = _
  rw [t]
  exact congrArg some (Prod.ext l2 l3)

noncomputable def vw : Program := view PG [0, 1, 2, 4, 5, 6, 7, 8, 9, 10, 11, 12, 13, 14, 16, 18, 20, 21, 22, 23, 24, 25, 26, 27]
abbrev RWW := OpenRow.toRowW PySem.Challenge.rw_sm0057_01.row
abbrev asK : List Addr := [2, 3, 15, 17, 18, 20, 21, 22, 29, 31, 32, 34, 35, 36, 37, 38, 39, 49, 51, 52, 54, 55, 56, 57, 58, 59, 60, 70, 72, 73, 75, 76, 77, 78, 79, 80, 81, 84, 86, 87, 89, 90, 91, 93, 94, 96, 97, 105, 106, 108, 109, 111, 112, 113, 115, 116, 118, 119, 120, 122, 123, 125, 126, 127, 129, 130, 132, 133, 134, 136, 137, 139, 140, 141, 143, 144, 146, 147, 148, 150, 151, 153, 154, 155, 157, 158, 160, 161, 162, 164, 165, 167, 168, 169, 171, 172, 174, 175, 176, 178, 179, 181, 182, 183, 185, 186, 188, 189, 190, 192, 193, 195, 196, 197, 199, 200, 202, 203, 204, 206, 207, 209, 210, 211, 212, 213, 214, 215, 225, 227, 228, 230, 231, 232, 235, 236, 237, 239, 240, 242, 243, 244, 246, 247, 249, 250, 251, 253, 254, 256, 257, 258, 260, 261, 263, 264, 265, 267, 268, 270, 271, 272, 274, 275, 277, 278, 279, 281, 282, 284, 285, 286, 288, 289, 291, 292, 293, 295, 296, 298, 299, 300, 301, 302, 303, 304, 307, 309, 310, 312, 313, 314, 317, 318, 319, 322, 323, 324, 326, 327, 329, 330, 331, 334, 335, 336, 338, 339, 341, 342, 343, 345, 346, 348, 349, 350, 352, 353, 355, 356]
abbrev loose : List Str := [Str.ofString "GREATEST_INT", Str.ofString "HeapObject"]
abbrev lv : List (Str × WData) := [(Str.ofString "GREATEST_INT", WData.int 2147483647)]
theorem size_ok : ∀ w : World, ((boot_heap w.params).isNs mainGlobals && (Array.mk [] : Array GenState).size == 0, (boot_heap w.params).objs.size, (boot_heap w.params).nsMap mainGlobals "__annotations__") = (true, 11, some (.ref 6)) := by
  intro w; kernel_rfl
theorem tree_ok : ∀ P : Params, absHeap (treeOf (boot_heap P).objs.toList 0 .nil) 11 (boot_heap P).life = boot_heap P := by
  intro P; kernel_rfl
theorem open_ok : ∀ w : World, (fencedOpening treeTable PG w 4922).map (fun s => (s.heap, s.gens, s.drawn, s.toks)) = some (boot_heap w.params, Array.mk [], boot_drawn, boot_toks) :=
  boot_open (by kernel_rfl) (by kernel_rfl) (by intro s; kernel_rfl)
theorem once_q : ∀ (w : World) (os : OsState), (runG through (Fast.tw6613529449190102663 11 (some (.ref 6))) (Fast.tw10156331382660048174 (Fast.tw11892475500146522536 Fast.tw14364793385576792824) PG w) 4922 (bootT w os) (topStub PG)).map (fun s =>
        ((staticsOk (Fast.tw5923862056798008813 PG.main.body) (boot_heap w.params) s.abs.heap && namesBound PG s.abs.heap && gensDone s.abs && laidKept (boot_heap w.params) s.abs.heap),
          Fast.tw4187177175401517315 vw loose (Fast.tw5923862056798008813 PG.main.body) (fun s => xlAt vw lv s && recOk (RowW.records RWW) s) true s.abs, (asK.map s.abs.heap.get?, [344].map s.abs.heap.get?))) =
    some (true, openGood vw loose, ((KF w.params).map fun p => some p.2, [344].map fun _ => some (tabObj #[]))) := by
  intro w os; kernel_rfl
theorem once_ok : ∀ (w : World) (os : OsState), (runG through (stepOk 11 (some (.ref 6))) (stepT (denote treeTable) PG w) 4922 (bootT w os) (topStub PG)).map (fun s =>
        ((staticsOk (importedModules PG.main.body) (boot_heap w.params) s.abs.heap && namesBound PG s.abs.heap && gensDone s.abs && laidKept (boot_heap w.params) s.abs.heap),
          openSeen vw loose (importedModules PG.main.body) (fun s => xlAt vw lv s && recOk (RowW.records RWW) s) true s.abs, (asK.map s.abs.heap.get?, [344].map s.abs.heap.get?))) =
    some (true, openGood vw loose, ((KF w.params).map fun p => some p.2, [344].map fun _ => some (tabObj #[]))) := by
  rw [Fast.te6613529449190102663, Fast.te10156331382660048174, Fast.te11892475500146522536, Fast.te14364793385576792824, Fast.te5923862056798008813, Fast.te4187177175401517315]
  exact once_q
theorem hook_ok : ∀ P : Params, asK = (KF P).map (·.1) := by intro P; kernel_rfl
noncomputable abbrev HK : Hook := kmHook KF asK hook_ok [344]
theorem left_ok : LeftO PG vw loose (fun s => xlAt vw lv s && recOk (RowW.records RWW) s) (Hook.obs HK) (Hook.val HK) 4922 :=
  left_once open_ok tree_ok size_ok once_ok
set_option maxHeartbeats 8000000
theorem said_ok : PySem.Challenge.rw_sm0057_01.wellSaid = true := by
  delta OpenLaw.wellSaid OpenRow.wellSaid OpenRow.partSaid looksOpen
  (repeat' with_reducible refine look_both ?_ ?_)
  all_goals decide +kernel
theorem ends_ok : (chainsOk vw && opensWell PySem.Challenge.rw_sm0057_01.row.prog && (frees RWW && PySem.Challenge.rw_sm0057_01.row.within.isEmpty)) = true := by decide +kernel
theorem whole_ok : PySem.Challenge.rw_sm0057_01.row.prog.tablesWhole = true := by decide +kernel
theorem bare_ok : PySem.Challenge.rw_sm0057_01.row.prog.bare := ⟨rfl, rfl, rfl, rfl, rfl, whole_ok⟩
structure Std (base : Heap) (A : Around) (l : List Env) (h : Heap) : Prop where
  stack : A.frames = some l
  stays : base.StaysIn h
  ff : h.FunFrames base l

def KeepBut (S : List Addr) (h h' : Heap) : Prop := ∀ b o, h.get? b = some o → b ∉ S → h'.get? b = some o

structure Own (base : Heap) (l : List Env) (h : Heap) (a : Addr) (o : Obj) : Prop where
  get : h.get? a = some o
  off : base.get? a = none
  apart : a ∉ l.filterMap (·.frame)

theorem KeepBut.refl (S : List Addr) (h : Heap) : KeepBut S h h := fun _ _ e _ => e
theorem KeepBut.trans {S : List Addr} {h h' h'' : Heap} (x : KeepBut S h h') (y : KeepBut S h' h'') : KeepBut S h h'' := fun b o e n => y b o (x b o e n) n
theorem KeepBut.mono {S S' : List Addr} {h h' : Heap} (x : KeepBut S h h') (hs : ∀ a ∈ S, a ∈ S') : KeepBut S' h h' := fun b o e n => x b o e fun q => n (hs b q)

theorem Std.keep {base : Heap} {A : Around} {l : List Env} {h h' : Heap} {S : List Addr} (x : Std base A l h) (k : KeepBut S h h') (hS : ∀ a ∈ S, base.get? a = none ∧ a ∉ l.filterMap (·.frame)) : Std base A l h' := by
  refine ⟨x.stack, fun b o e => k b o (x.stays b o e) fun q => (by rw [(hS b q).1] at e; cases e), ?_⟩
  have : ∀ l' : List Env, (∀ env ∈ l', env ∈ l) → h.FunFrames base l' → h'.FunFrames base l' := by
    intro l'
    induction l' with
    | nil => intro _ _; trivial
    | cons env rest ih =>
      rintro hm ⟨hk, ⟨L, o, hf, hn, ho, hd⟩, hr⟩
      refine ⟨hk, ⟨L, o, hf, hn, k L o ho fun q => ?_, hd⟩, ih (fun e he => hm e (.tail _ he)) hr⟩
      exact (hS L q).2 (List.mem_filterMap.mpr ⟨env, hm env (.head _), hf⟩)
  exact this l (fun _ h => h) x.ff

/-- a ledger entry is one's own -/
theorem own_of {base g h : Heap} {A : Around} {outer : List Env} {env : Env} {L : Addr} {m : Str → Option Value} {news : List (Addr × Obj)} {a : Addr} {o : Obj}
    (B : Below A base outer g) (F : Fr g L h m) (N : News g L h news) (hf : env.frame = some L) (hm : (a, o) ∈ news) : Own base (env :: outer) h a o := by
  have q := N _ hm
  refine ⟨q.1, ?_, fun hc => ?_⟩
  · cases e : base.get? a with
    | none => rfl
    | some o' => have := B.stays a o' e; rw [q.2.2] at this; cases this
  · rw [List.filterMap_cons, hf] at hc
    rcases List.mem_cons.mp hc with e | hc
    · exact q.2.1 e
    · obtain ⟨_, o', ho', _⟩ := B.frames.mem hc
      rw [q.2.2] at ho'; cases ho'
theorem std_of {base g h : Heap} {A A' : Around} {outer : List Env} {env : Env} {L : Addr} {m : Str → Option Value}
    (B : Below A base outer g) (F : Fr g L h m) (hA : A'.frames = some (env :: outer)) (hf : env.frame = some L) (hke : env.scope.kind = .function) : Std base A' (env :: outer) h := by
  have B₁ := pushX B F hf hke
  exact ⟨hA, fun b o e => F.keep b o (B.stays b o e), B₁.frames⟩

section
variable {prog : Program} {w : World} {base : Heap} {A : Around} {l : List Env} {K : Frag} {p : Program} {loose : List Str} {mean : ExcName → Option Value} {mg mb : Str → Option Value} {s : Shared}
theorem hide_get {h : Heap} {small : List Addr} {b : Addr} {o : Obj} (e : h.get? b = some o) (n : b ∉ small) : (hideAll h small).get? b = some o := hideAll_get _ e n

theorem enter {R : Result → Shared → Prop} {name qual : Str} {params : Arguments} {body : List Stmt} {scope : Scope} {dV kV doc pm cdv ct oc : Value} {an od : Option Addr} {osl : Array (Option Value)} {f : Addr} {args : Args} {binds : List (Str × Value)}
    (small : List (Addr × Obj))
    (S : Std base A l s.heap) (X : K.In base) (T : Top p loose mean mg mb base)
    (hown : ∀ q ∈ small, Own base l s.heap q.1 q.2)
    (ho : K.lookup f = some ⟨oc, od, .func (fnOf name qual params body scope dV kV doc pm an cdv ct), osl⟩) (hcd : codeIn K cdv qual = true) (hroom : A.depth < recursionLimit)
    (hbind : BindsTo s (fnOf name qual params body scope dV kV doc pm an cdv ct) args binds) (hloc : ∀ y ∈ binds, scope.names.lookup y.1 = some .local)
    (h : ∀ g L' h₁, Fr g L' h₁ (fun y => binds.reverse.lookup y) → News g L' h₁ small → Below A base l g → K.In g → Top p loose mean mg mb g → g = hideAll s.heap (small.map (·.1)) → s.heap.objs.size ≤ L' →
      wpAny (model prog w) (A.deeper (envOf qual scope L' f cdv)) (execs body (envOf qual scope L' f cdv))
        (fun fl s' => R (.ok (.ret (match fl with | .ret v => v | _ => .none))) s')
        (fun e s' => wpAny (model prog w) (A.deeper (envOf qual scope L' f cdv)) (leaving (envOf qual scope L' f cdv) e) (fun _ s'' => R (.error e) s'') (fun e' s'' => R (.error e') s'') s')
        { s with heap := h₁, toks := s.toks + binds.length })
    (hco : scope.isCoroutine = false := by rfl) (hgen : scope.isGenerator = false := by rfl) (hk : scope.kind = .function := by rfl)
    (hcell : ∀ x ∈ scope.names, x.2 ≠ .cell := by decide) : codeAny (model prog w) A (.call (.ref f) args) R s := by
  have Xs : K.In s.heap := fun a o e => S.stays _ _ (X a o e)
  refine codeAny_call_def (fd := fnOf name qual params body scope dV kV doc pm an cdv ct) (body := body) (binds := binds) hroom (Xs _ _ ho) rfl (T.nolimit.keeps S.stays) (codeRec_of Xs hcd) rfl hbind hcell hloc (fun h₁ hns hk₁ => ?_) hco hgen hk
  have nb : ∀ b o, base.get? b = some o → b ∉ small.map (·.1) := fun b o e q => by
    obtain ⟨x, hx, rfl⟩ := List.mem_map.mp q
    rw [(hown x hx).off] at e; cases e
  have st : base.StaysIn (hideAll s.heap (small.map (·.1))) := fun b o e => hideAll_get _ (S.stays b o e) (nb b o e)
  have BG : Below A base l (hideAll s.heap (small.map (·.1))) := ⟨S.stack, st, funFrames_hideAll S.ff fun env he b hb hf => by
    obtain ⟨x, hx, rfl⟩ := List.mem_map.mp hb
    exact (hown x hx).apart (List.mem_filterMap.mpr ⟨env, he, hf⟩)⟩
  exact h _ s.heap.objs.size h₁ ⟨hns, fun b o e => hk₁ b o (of_hideAll _ e), Nat.le_of_eq (hideAll_size _ _)⟩
    (fun x hx => ⟨hk₁ _ _ (hown x hx).get, Nat.ne_of_lt (Heap.lt_size (hown x hx).get), hideAll_none _ (List.mem_map_of_mem hx)⟩) BG (X.keeps st) (T.keeps st) rfl (Nat.le_refl _)

theorem enterC {R : Result → Shared → Prop} {name qual : Str} {params : Arguments} {body : List Stmt} {scope : Scope} {dV kV doc pm cdv ct oc : Value} {an od : Option Addr} {osl : Array (Option Value)} {f : Addr} {args : Args} {binds : List (Str × Value)}
    (small : List (Addr × Obj))
    (S : Std base A l s.heap) (X : K.In base) (T : Top p loose mean mg mb base)
    (hown : ∀ q ∈ small, Own base l s.heap q.1 q.2)
    (ho : K.lookup f = some ⟨oc, od, .func (fnOf name qual params body scope dV kV doc pm an cdv ct), osl⟩) (hcd : codeIn K cdv qual = true) (hroom : A.depth < recursionLimit)
    (hbind : BindsTo s (fnOf name qual params body scope dV kV doc pm an cdv ct) args binds)
    (hkind : (binds.all fun y => scope.names.lookup y.1 == some .local || scope.names.lookup y.1 == some .cell) = true)
    (hnd : ((cellsFrom 0 scope.names []).map (·.1)).Nodup)
    (h : ∀ g L' h₁ tk cells, Fr g L' h₁ (bindL (envOfC qual scope L' f cdv).kindOf binds fun _ => none) → News g L' h₁ (cells ++ small) →
      CellsAre (bindC (envOfC qual scope L' f cdv).kindOf binds fun _ => none) (cellsFrom (L' + 1) scope.names []) cells → Below A base l g → K.In g → Top p loose mean mg mb g → g = hideAll s.heap (small.map (·.1)) → s.heap.objs.size ≤ L' → (∀ q ∈ small, q.1 < L') →
      wpAny (model prog w) (A.deeper (envOfC qual scope L' f cdv)) (execs body (envOfC qual scope L' f cdv))
        (fun fl s' => R (.ok (.ret (match fl with | .ret v => v | _ => .none))) s')
        (fun e s' => wpAny (model prog w) (A.deeper (envOfC qual scope L' f cdv)) (leaving (envOfC qual scope L' f cdv) e) (fun _ s'' => R (.error e) s'') (fun e' s'' => R (.error e') s'') s')
        { s with heap := h₁, toks := tk })
    (hco : scope.isCoroutine = false) (hgen : scope.isGenerator = false) (hk : scope.kind = .function) : codeAny (model prog w) A (.call (.ref f) args) R s := by
  have Xs : K.In s.heap := fun a o e => S.stays _ _ (X a o e)
  have nb : ∀ b o, base.get? b = some o → b ∉ small.map (·.1) := fun b o e q => by
    obtain ⟨x, hx, rfl⟩ := List.mem_map.mp q
    rw [(hown x hx).off] at e; cases e
  have st : base.StaysIn (hideAll s.heap (small.map (·.1))) := fun b o e => hideAll_get _ (S.stays b o e) (nb b o e)
  have BG : Below A base l (hideAll s.heap (small.map (·.1))) := ⟨S.stack, st, funFrames_hideAll S.ff fun env he b hb hf => by
    obtain ⟨x, hx, rfl⟩ := List.mem_map.mp hb
    exact (hown x hx).apart (List.mem_filterMap.mpr ⟨env, he, hf⟩)⟩
  refine codeAny_call_function (fd := fnOf name qual params body scope dV kV doc pm an cdv ct) hroom (Xs _ _ ho) rfl hco hgen rfl (codeRec_of Xs hcd) (hbind _ _ _ _ ?_)
  refine wpAny_newFunctionEnv_cells hk (kindsX hkind _) fun env' he s' x => ?_
  subst he
  refine ⟨(T.nolimit.keeps S.stays).keeps x.toInCall.keep, codeAny_func ?_⟩
  obtain ⟨h₁, tk, rfl, _⟩ := x.done
  have hk₁ := x.toInCall.keep
  obtain ⟨cells, NC, Y⟩ := Cl.news (h₀ := s.heap) (Nat.le_refl _) fun n c hm => ⟨x.cell n c (lookup_of_mem_nodup (cellsFrom_names scope.names 0 (s.heap.objs.size + 1) [] [] rfl ▸ hnd) hm), x.above n c hm⟩
  refine h _ s.heap.objs.size h₁ tk cells ⟨x.toInCall.ns, fun b o e => hk₁ b o (of_hideAll _ e), Nat.le_of_eq (hideAll_size _ _)⟩ (fun q hq => ?_) Y BG (X.keeps st) (T.keeps st) rfl (Nat.le_refl _) (fun q hq => Heap.lt_size (hown q hq).get)
  rcases List.mem_append.mp hq with hq | hq
  · refine ⟨(NC q hq).1, (NC q hq).2.1, ?_⟩
    cases z : (hideAll s.heap (small.map (·.1))).get? q.1 with
    | none => rfl
    | some o => have := of_hideAll _ z; rw [(NC q hq).2.2] at this; cases this
  · exact ⟨hk₁ _ _ (hown q hq).get, Nat.ne_of_lt (Heap.lt_size (hown q hq).get), hideAll_none _ (List.mem_map_of_mem hq)⟩

/-- what a def left behind, its own base known -/
theorem keepBut_of {g h' : Heap} {L' : Addr} {m' : Str → Option Value} {small : List (Addr × Obj)} (F : Fr g L' h' m') (e : g = hideAll s.heap (small.map (·.1))) : KeepBut (small.map (·.1)) s.heap h' := by
  subst e
  exact fun b o ho hn => F.keep b o (hideAll_get _ ho hn)
end

abbrev At (dp un : Nat) (l : List Env) : Around := { handled := none, depth := dp, frames := some l, guards := some [], units := un }

theorem KeepBut.drop {S : List Addr} {a : Addr} {o : Obj} {h h' : Heap} (x : KeepBut (a :: S) h h') (e : h.get? a = some o) (e' : h'.get? a = some o) : KeepBut S h h' := fun b o' ho hn => by
  by_cases q : b = a
  · subst q; rw [e] at ho; cases ho; exact e'
  · exact x b o' ho fun m => (List.mem_cons.mp m).elim q hn
theorem KeepBut.swap {S : List Addr} {a b : Addr} {h h' : Heap} (x : KeepBut (a :: b :: S) h h') : KeepBut (b :: a :: S) h h' := x.mono fun c hc => by
  rcases List.mem_cons.mp hc with rfl | hc
  · exact .tail _ (.head _)
  · rcases List.mem_cons.mp hc with rfl | hc
    · exact .head _
    · exact .tail _ (.tail _ hc)
theorem fm_lo (a n : Int) (h : 0 < n) : 0 ≤ a.fmod n := by rw [Int.fmod_eq_emod_of_nonneg _ (Int.le_of_lt h)]; exact Int.emod_nonneg _ (by omega)
theorem fm_hi (a n : Int) (h : 0 < n) : a.fmod n < n := by rw [Int.fmod_eq_emod_of_nonneg _ (Int.le_of_lt h)]; exact Int.emod_lt_of_pos _ h

theorem upd_mem {a : Addr} {o o' : Obj} {news news' : List (Addr × Obj)} (U : Upd a o o' news news') : (a, o) ∈ news ∧ (a, o') ∈ news' := by
  obtain ⟨pre, post, rfl, rfl, _, _⟩ := U.split
  exact ⟨List.mem_append_right _ (.head _), List.mem_append_right _ (.head _)⟩
theorem back {g h h' : Heap} {L : Addr} {m : Str → Option Value} {S : List Addr} (F : Fr g L h m) (k : KeepBut S h h') (hS : ∀ a ∈ S, g.get? a = none ∧ a ≠ L) : Fr g L h' m := by
  obtain ⟨oL, es, ep, hL, r⟩ := id F.ns
  exact ⟨⟨oL, es, ep, k L oL hL fun q => (hS L q).2 rfl, r⟩, fun b o e => k b o (F.keep b o e) fun q => (by rw [(hS b q).1] at e; cases e), F.above⟩
theorem back_news {g h h' : Heap} {L a : Addr} {o o' : Obj} {news news' : List (Addr × Obj)} (N : News g L h news) (k : KeepBut [a] h h') (U : Upd a o o' news news') (ha : h'.get? a = some o') : News g L h' news' := by
  obtain ⟨pre, post, rfl, rfl, h1, h2⟩ := U.split
  intro q hq
  rcases List.mem_append.mp hq with hq | hq
  · have z := N q (List.mem_append_left _ hq)
    exact ⟨k _ _ z.1 fun w => h1 q hq (List.mem_singleton.mp w), z.2⟩
  · rcases List.mem_cons.mp hq with rfl | hq
    · exact ⟨ha, (N (a, o) (List.mem_append_right _ (.head _))).2⟩
    · have z := N q (List.mem_append_right _ (.tail _ hq))
      exact ⟨k _ _ z.1 fun w => h2 q hq (List.mem_singleton.mp w), z.2⟩
theorem back_news0 {g h h' : Heap} {L : Addr} {news : List (Addr × Obj)} (N : News g L h news) (k : KeepBut [] h h') : News g L h' news := fun q hq => ⟨k _ _ (N q hq).1 (fun z => nomatch z), (N q hq).2⟩
theorem back0 {g h h' : Heap} {L : Addr} {m : Str → Option Value} (F : Fr g L h m) (k : KeepBut [] h h') : Fr g L h' m := back F k fun _ z => nomatch z
theorem back1 {g h h' : Heap} {L a : Addr} {o : Obj} {m : Str → Option Value} {news : List (Addr × Obj)} (F : Fr g L h m) (N : News g L h news) (hm : (a, o) ∈ news) (k : KeepBut [a] h h') : Fr g L h' m :=
  back F k fun b hb => by rw [List.mem_singleton.mp hb]; exact ⟨(N _ hm).2.2, (N _ hm).2.1⟩
/-- a new object put onto the ledger -/
theorem news_put {g h h' : Heap} {L t : Addr} {o : Obj} {m : Str → Option Value} {news news' : List (Addr × Obj)} (F : Fr g L h m) (N' : News g L h' news') (ht : h'.get? t = some o) (hs : h.objs.size ≤ t) : News g L h' ((t, o) :: news') := by
  refine List.forall_mem_cons.mpr ⟨⟨ht, ?_, ?_⟩, N'⟩
  · obtain ⟨oL, es, ep, hL, r⟩ := F.ns
    exact Nat.ne_of_gt (Nat.lt_of_lt_of_le (Heap.lt_size hL) hs)
  · cases q : g.get? t with
    | none => rfl
    | some o' => exact absurd (Heap.lt_size (F.keep _ _ q)) (Nat.not_lt.mpr hs)
theorem news_lt {g h : Heap} {L t : Addr} {news : List (Addr × Obj)} (N : News g L h news) (hs : h.objs.size ≤ t) : ∀ q ∈ news, q.1 < t := fun q hq => Nat.lt_of_lt_of_le (Heap.lt_size (N q hq).1) hs
example : True := by
  k_with "NE" => first | ((refine neN ?_; (try dsimp only)); with_reducible (first | assumption | exact Ne.symm (by assumption) | exact Nat.ne_of_lt (by first | assumption | exact And.left (by assumption) | exact And.left (And.right (by assumption)) | exact And.right (by assumption) | exact And.left (And.right (And.right (by assumption))) | exact And.right (And.right (by assumption)) | exact And.left (And.right (And.right (And.right (by assumption)))) | exact And.right (And.right (And.right (by assumption))) | exact And.left (And.right (And.right (And.right (And.right (by assumption))))) | exact And.right (And.right (And.right (And.right (by assumption)))) | exact And.left (And.right (And.right (And.right (And.right (And.right (by assumption)))))) | exact And.right (And.right (And.right (And.right (And.right (by assumption))))) | exact And.left (And.right (And.right (And.right (And.right (And.right (And.right (by assumption))))))) | exact And.right (And.right (And.right (And.right (And.right (And.right (by assumption)))))) | exact And.left (And.right (And.right (And.right (And.right (And.right (And.right (And.right (by assumption)))))))) | exact And.right (And.right (And.right (And.right (And.right (And.right (And.right (by assumption))))))) | exact And.left (And.right (And.right (And.right (And.right (And.right (And.right (And.right (And.right (by assumption))))))))) | exact And.right (And.right (And.right (And.right (And.right (And.right (And.right (And.right (by assumption)))))))) | exact And.left (And.right (And.right (And.right (And.right (And.right (And.right (And.right (And.right (And.right (by assumption)))))))))) | exact And.right (And.right (And.right (And.right (And.right (And.right (And.right (And.right (And.right (by assumption))))))))) | exact And.left (And.right (And.right (And.right (And.right (And.right (And.right (And.right (And.right (And.right (And.right (by assumption))))))))))) | exact And.right (And.right (And.right (And.right (And.right (And.right (And.right (And.right (And.right (And.right (by assumption)))))))))) | exact And.left (And.right (And.right (And.right (And.right (And.right (And.right (And.right (And.right (And.right (And.right (And.right (by assumption)))))))))))) | exact And.right (And.right (And.right (And.right (And.right (And.right (And.right (And.right (And.right (And.right (And.right (by assumption))))))))))) | exact And.left (And.right (And.right (And.right (And.right (And.right (And.right (And.right (And.right (And.right (And.right (And.right (And.right (by assumption))))))))))))) | exact And.right (And.right (And.right (And.right (And.right (And.right (And.right (And.right (And.right (And.right (And.right (And.right (by assumption)))))))))))) | exact And.left (And.right (And.right (And.right (And.right (And.right (And.right (And.right (And.right (And.right (And.right (And.right (And.right (And.right (by assumption)))))))))))))) | exact And.right (And.right (And.right (And.right (And.right (And.right (And.right (And.right (And.right (And.right (And.right (And.right (And.right (by assumption))))))))))))) | exact And.left (And.right (And.right (And.right (And.right (And.right (And.right (And.right (And.right (And.right (And.right (And.right (And.right (And.right (And.right (by assumption))))))))))))))) | exact And.right (And.right (And.right (And.right (And.right (And.right (And.right (And.right (And.right (And.right (And.right (And.right (And.right (And.right (by assumption)))))))))))))) | exact And.left (And.right (And.right (And.right (And.right (And.right (And.right (And.right (And.right (And.right (And.right (And.right (And.right (And.right (And.right (And.right (by assumption)))))))))))))))) | exact And.right (And.right (And.right (And.right (And.right (And.right (And.right (And.right (And.right (And.right (And.right (And.right (And.right (And.right (And.right (by assumption)))))))))))))))) | exact Nat.ne_of_gt (by first | assumption | exact And.left (by assumption) | exact And.left (And.right (by assumption)) | exact And.right (by assumption) | exact And.left (And.right (And.right (by assumption))) | exact And.right (And.right (by assumption)) | exact And.left (And.right (And.right (And.right (by assumption)))) | exact And.right (And.right (And.right (by assumption))) | exact And.left (And.right (And.right (And.right (And.right (by assumption))))) | exact And.right (And.right (And.right (And.right (by assumption)))) | exact And.left (And.right (And.right (And.right (And.right (And.right (by assumption)))))) | exact And.right (And.right (And.right (And.right (And.right (by assumption))))) | exact And.left (And.right (And.right (And.right (And.right (And.right (And.right (by assumption))))))) | exact And.right (And.right (And.right (And.right (And.right (And.right (by assumption)))))) | exact And.left (And.right (And.right (And.right (And.right (And.right (And.right (And.right (by assumption)))))))) | exact And.right (And.right (And.right (And.right (And.right (And.right (And.right (by assumption))))))) | exact And.left (And.right (And.right (And.right (And.right (And.right (And.right (And.right (And.right (by assumption))))))))) | exact And.right (And.right (And.right (And.right (And.right (And.right (And.right (And.right (by assumption)))))))) | exact And.left (And.right (And.right (And.right (And.right (And.right (And.right (And.right (And.right (And.right (by assumption)))))))))) | exact And.right (And.right (And.right (And.right (And.right (And.right (And.right (And.right (And.right (by assumption))))))))) | exact And.left (And.right (And.right (And.right (And.right (And.right (And.right (And.right (And.right (And.right (And.right (by assumption))))))))))) | exact And.right (And.right (And.right (And.right (And.right (And.right (And.right (And.right (And.right (And.right (by assumption)))))))))) | exact And.left (And.right (And.right (And.right (And.right (And.right (And.right (And.right (And.right (And.right (And.right (And.right (by assumption)))))))))))) | exact And.right (And.right (And.right (And.right (And.right (And.right (And.right (And.right (And.right (And.right (And.right (by assumption))))))))))) | exact And.left (And.right (And.right (And.right (And.right (And.right (And.right (And.right (And.right (And.right (And.right (And.right (And.right (by assumption))))))))))))) | exact And.right (And.right (And.right (And.right (And.right (And.right (And.right (And.right (And.right (And.right (And.right (And.right (by assumption)))))))))))) | exact And.left (And.right (And.right (And.right (And.right (And.right (And.right (And.right (And.right (And.right (And.right (And.right (And.right (And.right (by assumption)))))))))))))) | exact And.right (And.right (And.right (And.right (And.right (And.right (And.right (And.right (And.right (And.right (And.right (And.right (And.right (by assumption))))))))))))) | exact And.left (And.right (And.right (And.right (And.right (And.right (And.right (And.right (And.right (And.right (And.right (And.right (And.right (And.right (And.right (by assumption))))))))))))))) | exact And.right (And.right (And.right (And.right (And.right (And.right (And.right (And.right (And.right (And.right (And.right (And.right (And.right (And.right (by assumption)))))))))))))) | exact And.left (And.right (And.right (And.right (And.right (And.right (And.right (And.right (And.right (And.right (And.right (And.right (And.right (And.right (And.right (And.right (by assumption)))))))))))))))) | exact And.right (And.right (And.right (And.right (And.right (And.right (And.right (And.right (And.right (And.right (And.right (And.right (And.right (And.right (And.right (by assumption)))))))))))))))) | (first | assumption | exact And.left (by assumption) | exact And.left (And.right (by assumption)) | exact And.right (by assumption) | exact And.left (And.right (And.right (by assumption))) | exact And.right (And.right (by assumption)) | exact And.left (And.right (And.right (And.right (by assumption)))) | exact And.right (And.right (And.right (by assumption))) | exact And.left (And.right (And.right (And.right (And.right (by assumption))))) | exact And.right (And.right (And.right (And.right (by assumption)))) | exact And.left (And.right (And.right (And.right (And.right (And.right (by assumption)))))) | exact And.right (And.right (And.right (And.right (And.right (by assumption))))) | exact And.left (And.right (And.right (And.right (And.right (And.right (And.right (by assumption))))))) | exact And.right (And.right (And.right (And.right (And.right (And.right (by assumption)))))) | exact And.left (And.right (And.right (And.right (And.right (And.right (And.right (And.right (by assumption)))))))) | exact And.right (And.right (And.right (And.right (And.right (And.right (And.right (by assumption))))))) | exact And.left (And.right (And.right (And.right (And.right (And.right (And.right (And.right (And.right (by assumption))))))))) | exact And.right (And.right (And.right (And.right (And.right (And.right (And.right (And.right (by assumption)))))))) | exact And.left (And.right (And.right (And.right (And.right (And.right (And.right (And.right (And.right (And.right (by assumption)))))))))) | exact And.right (And.right (And.right (And.right (And.right (And.right (And.right (And.right (And.right (by assumption))))))))) | exact And.left (And.right (And.right (And.right (And.right (And.right (And.right (And.right (And.right (And.right (And.right (by assumption))))))))))) | exact And.right (And.right (And.right (And.right (And.right (And.right (And.right (And.right (And.right (And.right (by assumption)))))))))) | exact And.left (And.right (And.right (And.right (And.right (And.right (And.right (And.right (And.right (And.right (And.right (And.right (by assumption)))))))))))) | exact And.right (And.right (And.right (And.right (And.right (And.right (And.right (And.right (And.right (And.right (And.right (by assumption))))))))))) | exact And.left (And.right (And.right (And.right (And.right (And.right (And.right (And.right (And.right (And.right (And.right (And.right (And.right (by assumption))))))))))))) | exact And.right (And.right (And.right (And.right (And.right (And.right (And.right (And.right (And.right (And.right (And.right (And.right (by assumption)))))))))))) | exact And.left (And.right (And.right (And.right (And.right (And.right (And.right (And.right (And.right (And.right (And.right (And.right (And.right (And.right (by assumption)))))))))))))) | exact And.right (And.right (And.right (And.right (And.right (And.right (And.right (And.right (And.right (And.right (And.right (And.right (And.right (by assumption))))))))))))) | exact And.left (And.right (And.right (And.right (And.right (And.right (And.right (And.right (And.right (And.right (And.right (And.right (And.right (And.right (And.right (by assumption))))))))))))))) | exact And.right (And.right (And.right (And.right (And.right (And.right (And.right (And.right (And.right (And.right (And.right (And.right (And.right (And.right (by assumption)))))))))))))) | exact And.left (And.right (And.right (And.right (And.right (And.right (And.right (And.right (And.right (And.right (And.right (And.right (And.right (And.right (And.right (And.right (by assumption)))))))))))))))) | exact And.right (And.right (And.right (And.right (And.right (And.right (And.right (And.right (And.right (And.right (And.right (And.right (And.right (And.right (And.right (by assumption)))))))))))))))) | exact Ne.symm (by first | assumption | exact And.left (by assumption) | exact And.left (And.right (by assumption)) | exact And.right (by assumption) | exact And.left (And.right (And.right (by assumption))) | exact And.right (And.right (by assumption)) | exact And.left (And.right (And.right (And.right (by assumption)))) | exact And.right (And.right (And.right (by assumption))) | exact And.left (And.right (And.right (And.right (And.right (by assumption))))) | exact And.right (And.right (And.right (And.right (by assumption)))) | exact And.left (And.right (And.right (And.right (And.right (And.right (by assumption)))))) | exact And.right (And.right (And.right (And.right (And.right (by assumption))))) | exact And.left (And.right (And.right (And.right (And.right (And.right (And.right (by assumption))))))) | exact And.right (And.right (And.right (And.right (And.right (And.right (by assumption)))))) | exact And.left (And.right (And.right (And.right (And.right (And.right (And.right (And.right (by assumption)))))))) | exact And.right (And.right (And.right (And.right (And.right (And.right (And.right (by assumption))))))) | exact And.left (And.right (And.right (And.right (And.right (And.right (And.right (And.right (And.right (by assumption))))))))) | exact And.right (And.right (And.right (And.right (And.right (And.right (And.right (And.right (by assumption)))))))) | exact And.left (And.right (And.right (And.right (And.right (And.right (And.right (And.right (And.right (And.right (by assumption)))))))))) | exact And.right (And.right (And.right (And.right (And.right (And.right (And.right (And.right (And.right (by assumption))))))))) | exact And.left (And.right (And.right (And.right (And.right (And.right (And.right (And.right (And.right (And.right (And.right (by assumption))))))))))) | exact And.right (And.right (And.right (And.right (And.right (And.right (And.right (And.right (And.right (And.right (by assumption)))))))))) | exact And.left (And.right (And.right (And.right (And.right (And.right (And.right (And.right (And.right (And.right (And.right (And.right (by assumption)))))))))))) | exact And.right (And.right (And.right (And.right (And.right (And.right (And.right (And.right (And.right (And.right (And.right (by assumption))))))))))) | exact And.left (And.right (And.right (And.right (And.right (And.right (And.right (And.right (And.right (And.right (And.right (And.right (And.right (by assumption))))))))))))) | exact And.right (And.right (And.right (And.right (And.right (And.right (And.right (And.right (And.right (And.right (And.right (And.right (by assumption)))))))))))) | exact And.left (And.right (And.right (And.right (And.right (And.right (And.right (And.right (And.right (And.right (And.right (And.right (And.right (And.right (by assumption)))))))))))))) | exact And.right (And.right (And.right (And.right (And.right (And.right (And.right (And.right (And.right (And.right (And.right (And.right (And.right (by assumption))))))))))))) | exact And.left (And.right (And.right (And.right (And.right (And.right (And.right (And.right (And.right (And.right (And.right (And.right (And.right (And.right (And.right (by assumption))))))))))))))) | exact And.right (And.right (And.right (And.right (And.right (And.right (And.right (And.right (And.right (And.right (And.right (And.right (And.right (And.right (by assumption)))))))))))))) | exact And.left (And.right (And.right (And.right (And.right (And.right (And.right (And.right (And.right (And.right (And.right (And.right (And.right (And.right (And.right (And.right (by assumption)))))))))))))))) | exact And.right (And.right (And.right (And.right (And.right (And.right (And.right (And.right (And.right (And.right (And.right (And.right (And.right (And.right (And.right (by assumption)))))))))))))))))) | fail "NE"
  trivial
section
open PySem.W.X
/-- what a raise of ours leaves behind the evaluated exception -/
def RaisableM (K : Frag) (E : Value → Shared → Prop) (v : Value) (s₁ : Shared) : Prop :=
  ∃ e o ta, v = .ref e ∧ K.In s₁.heap ∧ s₁.heap.get? e = some o ∧ o.cls = .ref 38 ∧ o.data = .fields #[.ref ta, .none, .none, .none, .bool false, .none] ∧ E (.ref e) s₁

theorem cls38aux {K : Frag} {h : Heap} {nm q : Str} {N : Addr} {bs bm : List Value} {hdct : Bool} {sn : List Str} {sub : List Value} {ab : Bool} {col : Option Bool} {dd : Option Addr} {k0 k1 k2 k3 k5 : Option Value} {newId : String} (X : K.In h)
    (e : K.lookup 38 = some (excClassObj nm q 38 N bs bm hdct sn sub ab col dd k0 k1 k2 k3 k5 newId)) (hb : bm.contains (.type "BaseException") = true) :
    ∃ nm q N bs bm hdct sn sub ab col dd k0 k1 k2 k3 k5 newId, h.get? 38 = some (excClassObj nm q 38 N bs bm hdct sn sub ab col dd k0 k1 k2 k3 k5 newId) ∧ bm.contains (.type "BaseException") = true :=
  ⟨_, _, _, _, _, _, _, _, _, _, _, _, _, _, _, _, _, X _ _ e, hb⟩
theorem cls38 {w : World} {h : Heap} (X : (KF w.params).In h) : ∃ nm q N bs bm hdct sn sub ab col dd k0 k1 k2 k3 k5 newId, h.get? 38 = some (excClassObj nm q 38 N bs bm hdct sn sub ab col dd k0 k1 k2 k3 k5 newId) ∧ bm.contains (.type "BaseException") = true := by
  refine' cls38aux X ?a ?b
  case a => k_is
  case b => rfl
theorem raiseStmt_mine {w : World} {A : Around} {env : Env} {s : Shared} {x : Sem Value} {Q : Flow → Shared → Prop} {E : Value → Shared → Prop} (hh : A.handled = none)
    (h : wpAny (model PG w) A x (RaisableM (KF w.params) E) E s) :
    wpAny (model PG w) A (raiseStmt env (some x) none) Q E s := by
  unfold raiseStmt
  refine wpAny_bind (wpAny_mono h (fun v s₁ h₁ => ?_) fun _ _ x => x)
  obtain ⟨e, o, ta, rfl, X, he, hc, hd', hE⟩ := h₁
  obtain ⟨nm, q, N, bs, bm, hdct, sn, sub, ab, col, dd, k0, k1, k2, k3, k5, newId, hC, hbase⟩ := cls38 X
  have hcB : (Value.ref 38 :: bm).contains (.type "BaseException") = true := by rw [List.contains_cons, hbase, Bool.or_true]
  obtain ⟨hp, g, d, tk, os⟩ := s₁
  obtain ⟨c, dd', dt, sl⟩ := o
  subst hc hd'
  repeat (first | with_reducible refine wpAny_loadPart_at he ?_ | with_reducible refine wpAny_loadPart_at hC ?_ | (with_reducible refine wpAny_isSubtype_exc hC ?_; rw [hcB]) | wp_step)
  exact wpAny_raiseNew_none hh hE
theorem Raise_mine {w : World} {A : Around} {env : Env} {s : Shared} {x : PySem.Expr} {pos : Pos} {Q : Flow → Shared → Prop} {E : Value → Shared → Prop} (hh : A.handled = none)
    (h : wpAny (model PG w) A (eval x env) (RaisableM (KF w.params) E) E s) :
    wpAny (model PG w) A (exec (.Raise (some x) none pos) env) Q E s := by
  rw [arm_exec_Raise]
  refine wpAny_bind (wpAny_standAt (raiseStmt_mine hh ?_))
  refine wpAny_bind (wpAny_mono h (fun v s₃ h₃ => wpAny_bind (wpAny_standAt (wpAny_pure h₃))) fun _ _ x => x)

abbrev frs (l : List Env) : List Addr := l.filterMap (·.frame)
structure Kept (S : List Addr) (l : List Env) (h h' : Heap) : Prop where
  same : ∀ b o, h.get? b = some o → b ∉ S → b ∉ frs l → h'.get? b = some o
  slot : ∀ b o, h.get? b = some o → b ∉ S → (∀ vs, o.data ≠ .fields vs) → ∃ sl, h'.get? b = some { o with slots := sl }
theorem Kept.of {S : List Addr} {l : List Env} {h h' : Heap} (k : KeepBut S h h') : Kept S l h h' := ⟨fun b o e n _ => k b o e n, fun b o e n _ => ⟨o.slots, k b o e n⟩⟩
/-- e flies: what stood in h stands, but for S and the frames' slots -/
structure Thrown (S : List Addr) (l : List Env) (h h' : Heap) (e : Addr) : Prop where
  fly : ∃ B a0, KeepBut (S ++ frs l) h B ∧ (∀ b ∈ frs l, B.get? b = none) ∧ Heap.FlyingW B l e (.ref 38) a0 h'
  slot : ∀ b o, h.get? b = some o → b ∉ S → (∀ vs, o.data ≠ .fields vs) → ∃ sl, h'.get? b = some { o with slots := sl }

theorem hide_none {h : Heap} {l : List Addr} {b : Addr} (e : h.get? b = none) : (hideAll h l).get? b = none := by
  cases q : (hideAll h l).get? b with
  | none => rfl
  | some o => have := of_hideAll _ q; rw [e] at this; cases this

theorem ff_hide {base h0 h B : Heap} {S : List Addr} (k : KeepBut S h0 h) : ∀ {l : List Env}, h0.FunFrames base l → (∀ a ∈ S, a ∉ frs l) → (∀ b ∈ frs l, B.get? b = none) → h.FunFrames B l
  | [], _, _, _ => trivial
  | env :: l, ⟨hk, ⟨L, o, hf, hn, ho, hd⟩, hr⟩, hS, hB => by
    have hm : L ∈ frs (env :: l) := List.mem_filterMap.mpr ⟨env, .head _, hf⟩
    refine ⟨hk, ⟨L, o, hf, hB L hm, k L o ho fun q => hS L q hm, hd⟩, ff_hide k hr (fun a ha q => hS a ha ?_) fun b hb => hB b ?_⟩
    · show a ∈ List.filterMap _ (env :: l)
      rw [List.filterMap_cons, hf]; exact .tail _ q
    · show b ∈ List.filterMap _ (env :: l)
      rw [List.filterMap_cons, hf]; exact .tail _ hb

section
variable {w : World} {A : Around} {s : Shared} {base h0 : Heap} {l : List Env} {env : Env} {L e : Addr} {S : List Addr} {E : Value → Shared → Prop}
theorem thrown_first {o oL : Obj} {ta : Addr} {Q : Unit → Shared → Prop} (hfr : A.frames = some (env :: l)) (hf : env.frame = some L) (hke : env.scope.kind = .function)
    (ff : h0.FunFrames base l) (hL0 : h0.get? L = none) (hL : s.heap.get? L = some oL) (hLn : ∀ vs, oL.data ≠ .fields vs)
    (hk : KeepBut S h0 s.heap) (hS : ∀ a ∈ S, a ∉ frs l)
    (he : s.heap.get? e = some o) (hc : o.cls = .ref 38) (hd : o.data = .fields #[.ref ta, .none, .none, .none, .bool false, .none]) (hen : h0.get? e = none)
    (hQ : ∀ h', Thrown S l h0 h' e → Q () { s with heap := h' }) : wpAny (model PG w) A (leaving env (.ref e)) Q E s := by
  have hB : ∀ b ∈ frs l, (hideAll h0 (S ++ frs l)).get? b = none := fun b hb => hideAll_none _ (List.mem_append_right _ hb)
  have kB : KeepBut (S ++ frs l) h0 (hideAll h0 (S ++ frs l)) := fun b o ho hn => hideAll_get _ ho hn
  refine wpAny_leaving_firstW (base := hideAll h0 (S ++ frs l)) (a0 := .ref ta) hfr ⟨by rw [hke]; decide, ⟨L, oL, hf, hide_none hL0, hL, hLn⟩, ff_hide hk ff hS hB⟩ hf he (fun b ob q => hk b ob (of_hideAll _ q) fun hm => ?_) (hide_none hen) hd rfl rfl fun h' hl => ?_
  · rw [hideAll_none _ (List.mem_append_left _ hm)] at q; cases q
  obtain ⟨k1, ⟨_, _, k2⟩, k3, k4⟩ := hl
  rw [hc] at k3
  exact hQ h' ⟨⟨_, _, kB, hB, k1, hide_none hen, k2, k3⟩, fun b ob ho hn hv => k4 b ob (hk b ob ho hn) hv⟩
theorem thrown_next {h1 : Heap} {S1 : List Addr} {Q : Unit → Shared → Prop} (hfr : A.frames = some (env :: l)) (hf : env.frame = some L)
    (hL0 : h0.get? L = none) (hk : KeepBut S h0 h1) (hS1 : ∀ a ∈ S1, a ∈ S ∨ h0.get? a = none) (ht : Thrown S1 (env :: l) h1 s.heap e)
    (hQ : ∀ h', Thrown S l h0 h' e → Q () { s with heap := h' }) : wpAny (model PG w) A (leaving env (.ref e)) Q E s := by
  obtain ⟨⟨B, a0, kB, hB, fly⟩, slot⟩ := ht
  have sub : ∀ b, b ∈ frs l → b ∈ frs (env :: l) := fun b hb => by
    show b ∈ List.filterMap _ (env :: l)
    rw [List.filterMap_cons, hf]; exact .tail _ hb
  have nS1 : ∀ b o, h0.get? b = some o → b ∉ S → b ∉ S1 := fun b o ho hn q => (hS1 b q).elim hn fun z => by rw [z] at ho; cases ho
  refine wpAny_leaves_onW hfr hf fly fun h' f u => hQ h' ⟨⟨B, a0, ?_, fun b hb => hB b (sub b hb), f⟩, ?_⟩
  · intro b o ho hm
    have hm1 : b ∉ S := fun q => hm (List.mem_append_left _ q)
    have hm2 : b ∉ frs l := fun q => hm (List.mem_append_right _ q)
    refine kB b o (hk b o ho hm1) fun q => ?_
    rcases List.mem_append.mp q with q | q
    · exact nS1 b o ho hm1 q
    · have q' : b ∈ List.filterMap _ (env :: l) := q
      rw [List.filterMap_cons, hf] at q'
      rcases List.mem_cons.mp q' with rfl | q'
      · rw [hL0] at ho; cases ho
      · exact hm2 q'
  · intro b o ho hn hv
    obtain ⟨sl, h2⟩ := slot b o (hk b o ho hn) (nS1 b o ho hn) hv
    obtain ⟨sl', h3⟩ := u b _ h2 hv
    exact ⟨sl', h3⟩

/-- the handler in the frame's own try -/
theorem caught_mine {g h1 : Heap} {m : Str → Option Value} {p : Program} {loose : List Str} {mg mb : Str → Option Value} {np pos : Pos} {b₀ : Stmt} {suite : List Stmt} {rest : List ExceptHandler} {Q : Flow → Shared → Prop}
    {name : Str} {scope : Scope} {a : Addr} {cd : Value} {cl : List (Str × Addr)} (hA : A.frames = some (envX name scope L a cd cl :: l))
    (F : Fr g L h1 m) (hgl : ∀ b ∈ frs l, base.get? b = none) (hst : base.StaysIn g) (Xb : (KF w.params).In base) (Tb : TopRead p loose mg mb base)
    (hgS : ∀ a ∈ S, g.get? a = none) (hLS : L ∉ S) (ht : Thrown S (envX name scope L a cd cl :: l) h1 s.heap e)
    (k : ∀ h', Fr (hideAll g (frs l)) L h' m → Kept S (envX name scope L a cd cl :: l) h1 h' → (KF w.params).In (hideAll g (frs l)) → TopRead p loose mg mb (hideAll g (frs l)) →
      wpAny (model PG w) (A.mark (some (.ref e))) (execs (b₀ :: suite) (envX name scope L a cd cl)) Q (fun _ _ => False) { s with heap := h' })
    (hk : scope.kind = .function := by rfl) (hx : (envX name scope L a cd cl).kindOf "BadDump" = some .globalImplicit := by rfl) :
    wpAny (model PG w) A (noteFrame (.ref e) (envX name scope L a cd cl))
      (fun _ s₂ => wpAny (model PG w) A (setFlight (.ref e) none) (fun _ s₃ =>
        wpAny (model PG w) A (handleBy (.ref e) (envX name scope L a cd cl) (.ExceptHandler (some (.Name "BadDump" np)) none (b₀ :: suite) pos :: rest)) Q E s₃) E s₂) E s := by
  obtain ⟨⟨B, a0, kB, hB, fly⟩, slot⟩ := ht
  obtain ⟨oL, es, ep, hL, hLd, hLr⟩ := id F.ns
  have gB : ∀ b o, (hideAll g (frs l)).get? b = some o → B.get? b = some o := fun b o q => by
    have q1 := of_hideAll _ q
    have n1 : b ∉ frs l := fun hm => by rw [hideAll_none _ hm] at q; cases q
    refine kB b o (F.keep b o q1) fun hm => ?_
    rcases List.mem_append.mp hm with hm | hm
    · rw [hgS b hm] at q1; cases q1
    · rcases List.mem_cons.mp (show b ∈ L :: frs l from hm) with rfl | hm
      · exact absurd (Heap.lt_size q1) (Nat.not_lt.mpr F.above)
      · exact n1 hm
  have base_g : base.StaysIn (hideAll g (frs l)) := fun b o q => hideAll_get _ (hst b o q) fun hm => by rw [hgl b hm] at q; cases q
  have fr : ∀ h' : Heap, B.StaysIn h' → s.heap.UpToSlots h' → Fr (hideAll g (frs l)) L h' m := fun h' x u => by
    refine ⟨?_, fun b o q => x b o (gB b o q), by rw [hideAll_size]; exact F.above⟩
    obtain ⟨sl, h2⟩ := slot L oL hL hLS fun vs q => by rw [hLd] at q; cases q
    obtain ⟨sl', h3⟩ := u L _ h2 fun vs q => by rw [show ({ oL with slots := sl } : Obj).data = oL.data from rfl, hLd] at q; cases q
    exact ⟨_, es, ep, h3, hLd, hLr⟩
  have kept : ∀ h' : Heap, B.StaysIn h' → s.heap.UpToSlots h' → Kept S (envX name scope L a cd cl :: l) h1 h' := fun h' x u => by
    refine ⟨fun b o ho hn hf => x b o (kB b o ho fun hm => (List.mem_append.mp hm).elim hn hf), fun b o ho hn hv => ?_⟩
    obtain ⟨sl, h2⟩ := slot b o ho hn hv
    obtain ⟨sl', h3⟩ := u b _ h2 hv
    exact ⟨sl', h3⟩
  have X' := Xb.keeps base_g
  have T' := Tb.keeps base_g
  obtain ⟨nm, q, N, bs, bm, hdct, sn, sub, ab, col, dd, k0, k1, k2, k3, k5, newId, hC, hbase⟩ := cls38 X'
  refine wpAny_looks_onW hA rfl fly fun h₄ hheld₄ hsm₄ => ?_
  refine wpAny_landsW hheld₄ fun h₅ hheld hsm₅' => ?_
  have hsm₅ := hsm₄.trans hsm₅'
  have F₅ := fr h₅ hheld.1 hsm₅
  obtain ⟨ob, hob, hobc⟩ := hheld.there
  refine wpAny_handleBy_cons (codeAny_handlers_test (nameX_K F₅ X' T' (show nsIn (KF w.params) mainGlobals "BadDump" = some (some (.ref 38)) from by k_is) ?_ hk hx (by decide))) (by intro q; cases q)
  refine wpAny_excMatches_sub_self (F₅.keep _ _ hC) hob hobc hbase (codeAny_handlers_suite ?_)
  refine lands_againW hheld fun h₆ hfl₆ hsm₆ => ?_
  have u₆ := hsm₅.trans hsm₆
  exact wpAny_mono (k h₆ (fr h₆ hfl₆.1 u₆) (kept h₆ hfl₆.1 u₆) X' T') (fun _ _ x => x) fun _ _ x => x.elim
end
theorem lift {α : Type} {M : Model} {A : Around} {d u : Nat} {l : List Env} {t : Sem α} {Q : α → Shared → Prop} {E : Value → Shared → Prop} {s : Shared} (h : wpAny M (At d u l) t Q E s)
    (e1 : A.handled = none) (e2 : A.frames = some l) (e3 : A.guards = some []) (e4 : A.depth ≤ d) (e5 : A.units ≤ u) : wpAny M A t Q E s := fun Γ p hΓ => by
  obtain ⟨a1, a2, a3, a4, a5⟩ := hΓ
  exact h Γ p ⟨a1.trans e1, Nat.le_trans a2 e4, fun l' hl => by cases hl; exact a3 _ e2, fun g hg => by cases hg; exact a4 _ e3, Nat.le_trans a5 e5⟩

theorem fr_obj {g h : Heap} {L : Addr} {m : Str → Option Value} (F : Fr g L h m) : ∃ o, h.get? L = some o ∧ ∀ vs, o.data ≠ .fields vs := by
  obtain ⟨o, es, ep, h1, h2, _⟩ := F.ns
  exact ⟨o, h1, fun vs q => by rw [h2] at q; cases q⟩
theorem none_of_keep {h0 hb : Heap} {e : Addr} (k : KeepBut [] h0 hb) (hn : hb.get? e = none) : h0.get? e = none := by
  cases q : h0.get? e with
  | none => rfl
  | some o => have := k e o q (fun z => nomatch z); rw [hn] at this; cases this
/-- the frame that raised is left -/
theorem thrown_end {w : World} {A A₀ : Around} {s : Shared} {base h0 g hb : Heap} {l : List Env} {env : Env} {L e ta : Addr} {m : Str → Option Value} {o : Obj} {Q : Unit → Shared → Prop} {E : Value → Shared → Prop}
    (S0 : Std base A₀ l h0) (hL : h0.objs.size ≤ L) (F : Fr g L s.heap m)
    (hfr : A.frames = some (env :: l)) (hf : env.frame = some L) (hke : env.scope.kind = .function) (hkb : KeepBut [] h0 hb) (hn : hb.get? e = none) (hk2 : KeepBut [] hb s.heap)
    (he : s.heap.get? e = some o) (hc : o.cls = .ref 38) (hd : o.data = .fields #[.ref ta, .none, .none, .none, .bool false, .none])
    (hQ : ∀ h', Thrown [] l h0 h' e → Q () { s with heap := h' }) : wpAny (model PG w) A (leaving env (.ref e)) Q E s := by
  obtain ⟨oL, h1, h2⟩ := fr_obj F
  exact thrown_first hfr hf hke S0.ff (Heap.get?_none_of_le hL) h1 h2 (hkb.trans hk2) (fun _ z => nomatch z) he hc hd (none_of_keep hkb hn) hQ

theorem thrown_pass {w : World} {A A₀ : Around} {s : Shared} {base h0 h1 : Heap} {l : List Env} {env : Env} {L e : Addr} {S S1 : List Addr} {Q : Unit → Shared → Prop} {E : Value → Shared → Prop}
    (S0 : Std base A₀ l h0) (hL : h0.objs.size ≤ L) (hfr : A.frames = some (env :: l)) (hf : env.frame = some L) (ht : Thrown S1 (env :: l) h1 s.heap e) (hk : KeepBut S h0 h1) (hS1 : ∀ a ∈ S1, a ∈ S)
    (hQ : ∀ h', Thrown S l h0 h' e → Q () { s with heap := h' }) : wpAny (model PG w) A (leaving env (.ref e)) Q E s :=
  thrown_next hfr hf (Heap.get?_none_of_le hL) hk (fun a ha => .inl (hS1 a ha)) ht hQ

abbrev RV (Q E : Value → Shared → Prop) : Result → Shared → Prop := fun r s' => match r with | .ok (.ret v) => Q v s' | .ok _ => False | .error e => E e s'
theorem liftC {M : Model} {A : Around} {d u : Nat} {l : List Env} {c : Code} {R : Result → Shared → Prop} {s : Shared} (h : codeAny M (At d u l) c R s)
    (e1 : A.handled = none) (e2 : A.frames = some l) (e3 : A.guards = some []) (e4 : A.depth ≤ d) (e5 : A.units ≤ u) : codeAny M A c R s := fun Γ p hc hΓ => by
  obtain ⟨a1, a2, a3, a4, a5⟩ := hΓ
  exact h Γ p hc ⟨a1.trans e1, Nat.le_trans a2 e4, fun l' hl => by cases hl; exact a3 _ e2, fun g hg => by cases hg; exact a4 _ e3, Nat.le_trans a5 e5⟩
end
/-- a call of one's own, to be served by a contract -/
def Parked (P : Prop) : Prop := P
theorem Parked.mk {P : Prop} (h : Parked P) : P := h
theorem Parked.get {P : Prop} (h : P) : Parked P := h

theorem absE3 {M : Model} {A : Around} {env : Env} {α : Type} {t : Sem α} {Q : α → Shared → Prop} {E : Value → Shared → Prop} {s : Shared} (hp : PassesOwn M A env E) (h : ∀ E' : Value → Shared → Prop, PassesOwn M A env E' → (∀ e s', E e s' → E' e s') → wpAny M A t Q E' s) : wpAny M A t Q E s := h E hp fun _ _ x => x

/-- where a walk stands: frame, ledger, what lies below -/
structure Cx (w : World) (A A₀ : Around) (base g h : Heap) (l : List Env) (env : Env) (L : Addr) (m : Str → Option Value) (news : List (Addr × Obj))
    (p : Program) (loose : List Str) (mean : ExcName → Option Value) (mg mb : Str → Option Value) : Prop where
  X : (KF w.params).In base
  T : Top p loose mean mg mb base
  B : Below A₀ base l g
  F : Fr g L h m
  N : News g L h news
  e2 : A.frames = some (env :: l)
  hf : env.frame = some L
  hke : env.scope.kind = .function
  e1 : A.handled = none
  e3 : A.guards = some []
section
variable {w : World} {A A₀ : Around} {base g h : Heap} {l : List Env} {env : Env} {L : Addr} {m : Str → Option Value} {news : List (Addr × Obj)} {p : Program} {loose : List Str} {mean : ExcName → Option Value} {mg mb : Str → Option Value}
theorem Cx.std {d u : Nat} (c : Cx w A A₀ base g h l env L m news p loose mean mg mb) : Std base (At d u (env :: l)) (env :: l) h := std_of c.B c.F rfl c.hf c.hke
theorem Cx.own {a : Addr} {o : Obj} (c : Cx w A A₀ base g h l env L m news p loose mean mg mb) (hm : (a, o) ∈ news) : Own base (env :: l) h a o := own_of c.B c.F c.N c.hf hm
theorem Cx.lift {d u : Nat} {cd : Code} {R : Result → Shared → Prop} {s : Shared} {M : Model} (c : Cx w A A₀ base g h l env L m news p loose mean mg mb) (k : codeAny M (At d u (env :: l)) cd R s) (e4 : A.depth ≤ d) (e5 : A.units ≤ u) : codeAny M A cd R s :=
  liftC k c.e1 c.e2 c.e3 e4 e5
end
theorem Std.at_ {base h : Heap} {A A' : Around} {l : List Env} (S : Std base A l h) (e : A'.frames = some l) : Std base A' l h := ⟨e, S.stays, S.ff⟩

abbrev kE (w : World) (x : String) (k : Tok) (v : Value) : DictEntry := ⟨PyData.keyHash w.params (Str.ofString x), .str (Str.ofString x) k, v⟩
abbrev wrD (w : World) (ls ns : Int) (pc : Addr) (k1 k2 k3 k4 t1 t2 : Tok) : List DictEntry :=
  [kE w "length_size" k1 (.int ls t1), kE w "number_size" k2 (.int ns t2), kE w "is_stripped" k3 (.bool false), kE w "pieces" k4 (.ref pc)]
theorem bitAnd_255 (x : Int) : 0 ≤ Builtin.bitAnd x 255 ∧ Builtin.bitAnd x 255 < 256 := by
  unfold Builtin.bitAnd
  have h2 : decide ((0 : Int) ≤ 255) = true := by decide
  rw [h2]
  by_cases h : 0 ≤ x
  · rw [decide_eq_true h]
    dsimp only
    have := @Nat.and_le_right x.toNat (255 : Int).toNat
    have e : (255 : Int).toNat = 255 := rfl
    omega
  · rw [decide_eq_false h]
    dsimp only
    have := @Nat.and_le_left (255 : Int).toNat (Builtin.bitNot x).toNat
    have e : (255 : Int).toNat = 255 := rfl
    omega
def encL (v : Int) (n : Nat) : List Int := List.map (fun k' => Builtin.bitAnd (v.fdiv (2 ^ (8 * k').toNat)) 255) (rangeKs 0 n)
theorem bits_in (v : Int) (ks : List Int) : KBa.In (List.map (fun k' => Builtin.bitAnd (v.fdiv (2 ^ (8 * k').toNat)) 255) ks) := by
  intro x hx
  obtain ⟨k, _, rfl⟩ := List.mem_map.mp hx
  exact bitAnd_255 _
def leB (v : Int) (n : Int) : List UInt8 := (byteArr (encL v (n - 0).toNat)).toList
/-- a list of pieces that joined give b -/
def PA (P : Array Value) (b : List UInt8) : Prop := ∃ l : List (Array UInt8 × Tok), P.toList = l.map (fun p => Value.bytes p.1 p.2) ∧ (l.map (·.1.toList)).flatten = b
theorem PA_push {P : Array Value} {b : List UInt8} (h : PA P b) (x : Array UInt8) (t : Tok) : PA (P.push (Value.bytes x t)) (b ++ x.toList) := by
  obtain ⟨l, h1, h2⟩ := h
  refine ⟨l ++ [(x, t)], ?_, ?_⟩
  · rw [Array.toList_push, h1, List.map_append]; rfl
  · rw [List.map_append, List.flatten_append, h2]; simp
theorem PAcast {P : Array Value} {b b' : List UInt8} (h : PA P b) (e : b = b') : PA P b' := e ▸ h
theorem PA_nil : PA #[] [] := ⟨[], rfl, rfl⟩

/-- a method of the writer: what it puts, when it refuses -/
def WC (w : World) (dp un : Nat) (f : Addr) (as : List Value) (ls ns : Int) (cond : Prop) (enc : List UInt8) (k Bd : Nat) : Prop :=
  ∀ (base : Heap) (l : List Env) (p : Program) (loose : List Str) (mean : ExcName → Option Value) (mg mb : Str → Option Value) (s : Shared) (Q E : Value → Shared → Prop)
    (wr wd pc : Addr) (P : Array Value) (b : List UInt8) (n nd : Nat) (k1 k2 k3 k4 t1 t2 : Tok),
    Std base (At dp un l) l s.heap → (KF w.params).In base → Top p loose mean mg mb base →
    Own base l s.heap wr (instObj 302 wd) → Own base l s.heap wd (dictOf (wrD w ls ns pc k1 k2 k3 k4 t1 t2) nd) → Own base l s.heap pc (listOf P n) →
    wr ≠ wd → wr ≠ pc → wd ≠ pc → PA P b → P.size < Bd →
    (∀ h' tk' P' n', cond → PA P' (b ++ enc) → P'.size ≤ P.size + k → KeepBut [pc] s.heap h' → h'.get? pc = some (listOf P' n') → Q .none { s with heap := h', toks := tk' }) →
    (∀ h' tk' e, ¬ cond → Thrown [] l s.heap h' e → E (.ref e) { s with heap := h', toks := tk' }) →
    codeAny (model PG w) (At dp un l) (.call (.ref f) ⟨.ref wr :: as, []⟩) (RV Q E) s
theorem WC.here {w : World} {dp un : Nat} {f : Addr} {as : List Value} {ls ns : Int} {cond : Prop} {enc : List UInt8} {k Bd : Nat}
    {A A₀ : Around} {base g : Heap} {l : List Env} {env : Env} {L : Addr} {m : Str → Option Value} {news : List (Addr × Obj)} {p : Program} {loose : List Str} {mean : ExcName → Option Value} {mg mb : Str → Option Value} {s : Shared} {Q E : Value → Shared → Prop}
    {wr wd pc : Addr} {P : Array Value} {b : List UInt8} {n nd : Nat} {k1 k2 k3 k4 t1 t2 : Tok} {news' : Array Value → Nat → List (Addr × Obj)}
    (C : WC w dp un f as ls ns cond enc k Bd) (c : Cx w A A₀ base g s.heap l env L m news p loose mean mg mb) (e4 : A.depth ≤ dp) (e5 : A.units ≤ un)
    (m1 : (wr, instObj 302 wd) ∈ news) (m2 : (wd, dictOf (wrD w ls ns pc k1 k2 k3 k4 t1 t2) nd) ∈ news) (U : ∀ P' n', Upd pc (listOf P n) (listOf P' n') news (news' P' n'))
    (hne1 : wr ≠ wd) (hne2 : wr ≠ pc) (hne3 : wd ≠ pc) (hP : PA P b) (hPs : P.size < Bd)
    (hQ : ∀ h' tk' P' n', cond → PA P' (b ++ enc) → P'.size ≤ P.size + k → Fr g L h' m → News g L h' (news' P' n') → Q .none { s with heap := h', toks := tk' })
    (hE : ∀ h' tk' e, ¬ cond → Thrown [] (env :: l) s.heap h' e → E (.ref e) { s with heap := h', toks := tk' }) :
    codeAny (model PG w) A (.call (.ref f) ⟨.ref wr :: as, []⟩) (RV Q E) s :=
  c.lift (C base (env :: l) p loose mean mg mb s Q E wr wd pc P b n nd k1 k2 k3 k4 t1 t2 c.std c.X c.T (c.own m1) (c.own m2) (c.own (upd_mem (U #[] 0)).1) hne1 hne2 hne3 hP hPs
    (fun h' tk' P' n' c0 a b k hp => hQ h' tk' P' n' c0 a b (back1 c.F c.N (upd_mem (U P' n')).1 k) (back_news c.N k (U P' n') hp)) hE) e4 e5
example : True := by
  k_with "exec Raise some none" => (k_here; k_dflt (refine' Raise_mine ?hh ?_; (case hh => exact rfl)))
  k_with "call ref" => (k_here; (with_reducible show wpAny _ _ (call (Value.ref _) _ _) _ _ _); (fail_if_success (with_reducible show wpAny _ _ (call (Value.ref 302) _ _) _ _ _)); (fail_if_success (with_reducible show wpAny _ _ (call (Value.ref 213) _ _) _ _ _)); (fail_if_success (with_reducible show wpAny _ _ (call (Value.ref 90) _ _) _ _ _)); refine Parked.mk ?_)
  k_with "call type:bytes" => (k_here; (with_reducible show wpAny _ _ (call (Value.type "bytes") [Value.ref _]) _ _ _); k_dflt (refine' KBa.make_K ?kbaF ?kbaN ?kbah ?kbal ?kbai ?kbar ?kban ?_; (case kbaF => k_asm); (case kbaN => k_asm); (case kbah => rfl); (case kbal => kba_isList); (case kbai => kba_listInts); (case kbar => exact bits_in _ _); (case kban => kba_size)); intro _ _ _ F' N' kbaIn)
  trivial
theorem exc38 {w : World} {h : Heap} (X : (KF w.params).In h) : ∃ nm q bs sn sub ab col dd k0 k1 k2 k3 k5, h.get? 38 = some (excClassObj nm q 38 37 bs [.type "Exception", .type "BaseException", .type "object"] true sn sub ab col dd k0 k1 k2 k3 k5 "Exception.__new__") :=
  ⟨_, _, _, _, _, _, _, _, _, _, _, _, _, X _ _ (by k_is)⟩
theorem ns_at {h : Heap} {a : Addr} {c : Value} {dd : Option Addr} {sl : Array (Option Value)} {es : List DictEntry} {n : Nat} (e : h.get? a = some ⟨c, dd, .dict es.toArray n, sl⟩) (hk : ∀ x ∈ es, ∃ n t, x.key = .str n t) : h.Ns a (nsFind es.toArray) :=
  ⟨_, _, _, e, rfl, fun x hx => hk x (by simpa using hx), fun _ => rfl⟩
theorem ns37aux {K : Frag} {h : Heap} {c : Value} {dd : Option Addr} {sl : Array (Option Value)} {es : List DictEntry} {n : Nat} (X : K.In h) (e : K.lookup 37 = some ⟨c, dd, .dict es.toArray n, sl⟩) (hk : ∀ x ∈ es, ∃ n t, x.key = .str n t)
    (h1 : nsFind es.toArray (Str.ofString "__init__") = some (.ref 35)) (h2 : nsFind es.toArray (Str.ofString "text") = none) (h3 : nsFind es.toArray (Str.ofString "__setattr__") = none) :
    ∃ m, h.Ns 37 m ∧ m (Str.ofString "__init__") = some (.ref 35) ∧ m (Str.ofString "text") = none ∧ m (Str.ofString "__setattr__") = none := ⟨_, ns_at (X _ _ e) hk, h1, h2, h3⟩
theorem ns37 {w : World} {h : Heap} (X : (KF w.params).In h) : ∃ m, h.Ns 37 m ∧ m (Str.ofString "__init__") = some (.ref 35) ∧ m (Str.ofString "text") = none ∧ m (Str.ofString "__setattr__") = none := by
  refine' ns37aux X ?e ?k ?a ?b ?c
  case e => k_is
  case a => rfl
  case b => rfl
  case c => rfl
  case k =>
    repeat (first | exact List.forall_mem_nil _ | refine List.forall_mem_cons.mpr ⟨⟨_, _, rfl⟩, ?_⟩)
theorem fn35 {w : World} {h : Heap} (X : (KF w.params).In h) : ∃ oI, h.get? 35 = some oI ∧ oI.cls = .type "function" := ⟨_, X 35 _ (by k_is), rfl⟩
theorem exc_make {w : World} {base : Heap} {l : List Env} {p : Program} {loose : List Str} {mean : ExcName → Option Value} {mg mb : Str → Option Value} {s : Shared} {Q E : Value → Shared → Prop} {b : Array UInt8} {tb : Tok}
    (S : Std base (At 500 1000 l) l s.heap) (X : (KF w.params).In base) (T : Top p loose mean mg mb base)
    (hQ9 : ∀ h' tk' e ta o, KeepBut [] s.heap h' → h'.get? e = some o → o.cls = .ref 38 → o.data = .fields #[.ref ta, .none, .none, .none, .bool false, .none] → s.heap.get? e = none → Q (.ref e) { s with heap := h', toks := tk' }) :
    wpAny (model PG w) (At 500 1000 l) (call (.ref 38) [.bytes b tb]) Q E s := by
  obtain ⟨h, gs, d, t, os⟩ := s
  dsimp only at *
  have Xs := X.keeps S.stays
  obtain ⟨nm, q, bs, sn, sub, ab, col, dd, j0, j1, j2, j3, j5, hC⟩ := exc38 Xs
  obtain ⟨mN, hn, hi, ht, hs⟩ := ns37 Xs
  obtain ⟨oI, hI, hIc⟩ := fn35 Xs
  refine wpAny_call_exc_init PySem.F.excBase_Exception hC hn hi hI hIc fun h' e hm => ?_
  obtain ⟨keeps, new, ta, he, htn, hta⟩ := hm
  have hne : e ≠ 38 := fun z => by rw [z, hC] at new; cases new
  have own : Own base l h' e ⟨.ref 38, none, .fields #[.ref ta, .none, .none, .none, .bool false, .none], #[]⟩ := by
    refine ⟨he, ?_, fun hm => ?_⟩
    · cases z : base.get? e with
      | none => rfl
      | some o => rw [S.stays _ _ z] at new; cases new
    · obtain ⟨_, o, ho, _⟩ := S.ff.mem hm
      rw [new] at ho; cases ho
  have S' : Std base (At 500 1000 l) l h' := S.keep (S := []) (fun a o z _ => keeps a o z) fun _ z => nomatch z
  refine wpAny_call ?_
  refine' enter [(e, ⟨.ref 38, none, .fields #[.ref ta, .none, .none, .none, .bool false, .none], #[]⟩)] (S'.at_ rfl) X T ?k1 ?k6 ?k7 ?k8 ?k9 ?kB ?_ ?c2 ?c3 ?c4 ?c5
  case k6 => k_is
  case k7 => k_is
  case k9 => exact BindsTo.of_eq rfl
  case kB => exact locs rfl
  case c5 => decide
  case c2 => exact rfl
  case c3 => exact rfl
  case c4 => exact rfl
  case k8 => exact Nat.le_of_ble_eq_true rfl
  case k1 => exact List.forall_mem_cons.mpr ⟨own, List.forall_mem_nil _⟩
  intro g L' h₁ F' N' B' X' T' hg hL
  dsimp only at hg
  k_steps
  rename Fr g _ _ _ => F9
  rename News g _ _ _ => N9
  have g9 := F9.keep
  have hk9 : ∀ a o, h.get? a = some o → g.get? a = some o := fun a o z => by
    rw [hg]; exact hideAll_get _ (keeps _ _ z) fun hm => by
      rw [List.mem_singleton.mp hm, new] at z; cases z
  have he9 := News.get N9 (.head _)
  refine store_attr (ns := []) PySem.F.store_Exception (g9 _ _ (hk9 _ _ hC)) (hn.keeps fun a o z => g9 _ _ (hk9 _ _ z)) hs ht ?hB hne ⟨_, he9, rfl, fun _ z => (by cases z), .inl ⟨rfl, fun _ => rfl⟩⟩ fun h3 tk3 _ k3 o3 => ?_
  case hB => rw [typeLookup_type, builtinLookup_eq_fast]; kernel_rfl
  obtain ⟨o9, ho9, hc9, hd9, _, _⟩ := o3 _ he9
  have K9 : KeepBut [e] _ h3 := fun a o z hn' => k3 a o (fun q => hn' (List.mem_singleton.mpr q)) (fun o₀ dx q1 q2 => by rw [he9] at q1; cases q1; cases q2) z
  have F3 := back1 F9 N9 (.head _) K9
  clear F9 N9
  k_steps
  exact hQ9 _ _ e ta o9 (fun a o z _ => F3.keep _ _ (hk9 _ _ z)) ho9 hc9 hd9 new
theorem exc_here {w : World} {A A₀ : Around} {base g : Heap} {l : List Env} {env : Env} {L : Addr} {m : Str → Option Value} {news : List (Addr × Obj)} {p : Program} {loose : List Str} {mean : ExcName → Option Value} {mg mb : Str → Option Value} {s : Shared} {E E' : Value → Shared → Prop} {b : Array UInt8} {tb : Tok}
    (c : Cx w A A₀ base g s.heap l env L m news p loose mean mg mb) (e4 : A.depth ≤ 500) (e5 : A.units ≤ 1000)
    (k : ∀ h' tk' e o ta, Fr g L h' m → News g L h' news → KeepBut [] s.heap h' → h'.get? e = some o → o.cls = .ref 38 → o.data = .fields #[.ref ta, .none, .none, .none, .bool false, .none] → s.heap.get? e = none →
      E (.ref e) { s with heap := h', toks := tk' }) : wpAny (model PG w) A (call (.ref 38) [.bytes b tb]) (RaisableM (KF w.params) E) E' s := by
  have Xs : (KF w.params).In s.heap := (c.X.keeps c.B.stays).keeps c.F.keep
  refine lift (d := 500) (u := 1000) (exc_make c.std c.X c.T fun h' tk' e ta o kk he hc hd' hn => ?_) c.e1 c.e2 c.e3 e4 e5
  have kk' : ∀ b o, s.heap.get? b = some o → h'.get? b = some o := fun b o q => kk b o q (fun z => nomatch z)
  exact ⟨e, o, ta, rfl, Xs.keeps kk', he, hc, hd', k h' tk' e o ta (c.F.keeps kk') (fun p hp => ⟨kk' _ _ (c.N p hp).1, (c.N p hp).2⟩) kk he hc hd' hn⟩
def reframe (h' : Heap) : List Addr → Heap → Heap
  | [], g => g
  | a :: r, g => match h'.get? a with
    | some o => reframe h' r (g.update a fun _ => o)
    | none => reframe h' r g
theorem not_freed {h : Heap} {a : Addr} {o : Obj} (e : h.get? a = some o) : o.isFreed = false := by
  cases q : o.isFreed with
  | false => rfl
  | true =>
    exfalso
    obtain ⟨c, d, dt, sl⟩ := o
    unfold Obj.isFreed at q
    unfold Heap.get? at e
    cases dt <;> simp_all
    split at e <;> simp_all
theorem reframe_size (h' : Heap) : ∀ (l : List Addr) (g : Heap), (reframe h' l g).objs.size = g.objs.size
  | [], _ => rfl
  | a :: r, g => by
    unfold reframe
    cases h'.get? a with
    | none => exact reframe_size h' r g
    | some o =>
      refine (reframe_size h' r _).trans ?_
      show (g.objs.modify a _).size = _
      simp
theorem reframe_off (h' : Heap) : ∀ (l : List Addr) (g : Heap) {b : Addr}, b ∉ l → (reframe h' l g).get? b = g.get? b
  | [], _, _, _ => rfl
  | a :: r, g, b, hb => by
    unfold reframe
    have h1 : b ≠ a := fun q => hb (q ▸ .head _)
    have h2 : b ∉ r := fun q => hb (.tail _ q)
    cases e : h'.get? a with
    | none => exact reframe_off h' r g h2
    | some o => exact (reframe_off h' r _ h2).trans (Heap.get?_update_other _ _ (Ne.symm h1))
theorem reframe_on (h' : Heap) {b : Addr} {o : Obj} (ho : h'.get? b = some o) : ∀ (l : List Addr) (g : Heap), b ∈ l → (g.get? b).isSome = true → (reframe h' l g).get? b = some o := by
  intro l
  induction l with
  | nil => intro g hb _; cases hb
  | cons a r ih =>
    intro g hb hs
    unfold reframe
    by_cases q : b = a
    · subst q
      rw [ho]
      have e1 : (g.update b fun _ => o).get? b = some o := by
        obtain ⟨o', e⟩ := Option.isSome_iff_exists.mp hs
        exact Heap.get?_update_self _ e (not_freed ho)
      by_cases q2 : b ∈ r
      · exact ih _ q2 (by rw [e1]; rfl)
      · exact (reframe_off h' r _ q2).trans e1
    · have hr : b ∈ r := (List.mem_cons.mp hb).resolve_left q
      cases e : h'.get? a with
      | none => exact ih g hr hs
      | some o' => exact ih _ hr (by rw [Heap.get?_update_other _ _ (Ne.symm q)]; exact hs)
section
variable {w : World} {A A₀ : Around} {s : Shared} {base g h1 : Heap} {l : List Env} {L e : Addr} {E : Value → Shared → Prop} {S : List Addr}
theorem caught_mine2 {m : Str → Option Value} {p : Program} {loose : List Str} {mean : ExcName → Option Value} {mg mb : Str → Option Value} {np pos : Pos} {b₀ : Stmt} {suite : List Stmt} {rest : List ExceptHandler} {Q : Flow → Shared → Prop}
    {name : Str} {scope : Scope} {a : Addr} {cd : Value} {cl : List (Str × Addr)} (hA : A.frames = some (envX name scope L a cd cl :: l))
    (B : Below A₀ base l g) (F : Fr g L h1 m) (Xb : (KF w.params).In base) (Tb : Top p loose mean mg mb base)
    (hgS : ∀ a ∈ S, g.get? a = none) (hLS : L ∉ S) (ht : Thrown S (envX name scope L a cd cl :: l) h1 s.heap e)
    (k : ∀ h' g2, Fr g2 L h' m → Kept S (envX name scope L a cd cl :: l) h1 h' → (KF w.params).In g2 → Top p loose mean mg mb g2 → Below A₀ base l g2 → Kept [] l g g2 → (∀ b, g.get? b = none → g2.get? b = none) → (∀ b, g2.get? b = none → g.get? b = none) →
      wpAny (model PG w) (A.mark (some (.ref e))) (execs (b₀ :: suite) (envX name scope L a cd cl)) Q (fun _ _ => False) { s with heap := h' })
    (hk : scope.kind = .function := by rfl) (hx : (envX name scope L a cd cl).kindOf "BadDump" = some .globalImplicit := by rfl) :
    wpAny (model PG w) A (noteFrame (.ref e) (envX name scope L a cd cl))
      (fun _ s₂ => wpAny (model PG w) A (setFlight (.ref e) none) (fun _ s₃ =>
        wpAny (model PG w) A (handleBy (.ref e) (envX name scope L a cd cl) (.ExceptHandler (some (.Name "BadDump" np)) none (b₀ :: suite) pos :: rest)) Q E s₃) E s₂) E s := by
  have hgl : ∀ b ∈ frs l, base.get? b = none := fun b hb => (B.frames.mem hb).1
  refine caught_mine hA F hgl B.stays Xb (topRead_of Tb) hgS hLS ht (fun h' F' K' X' T' => ?_) hk hx
  have hfr : ∀ b ∈ frs l, ∃ o sl, g.get? b = some o ∧ (∀ vs, o.data ≠ .fields vs) ∧ h'.get? b = some { o with slots := sl } := fun b hb => by
    obtain ⟨o, ho, hv⟩ := (B.frames.mem hb).2
    obtain ⟨sl, hs⟩ := K'.slot b o (F.keep b o ho) (fun q => by rw [hgS b q] at ho; cases ho) hv
    exact ⟨o, sl, ho, hv, hs⟩
  have g2g : Kept [] l g (reframe h' (frs l) g) := by
    refine ⟨fun b o ho _ hn => (reframe_off h' _ g hn).trans ho, fun b o ho _ hv => ?_⟩
    by_cases q : b ∈ frs l
    · obtain ⟨o', sl, ho', _, hs⟩ := hfr b q
      rw [ho] at ho'; cases ho'
      exact ⟨sl, reframe_on h' hs _ g q (by rw [ho]; rfl)⟩
    · exact ⟨o.slots, (reframe_off h' _ g q).trans ho⟩
  have st : base.StaysIn (reframe h' (frs l) g) := fun b o q => (reframe_off h' _ g fun hm => by rw [hgl b hm] at q; cases q).trans (B.stays b o q)
  have none2 : ∀ b, g.get? b = none → (reframe h' (frs l) g).get? b = none := fun b hb => by
    by_cases q : b ∈ frs l
    · obtain ⟨o, _, ho, _⟩ := hfr b q
      rw [hb] at ho; cases ho
    · exact (reframe_off h' _ g q).trans hb
  have F2 : Fr (reframe h' (frs l) g) L h' m := by
    refine ⟨F'.ns, fun b o q => ?_, by rw [reframe_size]; exact F.above⟩
    by_cases z : b ∈ frs l
    · obtain ⟨o', sl, ho', _, hs⟩ := hfr b z
      rw [reframe_on h' hs _ g z (by rw [ho']; rfl)] at q
      rw [hs]; exact q
    · rw [reframe_off h' _ g z] at q
      exact F'.keep b o (hideAll_get _ q z)
  have B2 : Below A₀ base l (reframe h' (frs l) g) := ⟨B.stack, st, B.frames.of_keeps fun b o ho hv => by
    obtain ⟨sl, h2⟩ := g2g.slot b o ho (fun z => nomatch z) hv
    exact ⟨_, h2, rfl⟩⟩
  have none3 : ∀ b, (reframe h' (frs l) g).get? b = none → g.get? b = none := fun b hb => by
    by_cases q : b ∈ frs l
    · obtain ⟨o', sl, ho', _, hs⟩ := hfr b q
      rw [reframe_on h' hs _ g q (by rw [ho']; rfl)] at hb
      cases hb
    · rw [reframe_off h' _ g q] at hb; exact hb
  exact k h' _ F2 K' (Xb.keeps st) (Tb.keeps st) B2 g2g none2 none3
theorem news_kept {news : List (Addr × Obj)} {m : Str → Option Value} {env : Env} {g2 h' : Heap} (B : Below A₀ base l g) (F : Fr g L h1 m) (N : News g L h1 news) (hf : env.frame = some L) (K : Kept [] (env :: l) h1 h') (hn : ∀ b, g.get? b = none → g2.get? b = none) : News g2 L h' news := fun q hq => by
  have o := own_of (env := env) B F N hf (show (q.1, q.2) ∈ news from hq)
  exact ⟨K.same _ _ o.get (fun z => nomatch z) o.apart, (N q hq).2.1, hn _ (N q hq).2.2⟩
theorem caught_here {m : Str → Option Value} {p : Program} {loose : List Str} {mean : ExcName → Option Value} {mg mb : Str → Option Value} {np pos : Pos} {b₀ : Stmt} {suite : List Stmt} {rest : List ExceptHandler} {Q : Flow → Shared → Prop} {news : List (Addr × Obj)}
    {name : Str} {scope : Scope} {a : Addr} {cd : Value} {cl : List (Str × Addr)} (hA : A.frames = some (envX name scope L a cd cl :: l))
    (ht : Thrown [] (envX name scope L a cd cl :: l) h1 s.heap e) (F : Fr g L h1 m) (N : News g L h1 news) (B : Below A₀ base l g) (Xb : (KF w.params).In base) (Tb : Top p loose mean mg mb base)
    (k : ∀ h' g2, Fr g2 L h' m → News g2 L h' news → (KF w.params).In g2 → Top p loose mean mg mb g2 → Below A₀ base l g2 → Kept [] l g g2 → (∀ b, g2.get? b = none → g.get? b = none) →
      wpAny (model PG w) (A.mark (some (.ref e))) (execs (b₀ :: suite) (envX name scope L a cd cl)) Q (fun _ _ => False) { s with heap := h' })
    (hk : scope.kind = .function) (hx : (envX name scope L a cd cl).kindOf "BadDump" = some .globalImplicit) :
    wpAny (model PG w) A (noteFrame (.ref e) (envX name scope L a cd cl))
      (fun _ s₂ => wpAny (model PG w) A (setFlight (.ref e) none) (fun _ s₃ =>
        wpAny (model PG w) A (handleBy (.ref e) (envX name scope L a cd cl) (.ExceptHandler (some (.Name "BadDump" np)) none (b₀ :: suite) pos :: rest)) Q E s₃) E s₂) E s :=
  caught_mine2 (S := []) hA B F Xb Tb (fun _ z => nomatch z) (fun z => nomatch z) ht (fun h' g2 F2 K X2 T2 B2 g2g n2 n3 => k h' g2 F2 (news_kept B F N rfl K n2) X2 T2 B2 g2g n3) hk hx
/-- the end of a handler: what was kept since the call began -/
theorem kept_end {g2 h'' : Heap} {m : Str → Option Value} {small : List (Addr × Obj)} {h0 : Heap} (F : Fr g2 L h'' m) (gg : Kept [] l g g2) (hg : g = hideAll h0 (small.map (·.1))) : Kept (small.map (·.1)) l h0 h'' := by
  subst hg
  refine ⟨fun b o ho hn hf => F.keep b o (gg.same b o (hideAll_get _ ho hn) (fun z => nomatch z) hf), fun b o ho hn hv => ?_⟩
  obtain ⟨sl, h2⟩ := gg.slot b o (hideAll_get _ ho hn) (fun z => nomatch z) hv
  exact ⟨sl, F.keep _ _ h2⟩
theorem Kept.drop {a : Addr} {o : Obj} {h h' : Heap} (x : Kept (a :: S) l h h') (e : h.get? a = some o) (e' : h'.get? a = some o) : Kept S l h h' := by
  refine ⟨fun b o' ho hn hf => ?_, fun b o' ho hn hv => ?_⟩
  · by_cases q : b = a
    · subst q; rw [e] at ho; cases ho; exact e'
    · exact x.same b o' ho (fun m => (List.mem_cons.mp m).elim q hn) hf
  · by_cases q : b = a
    · subst q; rw [e] at ho; cases ho; exact ⟨o.slots, e'⟩
    · exact x.slot b o' ho (fun m => (List.mem_cons.mp m).elim q hn) hv
theorem News.get_none {g h : Heap} {L : Addr} {news : List (Addr × Obj)} {a : Addr} {o : Obj} (N : News g L h news) (m : (a, o) ∈ news) : g.get? a = none := (N _ m).2.2
theorem fresh_of {g : Heap} {r : Addr} {small : List (Addr × Obj)} {h0 : Heap} (hr : g.get? r = none) (hg : g = hideAll h0 (small.map (·.1))) (hn : ∀ q ∈ small, r ≠ q.1) : h0.get? r = none := by
  subst hg
  cases e : h0.get? r with
  | none => rfl
  | some o =>
    rw [hideAll_get _ e fun q => by obtain ⟨x, hx, rfl⟩ := List.mem_map.mp q; exact hn x hx rfl] at hr
    cases hr
theorem Kept.mono {S' : List Addr} {h h' : Heap} (x : Kept S l h h') (hs : ∀ a ∈ S, a ∈ S') : Kept S' l h h' := ⟨fun b o e n => x.same b o e fun q => n (hs b q), fun b o e n => x.slot b o e fun q => n (hs b q)⟩
end
example : True := by
  k_with "noteFrame ref" => (k_here; (with_reducible show wpAny _ _ (noteFrame _ _) (fun _ s₂ => wpAny _ _ (setFlight _ none) (fun _ s₃ => wpAny _ _ (handleBy _ _ (ExceptHandler.ExceptHandler (some (Expr.Name _ _)) none _ _ :: _)) _ _ s₃) _ s₂) _ _); k_dflt (refine' caught_here ?hA ?ht ?F ?N ?B ?X ?T ?_ ?hk ?hx; (case hA => exact rfl); (case ht => assumption); (case F => k_asm); (case N => k_asm); (case B => k_asm); (case X => k_asm); (case T => k_asm); (case hk => exact rfl); (case hx => exact rfl)); intro h' g2' F' N' X' T' B' gg' gn')
  trivial
namespace Jn
open Builtin
theorem slot_join : Slot "bytes" "join" "bytes.join" :=
  .of (owner := "bytes") (n := "join") (by rw [typeLookup_type, builtinLookup_eq_fast]; kernel_rfl) (by decide +kernel) (by decide +kernel) (by decide +kernel)
    (by first | exact .inl (by decide +kernel) | exact .inr (by decide +kernel)) (by rw [isSubtype_type]; kernel_rfl)
theorem type_join : typeOf (.builtin "bytes.join") = pure (.type "method_descriptor") := by show builtinType _ = _; rw [builtinType_eq_fast]; kernel_rfl
theorem entry_join : entryFor table "bytes.join" = some Builtin.«bytes.join» := entryFor_of_tree (by kernel_rfl)
theorem args_join (a b : Value) : argsOk "bytes.join" ⟨[a, b], []⟩ := by
  unfold argsOk; rw [signature?_of (id := "bytes.join") (n := ['n', 'i', 'o', 'j']) (o := ['s', 'e', 't', 'y', 'b']) (by kernel_rfl) FB.owner_bytes]; kernel_rfl
theorem take_eq {id : String} {b : Array UInt8} {t : Tok} : Bytes.takeBufferQuiet? id (.bytes b t) 0 = pure (some (b, none)) := by kernel_rfl
theorem join_eq {sep : Array UInt8} {t : Tok} {L : Addr} : Builtin.«bytes.join» ⟨[.bytes sep t, .ref L], []⟩ = Bytes.joinM .bytes ⟨[.bytes sep t, .ref L], []⟩ := rfl

theorem forRange {M : Model} {A : Around} {E : Value → Shared → Prop} {β : Type} {n : Nat} {f : Nat → β → Sem (ForInStep β)} (I : Nat → β → Shared → Prop) {Q : β → Shared → Prop}
    (hstep : ∀ i c s, i < n → I i c s → wpAny M A (f i c) (fun r s' => match r with | .done c' => Q c' s' | .yield c' => I (i + 1) c' s') E s)
    (hend : ∀ c s, I n c s → Q c s) {c : β} {s : Shared} (h : I 0 c s) : wpAny M A (forIn [:n] c f) Q E s := by
  rw [Std.Legacy.Range.forIn_eq_forIn_range']
  have hsz : ([:n] : Std.Legacy.Range).size = n := by simp [Std.Legacy.Range.size]
  show wpAny M A (forIn (List.range' 0 ([:n] : Std.Legacy.Range).size 1) c f) Q E s
  rw [hsz]
  refine wpAny_forIn_list f (fun l c s => ∃ i, i ≤ n ∧ l = List.range' i (n - i) 1 ∧ I i c s) Q ?_ ?_ _ c ⟨0, Nat.zero_le _, by simp, h⟩
  · rintro x rest c s ⟨i, hi, hl, hI⟩
    have hlt : i < n := by
      rcases Nat.lt_or_ge i n with h' | h'
      · exact h'
      · rw [Nat.sub_eq_zero_of_le h'] at hl; simp at hl
    obtain ⟨k, hk⟩ : ∃ k, n - i = k + 1 := ⟨n - i - 1, (Nat.sub_add_cancel (Nat.sub_pos_of_lt (by assumption))).symm⟩
    rw [hk, List.range'_succ] at hl
    obtain ⟨rfl, rfl⟩ := List.cons.inj hl
    refine wpAny_mono (hstep x c s hlt hI) (fun r s' h' => ?_) fun _ _ z => z
    cases r with
    | done c' => exact h'
    | yield c' => exact ⟨x + 1, hlt, by rw [show n - (x + 1) = k from congrArg Nat.pred hk], h'⟩
  · rintro c s ⟨i, hi, hl, hI⟩
    have : i = n := by
      rcases Nat.lt_or_ge i n with h' | h'
      · obtain ⟨k, hk⟩ : ∃ k, n - i = k + 1 := ⟨n - i - 1, (Nat.sub_add_cancel (Nat.sub_pos_of_lt (by assumption))).symm⟩
        rw [hk, List.range'_succ] at hl; cases hl
      · omega
    subst this
    exact hend c s hI
abbrev bv (p : Array UInt8 × Tok) : Value := Value.bytes p.1 p.2
theorem one_eq {id : String} {a b : Value} : selfAndOne id ⟨[a, b], []⟩ = pure (a, b) := by kernel_rfl
theorem letGo_any {M : Model} {A : Around} {E : Value → Shared → Prop} {Q : Unit → Shared → Prop} {s : Shared} : ∀ (l keep : List Value), Q () s → wpAny M A (letGo l keep) Q E s
  | [], _, h => by unfold letGo; exact wpAny_pure h
  | _ :: rest, keep, h => by unfold letGo; exact wpAny_bind (wpAny_holding (wpAny_point (letGo_any rest keep h)))
theorem letGo_ok {M : Model} {A : Around} {E : Value → Shared → Prop} {Q : Unit → Shared → Prop} {s : Shared} : ∀ (l : List (Array UInt8 × Tok)) (keep : List Value), Q () s → wpAny M A (Bytes.joinLetGo (l.map fun p => (bv p, none)) keep) Q E s
  | [], _, h => by
    show wpAny M A (Bytes.joinLetGo [] _) Q E s
    unfold Bytes.joinLetGo; exact wpAny_pure h
  | p :: l, keep, h => by
    show wpAny M A (Bytes.joinLetGo ((bv p, none) :: l.map fun p => (bv p, none)) keep) Q E s
    unfold Bytes.joinLetGo
    dsimp only
    exact wpAny_bind (letGo_any _ _ (letGo_ok l keep h))
theorem any_no : ∀ (l : List (Array UInt8 × Tok)), ((l.map fun p => (bv p, (none : Option Value))).any fun x => x.1.onHeap) = false
  | [] => rfl
  | _ :: l => any_no l
theorem joined_flat (ps : List (Array UInt8)) : (Bytes.joined #[] ps).toList = (ps.map (·.toList)).flatten := by
  have key : ∀ (ps : List (Array UInt8)) (k : Nat) (out : Array UInt8), (((ps.zipIdx k).foldl (fun out (p, i) => (if i > 0 then out ++ #[] else out) ++ p) out)).toList = out.toList ++ (ps.map (·.toList)).flatten := by
    intro ps
    induction ps with
    | nil => intro k out; simp
    | cons p ps ih =>
      intro k out
      rw [List.zipIdx_cons, List.foldl_cons, ih]
      by_cases h : k > 0 <;> simp [h]
  have := key ps 0 #[]
  simpa [Bytes.joined] using this
theorem size_fold (l : List (Array UInt8 × Tok)) : Array.foldl (fun x1 x2 => x1 + x2.size) ((#[] : Array UInt8).size * ((List.map (fun x => x.1) l).toArray.size - 1)) (List.map (fun x => x.1) l).toArray = (l.map (·.1.size)).sum := by
  have key : ∀ (l : List (Array UInt8 × Tok)) (k : Nat), List.foldl (fun x1 (x2 : Array UInt8) => x1 + x2.size) k (l.map (·.1)) = k + (l.map (·.1.size)).sum := by
    intro l
    induction l with
    | nil => intro k; simp
    | cons p l ih => intro k; simp only [List.map_cons, List.foldl_cons, List.sum_cons]; rw [ih]; omega
  have := key l 0
  simpa using this
theorem joined_size (l : List (Array UInt8 × Tok)) : (Bytes.joined #[] (l.map (·.1))).size = (l.map (·.1.size)).sum := by
  rw [← Array.length_toList, joined_flat, List.length_flatten, List.map_map, List.map_map]; rfl
theorem meets_join {t : Tok} {L : Addr} {l : List (Array UInt8 × Tok)} : Meets (Builtin.«bytes.join» ⟨[.bytes #[] t, .ref L], []⟩)
    (fun _ R s => s.heap.IsList L (l.map bv).toArray ∧ (l.map (·.1.size)).sum ≤ sizeLine ∧ ∀ r t' k, r.toList = (l.map (·.1.toList)).flatten → R (.ok (.ret (.bytes r t'))) { s with toks := k }) := by
  refine .of_wp fun prog w A R s hS => ?_
  obtain ⟨hl, hsz, h⟩ := hS
  obtain ⟨o, ho, hc, n, hd⟩ := id hl
  unfold Builtin.«bytes.join» Bytes.joinM
  refine wpAny_bind (wpAny_of_eq one_eq ?_)
  dsimp only
  rw [if_pos (by decide)]
  unfold Bytes.joinItems
  refine wpAny_bind (wpAny_bind (wpAny_typeOf hl.typeIs ?_))
  rw [if_pos (by decide)]
  refine wpAny_pure ?_
  refine wpAny_bind (wpAny_seqItems ho hd ?_)
  dsimp only
  rw [if_pos (by decide)]
  have hlen : (l.map bv).toArray.size = l.length := by simp
  have hget : ∀ i p, l[i]? = some p → (l.map bv).toArray.getD i Value.none = bv p := fun i p hp => by
    have hi := (List.getElem?_eq_some_iff.mp hp).1
    have he := (List.getElem?_eq_some_iff.mp hp).2
    simp [Array.getD, hi, he]
  have hone : ∀ x, (l.map bv).toArray = #[x] → ∃ p, l = [p] ∧ bv p = x := fun x hx => by
    have hx' : l.map bv = [x] := by have := congrArg Array.toList hx; simpa using this
    match l, hx' with
    | [p], hx' => exact ⟨p, rfl, by simpa using hx'⟩
  generalize (l.map bv).toArray = arr at hd hlen hget hone ⊢
  obtain ⟨al⟩ := arr
  rcases al with _ | ⟨x, _ | ⟨y, al⟩⟩
  rotate_left
  · obtain ⟨p, rfl, rfl⟩ := hone x rfl
    (try dsimp only)
    refine wpAny_bind (wpAny_of_eq (a := .type "bytes") rfl ?_)
    rw [if_pos (by decide)]
    refine wpAny_bind (wpAny_rule ?_)
    exact wpAny_pure ⟨_, rfl, h p.1 p.2 s.toks (by simp)⟩
  all_goals
    (try dsimp only)
    · refine wpAny_bind (forRange (n := _) (fun i c s' => s' = s ∧ c = (((l.take i).map (·.1)).toArray, (l.take i).map fun p => (bv p, none))) ?_ ?_ ⟨rfl, by simp⟩)
      · rintro i c s' hi ⟨rfl, rfl⟩
        rw [hlen] at hi
        obtain ⟨p, hp⟩ : ∃ p, l[i]? = some p := ⟨l[i], by simp [hi]⟩
        have hg := hget i p hp
        have ht : l.take (i + 1) = l.take i ++ [p] := by rw [List.take_add_one, hp]; rfl
        refine wpAny_bind (wpAny_seqItems ho hd ?_)
        dsimp only
        rw [if_neg (by rw [any_no]; decide), hg]
        refine wpAny_bind (wpAny_holding (wpAny_of_eq Jn.take_eq ?_))
        dsimp only
        refine wpAny_bind (wpAny_seqItems ho hd ?_)
        dsimp only
        rw [if_neg (by simp)]
        refine wpAny_pure ⟨rfl, ?_⟩
        rw [ht]; simp
      · rintro c s' ⟨rfl, rfl⟩
        rw [hlen, List.take_length]
        dsimp only
        refine wpAny_bind (wpAny_of_eq (a := #[]) rfl ?_)
        rw [if_neg (by rw [size_fold]; simpa [Bytes.tooLong] using hsz)]
        refine wpAny_bind (wpAny_mkBytes ?_ (by rw [joined_size]; exact hsz))
        refine wpAny_bind (wpAny_holding (wpAny_point ?_))
        refine wpAny_bind (letGo_ok l _ ?_)
        exact wpAny_pure ⟨_, rfl, h _ _ _ (by rw [joined_flat, List.map_map]; rfl)⟩
theorem join_K {w : World} {prog : Program} {A : Around} {s : Shared} {Q E : Value → Shared → Prop} {t : Tok} {L : Addr} {P : Array Value} {b : List UInt8} (hP : PA P b) (hl : s.heap.IsList L P) (hsz : b.length ≤ sizeLine)
    (h : ∀ r t' k, r.toList = b → Q (.bytes r t') { s with toks := k }) : wpAny (model prog w) A (call (.builtin "bytes.join") [.bytes #[] t, .ref L]) Q E s := by
  obtain ⟨l, h1, h2⟩ := hP
  have e : P = (l.map bv).toArray := by rw [← h1]
  subst e
  refine call_meets slot_join (typeIs_bytes _ _ _) entry_join (args_join _ _) (meets_join (l := l)) ⟨hl, ?_, fun r t' k e => h r t' k (e.trans h2)⟩
  have : (l.map (·.1.size)).sum = b.length := by rw [← h2, List.length_flatten, List.map_map]; rfl
  rw [this]; exact hsz
theorem method_join {M : Model} {A : Around} {s : Shared} {E : Value → Shared → Prop} {b : Array UInt8} {t : Tok} {pl : Sem Bool} {Q : Value × List Value → Shared → Prop} (h : Q (.builtin "bytes.join", [.bytes b t]) s) : wpAny M A (getMethod (.bytes b t) "join" pl) Q E s := by
  with_reducible exact KBd.method_of (.bytes b t) (typeIs_bytes _ _ _) slot_join type_join KBd.noRef h
end Jn
example : True := by
  k_with "getMethod bytes" => (k_here; (with_reducible refine Jn.method_join ?_))
  k_with "call builtin:bytes.join" => (k_here; (with_reducible show wpAny _ _ (call (Value.builtin "bytes.join") [Value.bytes _ _, Value.ref _]) _ _ _); k_dflt (refine' Jn.join_K ?P ?l ?z ?_; (case l => exact News.isList (by k_asm) (by k_mem)); (case P => first | assumption | exact PA_push (by assumption) _ _); (case z => first | assumption | (rw [sizeLine_eq]; omega) | (rw [sizeLine_eq]; simp only [List.length_append, Array.length_toList] at *; omega))); intro r' t' k' hr')
  trivial
abbrev tupO (vs : List Value) : Obj := { cls := .type "tuple", data := .seq vs.toArray }
section
variable {prog : Program} {w : World} {A : Around} {E : Value → Shared → Prop} {s : Shared}
theorem adjust_upto (b n : Nat) (hb : b ≤ n) : Builtin.Slice.sliceAdjust none (some (b : Int)) 1 (n : Int) = (0, (b : Int)) := by
  unfold Builtin.Slice.sliceAdjust
  have h1 : ¬ ((1 : Int) < 0) := by omega
  have h2 : ¬ ((b : Int) < 0) := by omega
  simp only [h1, h2, if_false]
  congr 1
  omega
theorem places_upto (b : Nat) : Builtin.Slice.slicePlaces 0 (b : Int) 1 = b := by
  unfold Builtin.Slice.slicePlaces
  have h1 : (1 : Int) > 0 := by omega
  simp only [h1, if_true, Int.ediv_one]
  split <;> omega
theorem sliceApplied_upto {sl : Addr} {b n : Nat} {u : Tok} {Q : Int × Int × Nat → Shared → Prop} (hs : s.heap.IsSliceOf sl .none (.int b u) .none) (hb : b ≤ n) (h : Q (0, 1, b) s) :
    wpAny (model prog w) A (Builtin.Slice.sliceApplied (.ref sl) (pure (n : Int))) Q E s := by
  obtain ⟨os, hos, hcs, hds⟩ := id hs
  unfold Builtin.Slice.sliceApplied Builtin.Slice.sliceFields
  refine wpAny_bind (wpAny_bind (wpAny_field hos hds (x := .none) rfl (wpAny_bind (wpAny_field hos hds (x := .int b u) rfl (wpAny_bind (wpAny_field hos hds (x := .none) rfl (wpAny_pure ?_)))))))
  refine wpAny_bind (slicePart_none ?_)
  show wpAny _ _ (if ((1 : Int) == 0) = true then _ else _) _ _ s
  rw [if_neg (by decide)]
  refine wpAny_bind (slicePart_none (wpAny_bind (slicePart_int (wpAny_bind (wpAny_pure ?_)))))
  show wpAny _ _ (match Builtin.Slice.sliceAdjust none (some (b : Int)) 1 (n : Int) with | (lo, hi) => pure (lo, (1 : Int), Builtin.Slice.slicePlaces lo hi 1)) _ _ s
  rw [adjust_upto b n hb]
  show wpAny _ _ (pure ((0 : Int), (1 : Int), Builtin.Slice.slicePlaces 0 (b : Int) 1)) _ _ s
  rw [places_upto b]
  exact wpAny_pure h
theorem pick_upto (xs : Array Value) (b : Nat) : ((List.range b).filterMap fun (k : Nat) => xs[((0 : Int) + (k : Int) * 1).toNat]?).toArray = (xs.toList.take b).toArray := by
  have e : (fun (k : Nat) => xs[((0 : Int) + (k : Int) * 1).toNat]?) = fun k => xs[0 + k]? := by
    funext k
    have : ((0 : Int) + (k : Int) * 1).toNat = 0 + k := by omega
    rw [this]
  rw [e]
  have := pick_run xs 0 b
  rw [List.filterMap_map] at this
  have e2 : ((fun x => xs[x]?) ∘ fun x => 0 + x) = fun k => xs[0 + k]? := rfl
  rw [e2] at this
  rw [this]; simp
theorem getItem_tuple_upto {t sl : Addr} {items : Array Value} {b : Nat} {u : Tok} {Q : Value → Shared → Prop} (ht : IsTup s.heap t items) (hs : s.heap.IsSliceOf sl .none (.int b u) .none) (hb : b < items.size)
    (h : Q (.ref s.heap.objs.size) { s with heap := s.heap.push { cls := .type "tuple", data := .seq (items.toList.take b).toArray } })
    (hsz : items.size ≤ sizeLine) : wpAny (model prog w) A (getItem (.ref t) (.ref sl)) Q E s := by
  have htake : sizeOk (.seq (items.toList.take b).toArray) := by
    show (items.toList.take b).toArray.size ≤ sizeLine
    rw [List.size_toArray, List.length_take, Array.length_toList]
    omega
  obtain ⟨os, hos, hcs, hds⟩ := id hs
  have hTs : s.TypeIs (.ref sl) "slice" := ⟨os, hos, hcs⟩
  unfold getItem
  try with_reducible refine wpAny_holding ?_
  first | refine wpAny_bind (wpAny_pure ?_) | skip
  refine wpAny_bind (wpAny_sequenceKey ht.typeIs (by decide) ?_)
  refine wpAny_bind (wpAny_callSpecial?_slot (name := Str.ofString "__getitem__") ht.typeIs slot_tuple_getitem
    (wpAny_call_entry slot_tuple_getitem ht.typeIs entry_tuple_getitem ?_ (args_tuple_getitem _ _)))
  show wpAny _ _ (Builtin.Tuple.tupleItemsOf (.ref t) >>= _) _ _ s
  refine wpAny_bind (tupleItemsOf_ ht ?_)
  refine wpAny_bind (wpAny_typeOf hTs ?_)
  rw [if_pos (by decide)]
  refine wpAny_bind (sliceApplied_upto hs (Nat.le_of_lt hb) ?_)
  have hno : ¬ (((0 : Int) == 0 && (1 : Int) == 1 && b == items.size) = true) := by
    have : (b == items.size) = false := by rw [beq_eq_false_iff_ne]; omega
    rw [this]; simp
  show wpAny _ _ (if ((0 : Int) == 0 && (1 : Int) == 1 && b == items.size) = true then _ else _) _ _ s
  rw [if_neg hno, pick_upto items b]
  first
    | exact wpAny_bind (m := Builtin.Tuple.tupleExact _) (wpAny_newObj_type (wpAny_pure ⟨_, rfl, wpAny_pure h⟩) htake)
    | exact wpAny_bind (m := Builtin.Tuple.tupleExact _) (wpAny_newObj_type (wpAny_bind (wpAny_pure (wpAny_pure ⟨_, rfl, wpAny_pure h⟩))) htake)
    | exact wpAny_bind (wpAny_bind (m := Builtin.Tuple.tupleExact _) (wpAny_newObj_type (wpAny_pure (wpAny_pure ⟨_, rfl, wpAny_pure h⟩)) htake))
    | exact wpAny_bind (wpAny_bind (m := Builtin.Tuple.tupleExact _) (wpAny_newObj_type (wpAny_pure ⟨_, rfl, wpAny_pure h⟩) htake))
variable {h₀ : Heap} {L : Addr} {m : Str → Option Value} {news : List (Addr × Obj)}
theorem slice_tuple_upto {value slice : Expr} {t : Addr} {items : Array Value} {b : Nat} {u : Tok} {Q : Value → Shared → Prop}
    (F : Fr h₀ L s.heap m) (N : News h₀ L s.heap news) (ht : IsTup s.heap t items) (hb : b < items.size)
    (h : ∀ h' D, Fr h₀ L h' m → News h₀ L h' ((D, { cls := .type "tuple", data := .seq (items.toList.take b).toArray }) :: news) → (∀ q ∈ news, q.1 < D) → Q (.ref D) { s with heap := h' })
    (hs : subscripted slice false (.ref t) (.ref s.heap.objs.size) = operate [.ref s.heap.objs.size, .ref t] (getItem (.ref t) (.ref s.heap.objs.size)) := by with_unfolding_all rfl)
    (hg : ∀ r, letTemporaryGo value (.ref t) r = pure () := by intro _; with_unfolding_all rfl)
    (hsz : items.size ≤ sizeLine) :
    wpAny (model prog w) A (subscriptTail value slice (.ref t) (.ref s.heap.objs.size)) Q E { s with heap := s.heap.push { cls := .type "slice", data := .fields #[.none, .int b u, .none] } } := by
  have ht' : IsTup (s.heap.push { cls := .type "slice", data := .fields #[.none, .int b u, .none] }) t items := ht.keeps fun _ _ e => Heap.get?_push_of_some _ e
  refine subscriptTail_ops (s := { s with heap := s.heap.push { cls := .type "slice", data := .fields #[.none, .int b u, .none] } }) ht'.typeIs slot_tuple_getitem.lookup
    (getItem_tuple_upto ht' (Heap.IsSliceOf.new ..) hb ?_ hsz) hs hg
  have N1 := News.push (F.push { cls := .type "slice", data := .fields #[.none, .int b u, .none] }) (N.grown fun _ _ e => Heap.get?_push_of_some _ e) { cls := .type "tuple", data := .seq (items.toList.take b).toArray }
  rw [Heap.size_push] at N1
  show Q (.ref (s.heap.push _).objs.size) _
  rw [Heap.size_push]
  exact h _ _ ((F.push _).push _) N1 fun q hq => Nat.lt_succ_of_lt (Heap.lt_size (N q hq).1)
end
example : True := by
  k_with "subscriptTail" => (k_here; (with_reducible show wpAny _ _ (subscriptTail _ (Expr.Slice none (some (Expr.Constant (Const.int 2) _ _)) none _) (Value.ref _) (Value.ref _)) _ _ _); (with_reducible rename Fr _ _ _ _ => F9); (with_reducible rename News _ _ _ _ => N9); k_dflt (refine' slice_tuple_upto (s := ⟨_, _, _, _, _⟩) (b := 2) F9 N9 ?t ?hb ?_ ?hs ?hg ?hz; (case t => exact News.isTup N9 (by k_mem)); (case hb => exact Nat.le_of_ble_eq_true rfl); (case hz => exact Nat.le_of_ble_eq_true rfl); (case hs => with_unfolding_all rfl); (case hg => intro _; with_unfolding_all rfl)); intro h' D' F' N' l1; (try k_lt l1); (try dsimp only [List.take, Array.toList] at N'))
  k_with "subscriptTail" => (k_here; (with_reducible show wpAny _ _ (subscriptTail _ (Expr.Slice none (some (Expr.Constant (Const.int 3) _ _)) none _) (Value.ref _) (Value.ref _)) _ _ _); (with_reducible rename Fr _ _ _ _ => F9); (with_reducible rename News _ _ _ _ => N9); k_dflt (refine' slice_tuple_upto (s := ⟨_, _, _, _, _⟩) (b := 3) F9 N9 ?t ?hb ?_ ?hs ?hg ?hz; (case t => exact News.isTup N9 (by k_mem)); (case hb => exact Nat.le_of_ble_eq_true rfl); (case hz => exact Nat.le_of_ble_eq_true rfl); (case hs => with_unfolding_all rfl); (case hg => intro _; with_unfolding_all rfl)); intro h' D' F' N' l1; (try k_lt l1); (try dsimp only [List.take, Array.toList] at N'))
  trivial
theorem cut_ctr {w : World} {base : Heap} {l : List Env} {p : Program} {loose : List Str} {mean : ExcName → Option Value} {mg mb : Str → Option Value} {s : Shared} {Q E : Value → Shared → Prop} {dp un : Nat}
    {roll sl : Addr} {vs : List Value} {ns : List Int} {n n' : Nat} {spot bound : Int} {tk tb : Tok}
    (S : Std base (At dp un l) l s.heap) (X : (KF w.params).In base) (T : Top p loose mean mg mb base) (hdp : dp + 1 < recursionLimit) (hun : un + 8 < cLine)
    (h1 : Own base l s.heap roll (listOf #[.ref sl, .int spot tk] n)) (h2 : Own base l s.heap sl (listOf vs.toArray n')) (hi : IntsAre vs ns) (hlen : ns.length ≤ 63) (hne : sl < roll)
    (hs0 : 0 ≤ spot) (hs1 : spot < 10000) (hb0 : 0 < bound) (hb1 : bound < 1000)
    (hQ : ∀ h' tk' t t' c, KeepBut [roll] s.heap h' → h'.get? roll = some (listOf #[.ref sl, .int (spot + 1) t'] n) → 0 ≤ c → c < bound → Q (.int c t) { s with heap := h', toks := tk' }) :
    wpAny (model PG w) (At dp un l) (call (.ref 313) [.ref roll, .int bound tb]) Q E s := by
  refine wpAny_call ?_
  refine' enter [(roll, listOf #[.ref sl, .int spot tk] n), (sl, listOf vs.toArray n')] S X T ?k1 ?k6 ?k7 ?k8 ?k9 ?kB ?_ ?c2 ?c3 ?c4 ?c5
  case k6 => k_is
  case k7 => k_is
  case k9 => exact BindsTo.of_eq rfl
  case kB => exact locs rfl
  case c2 => exact rfl
  case c3 => exact rfl
  case c4 => exact rfl
  case c5 => decide
  case k8 => show dp < recursionLimit; omega
  case k1 => exact List.forall_mem_cons.mpr ⟨h1, List.forall_mem_cons.mpr ⟨h2, List.forall_mem_nil _⟩⟩
  intro g L' h₁ F' N' B' X' T' hg hL
  have g2 := h2.get
  clear S X T h1 h2
  (try dsimp only)
  (try k_fold)
  have hne := ltN hne
  k_steps
  all_goals exact hQ _ _ _ _ _ (((keepBut_of (by assumption) hg).swap).drop g2 (News.get (by assumption) (.tail _ (.head _)))) (News.get (by assumption) (.head _)) (fm_lo _ _ hb0) (fm_hi _ _ hb0)
section
variable {w : World} {A A₀ : Around} {base : Heap} {l : List Env} {p : Program} {loose : List Str} {mean : ExcName → Option Value} {mg mb : Str → Option Value} {s : Shared} {Q E : Value → Shared → Prop}
  {g : Heap} {L : Addr} {m : Str → Option Value} {news : List (Addr × Obj)} {env : Env} {roll sl : Addr} {vs : List Value} {ns : List Int} {n n' : Nat} {spot bound : Int} {tk tb : Tok}
theorem cut_here {news' : Tok → List (Addr × Obj)} (X : (KF w.params).In base) (T : Top p loose mean mg mb base) (B : Below A₀ base l g) (F : Fr g L s.heap m) (N : News g L s.heap news)
    (e2 : A.frames = some (env :: l)) (hf : env.frame = some L) (hke : env.scope.kind = .function) (e1 : A.handled = none) (e3 : A.guards = some []) (e4 : A.depth ≤ 330) (e5 : A.units ≤ 150)
    (m2 : (sl, listOf vs.toArray n') ∈ news) (U : ∀ t', Upd roll (listOf #[.ref sl, .int spot tk] n) (listOf #[.ref sl, .int (spot + 1) t'] n) news (news' t')) (m1 : (roll, listOf #[.ref sl, .int spot tk] n) ∈ news)
    (hi : IntsAre vs ns) (hlen : ns.length ≤ 63) (hne : sl < roll) (hs0 : 0 ≤ spot) (hs1 : spot < 10000) (hb0 : 0 < bound) (hb1 : bound < 1000)
    (hQ : ∀ h' tk' t t' c, 0 ≤ c → c < bound → Fr g L h' m → News g L h' (news' t') → Q (.int c t) { s with heap := h', toks := tk' }) :
    wpAny (model PG w) A (call (.ref 313) [.ref roll, .int bound tb]) Q E s :=
  lift (cut_ctr (dp := 330) (un := 150) (std_of B F rfl hf hke) X T (by decide) (by decide) (own_of B F N hf m1) (own_of B F N hf m2) hi hlen hne hs0 hs1 hb0 hb1
    (fun h' tk' t t' c k hr c0 c1 => hQ h' tk' t t' c c0 c1 (back1 F N m1 k) (back_news N k (U t') hr))) e1 e2 e3 e4 e5
end
theorem pow_lit {prog : Program} {w : World} {A : Around} {E : Value → Shared → Prop} {s : Shared} {a n v : Int} {t u : Tok} {Q : Value → Shared → Prop} (hn : 0 ≤ n) (hn2 : n ≤ 1000000) (ha : a.natAbs < 2 ^ 64) (e : a ^ n.toNat = v) (h : Q (.int v s.toks) { s with toks := s.toks + 1 }) :
    wpAny (model prog w) A (binaryOp .Pow (.int a t) (.int n u)) Q E s := pow_int_small hn hn2 ha (by rw [e]; exact h)
section
theorem sub2 {M : Model} {A : Around} {Q E : Value → Shared → Prop} {s : Shared} {value slice : PySem.Expr} {c : Value} {i : Int} {t : Tok} (h0 : 0 ≤ i) (h1 : i < 2) (k0 : wpAny M A (subscriptTail value slice c (.int 0 t)) Q E s) (k1 : wpAny M A (subscriptTail value slice c (.int 1 t)) Q E s) : wpAny M A (subscriptTail value slice c (.int i t)) Q E s := by
  obtain ⟨z9, rfl⟩ := Int.eq_ofNat_of_zero_le h0
  match z9, h1 with
  | 0, _ => exact k0
  | 1, _ => exact k1
  | n + 2, h1 => exact absurd h1 (by omega)
theorem sub3 {M : Model} {A : Around} {Q E : Value → Shared → Prop} {s : Shared} {value slice : PySem.Expr} {c : Value} {i : Int} {t : Tok} (h0 : 0 ≤ i) (h1 : i < 3) (k0 : wpAny M A (subscriptTail value slice c (.int 0 t)) Q E s) (k1 : wpAny M A (subscriptTail value slice c (.int 1 t)) Q E s) (k2 : wpAny M A (subscriptTail value slice c (.int 2 t)) Q E s) : wpAny M A (subscriptTail value slice c (.int i t)) Q E s := by
  obtain ⟨z9, rfl⟩ := Int.eq_ofNat_of_zero_le h0
  match z9, h1 with
  | 0, _ => exact k0
  | 1, _ => exact k1
  | 2, _ => exact k2
  | n + 3, h1 => exact absurd h1 (by omega)
theorem sub4 {M : Model} {A : Around} {Q E : Value → Shared → Prop} {s : Shared} {value slice : PySem.Expr} {c : Value} {i : Int} {t : Tok} (h0 : 0 ≤ i) (h1 : i < 4) (k0 : wpAny M A (subscriptTail value slice c (.int 0 t)) Q E s) (k1 : wpAny M A (subscriptTail value slice c (.int 1 t)) Q E s) (k2 : wpAny M A (subscriptTail value slice c (.int 2 t)) Q E s) (k3 : wpAny M A (subscriptTail value slice c (.int 3 t)) Q E s) : wpAny M A (subscriptTail value slice c (.int i t)) Q E s := by
  obtain ⟨z9, rfl⟩ := Int.eq_ofNat_of_zero_le h0
  match z9, h1 with
  | 0, _ => exact k0
  | 1, _ => exact k1
  | 2, _ => exact k2
  | 3, _ => exact k3
  | n + 4, h1 => exact absurd h1 (by omega)
theorem sub5 {M : Model} {A : Around} {Q E : Value → Shared → Prop} {s : Shared} {value slice : PySem.Expr} {c : Value} {i : Int} {t : Tok} (h0 : 0 ≤ i) (h1 : i < 5) (k0 : wpAny M A (subscriptTail value slice c (.int 0 t)) Q E s) (k1 : wpAny M A (subscriptTail value slice c (.int 1 t)) Q E s) (k2 : wpAny M A (subscriptTail value slice c (.int 2 t)) Q E s) (k3 : wpAny M A (subscriptTail value slice c (.int 3 t)) Q E s) (k4 : wpAny M A (subscriptTail value slice c (.int 4 t)) Q E s) : wpAny M A (subscriptTail value slice c (.int i t)) Q E s := by
  obtain ⟨z9, rfl⟩ := Int.eq_ofNat_of_zero_le h0
  match z9, h1 with
  | 0, _ => exact k0
  | 1, _ => exact k1
  | 2, _ => exact k2
  | 3, _ => exact k3
  | 4, _ => exact k4
  | n + 5, h1 => exact absurd h1 (by omega)
theorem sub6 {M : Model} {A : Around} {Q E : Value → Shared → Prop} {s : Shared} {value slice : PySem.Expr} {c : Value} {i : Int} {t : Tok} (h0 : 0 ≤ i) (h1 : i < 6) (k0 : wpAny M A (subscriptTail value slice c (.int 0 t)) Q E s) (k1 : wpAny M A (subscriptTail value slice c (.int 1 t)) Q E s) (k2 : wpAny M A (subscriptTail value slice c (.int 2 t)) Q E s) (k3 : wpAny M A (subscriptTail value slice c (.int 3 t)) Q E s) (k4 : wpAny M A (subscriptTail value slice c (.int 4 t)) Q E s) (k5 : wpAny M A (subscriptTail value slice c (.int 5 t)) Q E s) : wpAny M A (subscriptTail value slice c (.int i t)) Q E s := by
  obtain ⟨z9, rfl⟩ := Int.eq_ofNat_of_zero_le h0
  match z9, h1 with
  | 0, _ => exact k0
  | 1, _ => exact k1
  | 2, _ => exact k2
  | 3, _ => exact k3
  | 4, _ => exact k4
  | 5, _ => exact k5
  | n + 6, h1 => exact absurd h1 (by omega)
theorem sub7 {M : Model} {A : Around} {Q E : Value → Shared → Prop} {s : Shared} {value slice : PySem.Expr} {c : Value} {i : Int} {t : Tok} (h0 : 0 ≤ i) (h1 : i < 7) (k0 : wpAny M A (subscriptTail value slice c (.int 0 t)) Q E s) (k1 : wpAny M A (subscriptTail value slice c (.int 1 t)) Q E s) (k2 : wpAny M A (subscriptTail value slice c (.int 2 t)) Q E s) (k3 : wpAny M A (subscriptTail value slice c (.int 3 t)) Q E s) (k4 : wpAny M A (subscriptTail value slice c (.int 4 t)) Q E s) (k5 : wpAny M A (subscriptTail value slice c (.int 5 t)) Q E s) (k6 : wpAny M A (subscriptTail value slice c (.int 6 t)) Q E s) : wpAny M A (subscriptTail value slice c (.int i t)) Q E s := by
  obtain ⟨z9, rfl⟩ := Int.eq_ofNat_of_zero_le h0
  match z9, h1 with
  | 0, _ => exact k0
  | 1, _ => exact k1
  | 2, _ => exact k2
  | 3, _ => exact k3
  | 4, _ => exact k4
  | 5, _ => exact k5
  | 6, _ => exact k6
  | n + 7, h1 => exact absurd h1 (by omega)
theorem sub8 {M : Model} {A : Around} {Q E : Value → Shared → Prop} {s : Shared} {value slice : PySem.Expr} {c : Value} {i : Int} {t : Tok} (h0 : 0 ≤ i) (h1 : i < 8) (k0 : wpAny M A (subscriptTail value slice c (.int 0 t)) Q E s) (k1 : wpAny M A (subscriptTail value slice c (.int 1 t)) Q E s) (k2 : wpAny M A (subscriptTail value slice c (.int 2 t)) Q E s) (k3 : wpAny M A (subscriptTail value slice c (.int 3 t)) Q E s) (k4 : wpAny M A (subscriptTail value slice c (.int 4 t)) Q E s) (k5 : wpAny M A (subscriptTail value slice c (.int 5 t)) Q E s) (k6 : wpAny M A (subscriptTail value slice c (.int 6 t)) Q E s) (k7 : wpAny M A (subscriptTail value slice c (.int 7 t)) Q E s) : wpAny M A (subscriptTail value slice c (.int i t)) Q E s := by
  obtain ⟨z9, rfl⟩ := Int.eq_ofNat_of_zero_le h0
  match z9, h1 with
  | 0, _ => exact k0
  | 1, _ => exact k1
  | 2, _ => exact k2
  | 3, _ => exact k3
  | 4, _ => exact k4
  | 5, _ => exact k5
  | 6, _ => exact k6
  | 7, _ => exact k7
  | n + 8, h1 => exact absurd h1 (by omega)
theorem sub9 {M : Model} {A : Around} {Q E : Value → Shared → Prop} {s : Shared} {value slice : PySem.Expr} {c : Value} {i : Int} {t : Tok} (h0 : 0 ≤ i) (h1 : i < 9) (k0 : wpAny M A (subscriptTail value slice c (.int 0 t)) Q E s) (k1 : wpAny M A (subscriptTail value slice c (.int 1 t)) Q E s) (k2 : wpAny M A (subscriptTail value slice c (.int 2 t)) Q E s) (k3 : wpAny M A (subscriptTail value slice c (.int 3 t)) Q E s) (k4 : wpAny M A (subscriptTail value slice c (.int 4 t)) Q E s) (k5 : wpAny M A (subscriptTail value slice c (.int 5 t)) Q E s) (k6 : wpAny M A (subscriptTail value slice c (.int 6 t)) Q E s) (k7 : wpAny M A (subscriptTail value slice c (.int 7 t)) Q E s) (k8 : wpAny M A (subscriptTail value slice c (.int 8 t)) Q E s) : wpAny M A (subscriptTail value slice c (.int i t)) Q E s := by
  obtain ⟨z9, rfl⟩ := Int.eq_ofNat_of_zero_le h0
  match z9, h1 with
  | 0, _ => exact k0
  | 1, _ => exact k1
  | 2, _ => exact k2
  | 3, _ => exact k3
  | 4, _ => exact k4
  | 5, _ => exact k5
  | 6, _ => exact k6
  | 7, _ => exact k7
  | 8, _ => exact k8
  | n + 9, h1 => exact absurd h1 (by omega)
theorem sub10 {M : Model} {A : Around} {Q E : Value → Shared → Prop} {s : Shared} {value slice : PySem.Expr} {c : Value} {i : Int} {t : Tok} (h0 : 0 ≤ i) (h1 : i < 10) (k0 : wpAny M A (subscriptTail value slice c (.int 0 t)) Q E s) (k1 : wpAny M A (subscriptTail value slice c (.int 1 t)) Q E s) (k2 : wpAny M A (subscriptTail value slice c (.int 2 t)) Q E s) (k3 : wpAny M A (subscriptTail value slice c (.int 3 t)) Q E s) (k4 : wpAny M A (subscriptTail value slice c (.int 4 t)) Q E s) (k5 : wpAny M A (subscriptTail value slice c (.int 5 t)) Q E s) (k6 : wpAny M A (subscriptTail value slice c (.int 6 t)) Q E s) (k7 : wpAny M A (subscriptTail value slice c (.int 7 t)) Q E s) (k8 : wpAny M A (subscriptTail value slice c (.int 8 t)) Q E s) (k9 : wpAny M A (subscriptTail value slice c (.int 9 t)) Q E s) : wpAny M A (subscriptTail value slice c (.int i t)) Q E s := by
  obtain ⟨z9, rfl⟩ := Int.eq_ofNat_of_zero_le h0
  match z9, h1 with
  | 0, _ => exact k0
  | 1, _ => exact k1
  | 2, _ => exact k2
  | 3, _ => exact k3
  | 4, _ => exact k4
  | 5, _ => exact k5
  | 6, _ => exact k6
  | 7, _ => exact k7
  | 8, _ => exact k8
  | 9, _ => exact k9
  | n + 10, h1 => exact absurd h1 (by omega)
end
example : True := by
  k_with "call ref" => (k_here; (with_reducible show wpAny _ _ (call (Value.ref 313) [Value.ref _, Value.int _ _]) _ _ _); k_dflt (refine' cut_here ?X ?T ?B ?F ?N ?e2 ?hf ?hke ?e1 ?e3 ?e4 ?e5 ?m2 ?U ?m1 ?hi ?hl ?hn ?s0 ?s1 ?b0 ?b1 ?_; (case F => k_asm); (case N => k_asm); (case e2 => exact rfl); (case B => k_asm); (case X => k_asm); (case T => k_asm); (case hf => exact rfl); (case hke => exact rfl); (case e1 => exact rfl); (case e3 => exact rfl); (case e4 => exact Nat.le_of_ble_eq_true rfl); (case e5 => exact Nat.le_of_ble_eq_true rfl); (case m1 => k_mem); (case m2 => k_mem); (case U => intro t9; k_upd); (case hi => k_asm); (case hl => k_asm); (case hn => first | assumption | omega); (case s0 => first | assumption | omega); (case s1 => first | assumption | omega); (case b0 => first | decide | omega); (case b1 => first | decide | omega)); intro h' tk' t9 t9' c9 c90 c91 F' N')
  k_with "binaryOp Pow int int" => (k_here; (with_reducible show wpAny _ _ (binaryOp Operator.Pow (Value.int 2 _) (Value.int 31 _)) _ _ _); refine pow_lit (v := 2147483648) (by decide) (by decide) (by decide) (by decide) ?_)
  k_with "binaryOp Pow int int" => (k_here; (with_reducible show wpAny _ _ (binaryOp Operator.Pow (Value.int 2 _) (Value.int 32 _)) _ _ _); refine pow_lit (v := 4294967296) (by decide) (by decide) (by decide) (by decide) ?_)
  k_with "subscriptTail" => (k_here; (with_reducible show wpAny _ _ (subscriptTail _ _ (Value.ref _) (Value.int _ _)) _ _ _); (fail_if_success (with_reducible show wpAny _ _ (subscriptTail _ _ (Value.ref _) (Value.int (OfNat.ofNat _) _)) _ _ _)); first
    | refine' sub2 (by omega) (by omega) ?_ ?_
    | refine' sub3 (by omega) (by omega) ?_ ?_ ?_
    | refine' sub4 (by omega) (by omega) ?_ ?_ ?_ ?_
    | refine' sub5 (by omega) (by omega) ?_ ?_ ?_ ?_ ?_
    | refine' sub6 (by omega) (by omega) ?_ ?_ ?_ ?_ ?_ ?_
    | refine' sub7 (by omega) (by omega) ?_ ?_ ?_ ?_ ?_ ?_ ?_
    | refine' sub8 (by omega) (by omega) ?_ ?_ ?_ ?_ ?_ ?_ ?_ ?_
    | refine' sub9 (by omega) (by omega) ?_ ?_ ?_ ?_ ?_ ?_ ?_ ?_ ?_
    | refine' sub10 (by omega) (by omega) ?_ ?_ ?_ ?_ ?_ ?_ ?_ ?_ ?_ ?_)
  k_with "call ref" => (k_here; (with_reducible show wpAny _ _ (call (Value.ref 318) [Value.ref _]) _ _ _); k_dflt (refine' wpAny_call (letters_here ?X ?T ?B ?F ?N ?e2 ?hf ?hke ?e1 ?e3 ?e4 ?e5 ?m2 ?U ?m1 ?hi ?hl ?hn ?s0 ?s1 ?_ ?_); (case F => k_asm); (case N => k_asm); (case e2 => exact rfl); (case B => k_asm); (case X => k_asm); (case T => k_asm); (case hf => exact rfl); (case hke => exact rfl); (case e1 => exact rfl); (case e3 => exact rfl); (case e4 => exact Nat.le_of_ble_eq_true rfl); (case e5 => exact Nat.le_of_ble_eq_true rfl); (case m1 => k_mem); (case m2 => k_mem); (case U => intro t9; k_upd); (case hi => k_asm); (case hl => k_asm); (case hn => first | assumption | omega); (case s0 => omega); (case s1 => omega)); (any_goals (intro h' tk' t9 t9' x9 hx9 F' N')); (any_goals (intro h' tk' t9' F' N')))
  trivial
theorem letters_ctr {w : World} {base : Heap} {l : List Env} {p : Program} {loose : List Str} {mean : ExcName → Option Value} {mg mb : Str → Option Value} {s : Shared} {Q E : Value → Shared → Prop}
    {roll sl : Addr} {vs : List Value} {ns : List Int} {n n' : Nat} {spot : Int} {tk : Tok}
    (S : Std base (At 325 125 l) l s.heap) (X : (KF w.params).In base) (T : Top p loose mean mg mb base)
    (h1 : Own base l s.heap roll (listOf #[.ref sl, .int spot tk] n)) (h2 : Own base l s.heap sl (listOf vs.toArray n'))
    (hi : IntsAre vs ns) (hlen : ns.length ≤ 63) (hne : sl < roll) (hs0 : 0 ≤ spot) (hs1 : spot < 9000)
    (hQ0 : ∀ h' tk' t', KeepBut [roll] s.heap h' → h'.get? roll = some (listOf #[.ref sl, .int (spot + 1) t'] n) → Q .none { s with heap := h', toks := tk' })
    (hQ : ∀ h' tk' t t' (x : Array UInt8), KeepBut [roll] s.heap h' → h'.get? roll = some (listOf #[.ref sl, .int (spot + 1) t'] n) → x.size ≤ 255 → Q (.bytes x t) { s with heap := h', toks := tk' }) :
    codeAny (model PG w) (At 325 125 l) (.call (.ref 318) ⟨[.ref roll], []⟩) (RV Q E) s := by
  refine' enterC [(roll, listOf #[.ref sl, .int spot tk] n), (sl, listOf vs.toArray n')] S X T ?k1 ?k6 ?k7 ?k8 ?k9 ?kB ?kD ?_ ?c2 ?c3 ?c4
  case k6 => k_is
  case k7 => k_is
  case k9 => exact BindsTo.of_eq rfl
  case kB => exact rfl
  case kD => decide +kernel
  case c2 => exact rfl
  case c3 => exact rfl
  case c4 => exact rfl
  case k8 => exact Nat.le_of_ble_eq_true rfl
  case k1 => exact List.forall_mem_cons.mpr ⟨h1, List.forall_mem_cons.mpr ⟨h2, List.forall_mem_nil _⟩⟩
  intro g L' h₁ tk' cells' F' N' Y' B' X' T' hg hL l1
  k_lt l1
  k_cells Y'
  (try simp only [List.cons_append, List.nil_append] at N')
  have S0 := S
  clear S
  (try dsimp only [RV])
  (try k_fold)
  have hne := ltN hne
  k_steps
  all_goals first
    | exact hQ0 _ _ _ (((keepBut_of (by assumption) hg).swap).drop h2.get (News.get (by assumption) (by k_mem))) (News.get (by assumption) (by k_mem))
    | exact hQ _ _ _ _ _ (((keepBut_of (by assumption) hg).swap).drop h2.get (News.get (by assumption) (by k_mem))) (News.get (by assumption) (by k_mem)) (by rw [byteArr_size, List.length_map, rangeKs_length]; decide)

section
variable {w : World} {A A₀ : Around} {base : Heap} {l : List Env} {p : Program} {loose : List Str} {mean : ExcName → Option Value} {mg mb : Str → Option Value} {s : Shared} {Q E : Value → Shared → Prop}
  {g : Heap} {L : Addr} {m : Str → Option Value} {news : List (Addr × Obj)} {env : Env} {roll sl : Addr} {vs : List Value} {ns : List Int} {n n' : Nat} {spot : Int} {tk : Tok}
theorem letters_here {news' : Tok → List (Addr × Obj)} (X : (KF w.params).In base) (T : Top p loose mean mg mb base) (B : Below A₀ base l g) (F : Fr g L s.heap m) (N : News g L s.heap news)
    (e2 : A.frames = some (env :: l)) (hf : env.frame = some L) (hke : env.scope.kind = .function) (e1 : A.handled = none) (e3 : A.guards = some []) (e4 : A.depth ≤ 325) (e5 : A.units ≤ 125)
    (m2 : (sl, listOf vs.toArray n') ∈ news) (U : ∀ t', Upd roll (listOf #[.ref sl, .int spot tk] n) (listOf #[.ref sl, .int (spot + 1) t'] n) news (news' t')) (m1 : (roll, listOf #[.ref sl, .int spot tk] n) ∈ news)
    (hi : IntsAre vs ns) (hlen : ns.length ≤ 63) (hne : sl < roll) (hs0 : 0 ≤ spot) (hs1 : spot < 9000)
    (hQ0 : ∀ h' tk' t', Fr g L h' m → News g L h' (news' t') → Q .none { s with heap := h', toks := tk' })
    (hQ : ∀ h' tk' t t' (x : Array UInt8), x.size ≤ 255 → Fr g L h' m → News g L h' (news' t') → Q (.bytes x t) { s with heap := h', toks := tk' }) :
    codeAny (model PG w) A (.call (.ref 318) ⟨[.ref roll], []⟩) (RV Q E) s :=
  liftC (letters_ctr (std_of B F rfl hf hke) X T (own_of B F N hf m1) (own_of B F N hf m2) hi hlen hne hs0 hs1
    (fun h' tk' t' k hr => hQ0 h' tk' t' (back1 F N m1 k) (back_news N k (U t') hr))
    (fun h' tk' t t' x k hr hx => hQ h' tk' t t' x hx (back1 F N m1 k) (back_news N k (U t') hr))) e1 e2 e3 e4 e5
end
section
variable {prog : Program} {w : World} {A : Around} {E : Value → Shared → Prop} {s : Shared} {value slice : PySem.Expr} {b : Array UInt8} {t : Tok} {h₀ : Heap} {L : Addr} {m : PySem.Str → Option Value} {news : List (Addr × Obj)} {l u : Value} {lo hi : Option Int} {Q : Value → Shared → Prop}
theorem clip_pos (n : Nat) (i : Int) (h : 0 ≤ i) : clipAt n i = min i.toNat n := by
  obtain ⟨k, rfl⟩ := Int.eq_ofNat_of_zero_le h
  exact clipAt_nat n k
theorem bsl (hF : Fr h₀ L s.heap m) (hN : News h₀ L s.heap news) (hl : IsPart l lo) (hu : IsPart u hi) (hz : b.size ≤ 16777216)
    (h : ∀ h' t' k x, Fr h₀ L h' m → News h₀ L h' news → x.toList = (b.toList.drop (lo.elim 0 (clipAt b.size))).take (hi.elim b.size (clipAt b.size) - lo.elim 0 (clipAt b.size)) → Q (.bytes x t') { s with heap := h', toks := k })
    (hs : subscripted slice false (.bytes b t) (.ref s.heap.objs.size) = operate [.ref s.heap.objs.size, .bytes b t] (getItem (.bytes b t) (.ref s.heap.objs.size)) := by with_unfolding_all rfl)
    (ht : ∀ r, letTemporaryGo value (.bytes b t) r = pure () := by intro _; with_unfolding_all rfl) :
    wpAny (model prog w) A (subscriptTail value slice (.bytes b t) (.ref s.heap.objs.size)) Q E { s with heap := s.heap.push { cls := .type "slice", data := .fields #[l, u, .none] } } :=
  KBc.slice_K (s := s) hF hN rfl hl hu (by rw [KBw.ints_length]; exact hz) (fun h' t' k F N _ => h h' t' k _ F N (by rw [KBc.picked_eq])) hs ht
theorem bsl_to {i : Int} {ti : Tok} (hF : Fr h₀ L s.heap m) (hN : News h₀ L s.heap news) (hz : b.size ≤ 16777216) (hi : 0 ≤ i)
    (h : ∀ h' t' k x, Fr h₀ L h' m → News h₀ L h' news → x.toList = b.toList.take i.toNat → x.size = min i.toNat b.size → Q (.bytes x t') { s with heap := h', toks := k })
    (hs : subscripted slice false (.bytes b t) (.ref s.heap.objs.size) = operate [.ref s.heap.objs.size, .bytes b t] (getItem (.bytes b t) (.ref s.heap.objs.size)))
    (ht : ∀ r, letTemporaryGo value (.bytes b t) r = pure ()) :
    wpAny (model prog w) A (subscriptTail value slice (.bytes b t) (.ref s.heap.objs.size)) Q E { s with heap := s.heap.push { cls := .type "slice", data := .fields #[.none, .int i ti, .none] } } :=
  bsl hF hN .none (.int i ti) hz (fun h' t' k x F N e => by
    have e2 : x.toList = b.toList.take i.toNat := by
      rw [e]; simp only [Option.elim, List.drop_zero, Nat.sub_zero, clip_pos _ _ hi]
      rw [← Array.length_toList, ← List.take_eq_take_min]
    exact h h' t' k x F N e2 (by rw [← Array.length_toList, e2, List.length_take, Array.length_toList])) hs ht
theorem bsl_from {i : Int} {ti : Tok} (hF : Fr h₀ L s.heap m) (hN : News h₀ L s.heap news) (hz : b.size ≤ 16777216) (hi : 0 ≤ i)
    (h : ∀ h' t' k x, Fr h₀ L h' m → News h₀ L h' news → x.toList = b.toList.drop i.toNat → x.size = b.size - i.toNat → Q (.bytes x t') { s with heap := h', toks := k })
    (hs : subscripted slice false (.bytes b t) (.ref s.heap.objs.size) = operate [.ref s.heap.objs.size, .bytes b t] (getItem (.bytes b t) (.ref s.heap.objs.size)))
    (ht : ∀ r, letTemporaryGo value (.bytes b t) r = pure ()) :
    wpAny (model prog w) A (subscriptTail value slice (.bytes b t) (.ref s.heap.objs.size)) Q E { s with heap := s.heap.push { cls := .type "slice", data := .fields #[.int i ti, .none, .none] } } :=
  bsl hF hN (.int i ti) .none hz (fun h' t' k x F N e => by
    have e2 : x.toList = b.toList.drop i.toNat := by
      rw [e]; simp only [Option.elim, clip_pos _ _ hi]
      rw [List.take_of_length_le (by rw [List.length_drop, Array.length_toList]; omega)]
      by_cases q : i.toNat ≤ b.size
      · rw [Nat.min_eq_left q]
      · rw [Nat.min_eq_right (by omega), List.drop_of_length_le (by rw [Array.length_toList]; omega), List.drop_of_length_le (by rw [Array.length_toList]; omega)]
    exact h h' t' k x F N e2 (by rw [← Array.length_toList, e2, List.length_drop, Array.length_toList])) hs ht
theorem min_cut (J n I : Nat) : min (min J n - I) (n - I) = min (J - I) (n - I) := by
  rw [← Nat.sub_min_sub_right J n I, Nat.min_assoc, Nat.min_self]
theorem toNat_subP {i j : Int} (h : 0 ≤ i) (h2 : i ≤ j) : (j - i).toNat = j.toNat - i.toNat := by
  obtain ⟨a, rfl⟩ := Int.eq_ofNat_of_zero_le h
  obtain ⟨b, rfl⟩ := Int.eq_ofNat_of_zero_le (Int.le_trans h h2)
  exact Int.toNat_sub b a
theorem bsl_both {i j : Int} {ti tj : Tok} (hF : Fr h₀ L s.heap m) (hN : News h₀ L s.heap news) (hz : b.size ≤ 16777216) (hi : 0 ≤ i) (hj : i ≤ j)
    (h : ∀ h' t' k x, Fr h₀ L h' m → News h₀ L h' news → x.toList = (b.toList.drop i.toNat).take (j - i).toNat → x.size = min (j - i).toNat (b.size - i.toNat) → Q (.bytes x t') { s with heap := h', toks := k })
    (hs : subscripted slice false (.bytes b t) (.ref s.heap.objs.size) = operate [.ref s.heap.objs.size, .bytes b t] (getItem (.bytes b t) (.ref s.heap.objs.size)))
    (ht : ∀ r, letTemporaryGo value (.bytes b t) r = pure ()) :
    wpAny (model prog w) A (subscriptTail value slice (.bytes b t) (.ref s.heap.objs.size)) Q E { s with heap := s.heap.push { cls := .type "slice", data := .fields #[.int i ti, .int j tj, .none] } } :=
  bsl hF hN (.int i ti) (.int j tj) hz (fun h' t' k x F N e => by
    have e2 : x.toList = (b.toList.drop i.toNat).take (j - i).toNat := by
      rw [e]; simp only [Option.elim, clip_pos _ _ hi, clip_pos _ _ (Int.le_trans hi hj)]
      by_cases q : i.toNat ≤ b.size
      · rw [Nat.min_eq_left q]
        rw [List.take_eq_take_min, List.length_drop, Array.length_toList]
        rw [List.take_eq_take_min (i := (j - i).toNat), List.length_drop, Array.length_toList]
        congr 1; rw [toNat_subP hi hj]; exact min_cut _ _ _
      · rw [Nat.min_eq_right (by omega), List.drop_of_length_le (by rw [Array.length_toList]; omega), List.drop_of_length_le (by rw [Array.length_toList]; omega), List.take_nil, List.take_nil]
    exact h h' t' k x F N e2 (by rw [← Array.length_toList, e2, List.length_take, List.length_drop, Array.length_toList])) hs ht
end
example : True := by
  k_with "subscriptTail" => (k_here; (with_reducible show wpAny _ _ (subscriptTail _ (Expr.Slice none (some _) none _) (Value.bytes _ _) (Value.ref _)) _ _ _); (with_reducible rename Fr _ _ _ _ => F9); (with_reducible rename News _ _ _ _ => N9); k_dflt (refine' bsl_to (s := ⟨_, _, _, _, _⟩) F9 N9 ?hz ?hi  ?_ ?hs ?hg; (case hz => omega); (case hi => omega); (case hs => with_unfolding_all rfl); (case hg => intro _; with_unfolding_all rfl)); intro h' t9' k9' x9 F' N' bs9 bz9)
  k_with "subscriptTail" => (k_here; (with_reducible show wpAny _ _ (subscriptTail _ (Expr.Slice (some _) none none _) (Value.bytes _ _) (Value.ref _)) _ _ _); (with_reducible rename Fr _ _ _ _ => F9); (with_reducible rename News _ _ _ _ => N9); k_dflt (refine' bsl_from (s := ⟨_, _, _, _, _⟩) F9 N9 ?hz ?hi  ?_ ?hs ?hg; (case hz => omega); (case hi => omega); (case hs => with_unfolding_all rfl); (case hg => intro _; with_unfolding_all rfl)); intro h' t9' k9' x9 F' N' bs9 bz9)
  k_with "subscriptTail" => (k_here; (with_reducible show wpAny _ _ (subscriptTail _ (Expr.Slice (some _) (some _) none _) (Value.bytes _ _) (Value.ref _)) _ _ _); (with_reducible rename Fr _ _ _ _ => F9); (with_reducible rename News _ _ _ _ => N9); k_dflt (refine' bsl_both (s := ⟨_, _, _, _, _⟩) F9 N9 ?hz ?hi ?hj ?_ ?hs ?hg; (case hz => omega); (case hi => omega); (case hj => omega); (case hs => with_unfolding_all rfl); (case hg => intro _; with_unfolding_all rfl)); intro h' t9' k9' x9 F' N' bs9 bz9)
  trivial
inductive Th
  | whole (v wide : Int) | octet (v : Int) | integer (v : Int) | number (v : Int) | textN | text (x : Array UInt8)
  | cN | cB (b : Bool) | cI (v : Int) | cT (x : Array UInt8) | row (vs : List Int) (wide : Int)
abbrev hf (ns : Int) : Int := ((256 : Int) ^ ns.toNat).fdiv 2
def Th.fits (ls ns : Int) : Th → Prop
  | .whole v wide => 0 ≤ v ∧ v < 256 ^ wide.toNat
  | .octet v => 0 ≤ v ∧ v < 256 ^ (1 : Int).toNat
  | .integer v => 0 ≤ v ∧ v < 2147483648
  | .number v => -(hf ns) ≤ v ∧ v < hf ns
  | .text x => (x.size : Int) + 1 < 256 ^ ls.toNat
  | _ => True
def Th.good (ls ns : Int) : Th → Prop
  | .whole _ wide => 1 ≤ wide ∧ wide ≤ 5
  | .text x => x.size ≤ 255
  | .cI v => -(hf ns) ≤ v ∧ v < hf ns
  | .cT x => x.size ≤ 200
  | .row vs wide => 1 ≤ wide ∧ wide ≤ 3 ∧ vs.length ≤ 3 ∧ ∀ v ∈ vs, 0 ≤ v ∧ v < 256
  | _ => True
def Th.size (ls ns : Int) : Th → Int
  | .whole _ wide => wide | .octet _ => 1 | .integer _ => 4 | .number _ => ns | .textN => ls | .text x => ls + ((x.size : Int) + 1)
  | .cN => 1 | .cB _ => 2 | .cI _ => 1 + ns | .cT x => 1 + (ls + ((x.size : Int) + 1)) | .row vs wide => 4 + wide * (vs.length : Int)
def Th.enc (ls ns : Int) : Th → List UInt8
  | .whole v wide => leB v wide | .octet v => leB v 1 | .integer v => leB v 4 | .number v => leB (v.fmod (2 * hf ns)) ns
  | .textN => leB 0 ls | .text a => leB ((a.size : Int) + 1) ls ++ a.toList ++ leB 0 1
  | .cN => leB 0 1 | .cB v => leB 1 1 ++ leB (if v then 1 else 0) 1 | .cI v => leB 3 1 ++ leB (v.fmod (2 * hf ns)) ns
  | .cT a => leB 4 1 ++ (leB ((a.size : Int) + 1) ls ++ a.toList ++ leB 0 1)
  | .row vs wide => leB (vs.length : Int) 4 ++ (vs.map fun v => leB v wide).flatten
def Th.kind : Th → String
  | .whole _ _ => "whole" | .octet _ => "octet" | .integer _ => "integer" | .number _ => "number" | .textN => "text" | .text _ => "text"
  | .cN => "constant" | .cB _ => "constant" | .cI _ => "constant" | .cT _ => "constant" | .row _ _ => "row"
def Th.val (tk : Tok) (ra : Addr) : Th → Value
  | .whole v _ => .int v tk | .octet v => .int v tk | .integer v => .int v tk | .number v => .int v tk | .textN => .none | .text x => .bytes x tk
  | .cN => .none | .cB b => .bool b | .cI v => .int v tk | .cT x => .bytes x tk | .row _ _ => .ref ra
def Th.extra (O : Addr → Obj → Prop) (wide : Int) (r ra : Addr) : Th → Prop
  | .whole _ w => wide = w
  | .row vs w => wide = w ∧ ra ≠ r ∧ ∃ (n : Nat) (l : List (Int × Tok)), O ra (listOf (l.map fun p => Value.int p.1 p.2).toArray n) ∧ l.map (·.1) = vs
  | _ => True
def Th.rep (O : Addr → Obj → Prop) (ls ns : Int) (r : Addr) (t : Th) : Prop :=
  ∃ t5 t6 t7 t8 wide ok sz ra, O r (tupO [.str (Str.ofString t.kind) t5, t.val t6 ra, .int wide t7, .bool ok, .int sz t8]) ∧ (ok = true ↔ t.fits ls ns) ∧ sz = t.size ls ns ∧ t.extra O wide r ra
theorem mask_mod (x : Int) (w : Nat) : Builtin.bitAnd x (1 * 2 ^ w - 1) = x % 2 ^ w := by
  have hp : (0 : Int) < 2 ^ w := Int.pow_pos (by decide)
  have e1 : (1 * (2 : Int) ^ w - 1).toNat = 2 ^ w - 1 := by
    have : ((2 ^ w : Nat) : Int) = (2 : Int) ^ w := by simp
    rw [Int.one_mul, ← this]; exact Int.toNat_sub _ 1
  have e2 : ((2 ^ w : Nat) : Int) = (2 : Int) ^ w := by simp
  by_cases hx : 0 ≤ x
  · rw [bitAnd_pp hx (by omega), e1, Nat.and_two_pow_sub_one_eq_mod]
    rw [Int.natCast_emod, e2, Int.toNat_of_nonneg hx]
  · rw [bitAnd_np hx (by omega), e1, Nat.and_comm, Nat.and_two_pow_sub_one_eq_mod, Int.natCast_emod, e2]
    unfold Builtin.bitNot
    rw [Int.toNat_of_nonneg (by omega)]
    have h1 := Int.emod_add_mul_ediv x (2 ^ w)
    have h2 := Int.emod_nonneg x (Int.ne_of_gt hp)
    have h3 := Int.emod_lt_of_pos x hp
    have h4 : (-x - 1) % 2 ^ w = 2 ^ w - 1 - x % 2 ^ w := by
      have : -x - 1 = (2 ^ w - 1 - x % 2 ^ w) + 2 ^ w * (-(x / 2 ^ w) - 1) := by
        rw [Int.mul_sub, Int.mul_neg]; omega
      rw [this, Int.add_mul_emod_self_left]
      exact Int.emod_eq_of_lt (by omega) (by omega)
    omega
def wrapI (v width : Int) : Int := (v + 2 ^ (width - 1).toNat).fmod (2 * 2 ^ (width - 1).toNat) - 2 ^ (width - 1).toNat
theorem wrap_eq (v width : Int) (hw : 1 ≤ width) : wrapI v width = if 1 * 2 ^ (width - 1).toNat ≤ Builtin.bitAnd v (1 * 2 ^ width.toNat - 1) then Builtin.bitAnd v (1 * 2 ^ width.toNat - 1) - 1 * 2 ^ width.toNat else Builtin.bitAnd v (1 * 2 ^ width.toNat - 1) := by
  obtain ⟨k, rfl⟩ : ∃ k : Nat, width = (k : Int) + 1 := ⟨(width - 1).toNat, by rw [Int.toNat_of_nonneg (Int.sub_nonneg_of_le hw)]; exact (Int.sub_add_cancel _ _).symm⟩
  have hk : ((k : Int) + 1).toNat = k + 1 := rfl
  have hk1 : ((k : Int) + 1 - 1).toNat = k := by rw [Int.add_sub_cancel]; rfl
  have hp : (0 : Int) < 2 ^ k := Int.pow_pos (by decide)
  have e : (2 : Int) ^ (k + 1) = 2 * 2 ^ k := by rw [Int.pow_succ, Int.mul_comm]
  unfold wrapI
  rw [mask_mod, hk, hk1, e, Int.fmod_eq_emod_of_nonneg _ (by omega)]
  generalize (2 : Int) ^ k = H at *
  have a1 := Int.emod_add_mul_ediv v (2 * H)
  have a2 := Int.emod_nonneg v (show 2 * H ≠ 0 by omega)
  have a3 := Int.emod_lt_of_pos v (show 0 < 2 * H by omega)
  by_cases q : H ≤ v % (2 * H)
  · rw [if_pos (by omega)]
    have : v + H = (v % (2 * H) - H) + 2 * H * (v / (2 * H) + 1) := by rw [Int.mul_add]; omega
    rw [this, Int.add_mul_emod_self_left, Int.emod_eq_of_lt (by omega) (by omega)]
    omega
  · rw [if_neg (by omega)]
    have : v + H = (v % (2 * H) + H) + 2 * H * (v / (2 * H)) := by omega
    rw [this, Int.add_mul_emod_self_left, Int.emod_eq_of_lt (by omega) (by omega)]
    omega
theorem wrap_ctr {w : World} {base : Heap} {l : List Env} {p : Program} {loose : List Str} {mean : ExcName → Option Value} {mg mb : Str → Option Value} {s : Shared} {Q E : Value → Shared → Prop}
    {v width : Int} {tv tw : Tok}
    (S : Std base (At 340 200 l) l s.heap) (X : (KF w.params).In base) (T : Top p loose mean mg mb base)
    
    (hw0 : 1 ≤ width) (hw1 : width ≤ 64) (hv : -(2 ^ 64) ≤ v ∧ v < 2 ^ 64)
    (hQ : ∀ h' tk' t, KeepBut [] s.heap h' → Q (.int (wrapI v width) t) { s with heap := h', toks := tk' }) :
    codeAny (model PG w) (At 340 200 l) (.call (.ref 97) ⟨[.int v tv, .int width tw], []⟩) (RV Q E) s := by
  refine' enter [] S X T ?k1 ?k6 ?k7 ?k8 ?k9 ?kB ?_ ?c2 ?c3 ?c4 ?c5
  case k6 => k_is
  case k7 => k_is
  case k9 => exact BindsTo.of_eq rfl
  case kB => exact locs rfl
  case c2 => exact rfl
  case c3 => exact rfl
  case c4 => exact rfl
  case c5 => decide
  case k8 => exact Nat.le_of_ble_eq_true rfl
  case k1 => exact List.forall_mem_nil _
  intro g L' h₁ F' N' B' X' T' hg hL
  have S0 := S
  clear S
  (try dsimp only [RV])
  (try k_fold)
  refine absE3 (by passes_own) fun E9 hP9 hE9 => ?_
  rw [wrap_eq v width hw0] at hQ
  k_steps
  all_goals first
    | exact (by rw [if_pos (by assumption)] at hQ; exact hQ _ _ _ (keepBut_of (by assumption) hg))
    | exact (by rw [if_neg (by assumption)] at hQ; exact hQ _ _ _ (keepBut_of (by assumption) hg))
theorem wrap_here {w : World} {A A₀ : Around} {base g : Heap} {l : List Env} {env : Env} {L : Addr} {m : Str → Option Value} {news : List (Addr × Obj)} {p : Program} {loose : List Str} {mean : ExcName → Option Value} {mg mb : Str → Option Value} {s : Shared} {Q E : Value → Shared → Prop} {v width : Int} {tv tw : Tok}
    (c : Cx w A A₀ base g s.heap l env L m news p loose mean mg mb) (e4 : A.depth ≤ 340) (e5 : A.units ≤ 200) (hw0 : 1 ≤ width) (hw1 : width ≤ 64) (hv : -(2 ^ 64) ≤ v ∧ v < 2 ^ 64)
    (hQ : ∀ h' tk' t, Fr g L h' m → News g L h' news → Q (.int (wrapI v width) t) { s with heap := h', toks := tk' }) :
    wpAny (model PG w) A (call (.ref 97) [.int v tv, .int width tw]) Q E s :=
  wpAny_call (c.lift (wrap_ctr c.std c.X c.T hw0 hw1 hv (fun h' tk' t k => hQ h' tk' t (back0 c.F k) (back_news0 c.N k))) e4 e5)
theorem wwhole {w : World} {ls ns : Int} {value size : Int} {tv ts : Tok} (hs0 : 1 ≤ size) (hs1 : size ≤ 8) : WC w 350 250 236 [.int value tv, .int size ts] ls ns (0 ≤ value ∧ value < 256 ^ size.toNat) (leB value size) 1 990 := by
  intro base l p loose mean mg mb s Q E wr wd pc P b n nd k1 k2 k3 k4 t1 t2 S X T h1 h2 h3 hne1 hne2 hne3 hP hPs hQ hE
  refine' enterC [(wr, instObj 302 wd), (wd, dictOf (wrD w ls ns pc k1 k2 k3 k4 t1 t2) nd), (pc, listOf P n)] S X T ?k1 ?k6 ?k7 ?k8 ?k9 ?kB ?kD ?_ ?c2 ?c3 ?c4
  case k6 => k_is
  case k7 => k_is
  case k9 => exact BindsTo.of_eq rfl
  case kB => exact rfl
  case kD => decide +kernel
  case c2 => exact rfl
  case c3 => exact rfl
  case c4 => exact rfl
  case k8 => exact Nat.le_of_ble_eq_true rfl
  case k1 => exact List.forall_mem_cons.mpr ⟨h1, List.forall_mem_cons.mpr ⟨h2, List.forall_mem_cons.mpr ⟨h3, List.forall_mem_nil _⟩⟩⟩
  intro g L' h₁ tk' cells' F' N' Y' B' X' T' hg hL l1
  k_lt l1
  k_cells Y'
  (try simp only [List.cons_append, List.nil_append] at N')
  have S0 := S
  clear S
  (try dsimp only [RV])
  (try k_fold)
  refine absE3 (by passes_own) fun E9 hP9 hE9 => ?_
  have hne1 := neN hne1
  have hne2 := neN hne2
  have hne3 := neN hne3
  k_steps
  repeat (any_goals ((first
    | ((with_reducible show Parked (wpAny _ _ (call (Value.ref 38) _ _) _ _ _)); refine Parked.get ?_; k_dflt (refine' exc_here ?C ?e4 ?e5 ?_; (case C => (refine' ⟨?X, ?T, ?B, ?F, ?N, ?e2, ?hf, ?hke, ?e1, ?e3⟩; (case F => k_asm); (case N => k_asm); (case e2 => exact rfl); (case B => k_asm); (case X => k_asm); (case T => k_asm); (case hf => exact rfl); (case hke => exact rfl); (case e1 => exact rfl); (case e3 => exact rfl))); (case e4 => exact Nat.le_of_ble_eq_true rfl); (case e5 => exact Nat.le_of_ble_eq_true rfl); k_whole; intro h' tk' e' o' ta' F' N' kk' he' hc' hd' hn'))); all_goals k_steps))
  all_goals first
    | exact hQ _ _ _ _ (⟨by assumption, by assumption⟩) (PA_push hP _ _) (by first | omega | (simp only [Array.size_push] at *; omega)) (((keepBut_of (by assumption) hg).drop h1.get (News.get (by assumption) (by k_mem))).drop h2.get (News.get (by assumption) (by k_mem))) (News.get (by assumption) (by k_mem))
    | (exfalso; fail)
    | (refine hE9 _ _ ?_; refine thrown_pass S0 hL rfl rfl (by assumption) ?_ (fun _ z => z) (fun h' ht => hE _ _ _ ?_ ht)
       · exact (((keepBut_of (by assumption) hg).drop h1.get (News.get (by assumption) (by k_mem))).drop h2.get (News.get (by assumption) (by k_mem))).drop h3.get (News.get (by assumption) (by k_mem))
       · fail)
    | (refine hE9 _ _ ?_; refine thrown_end S0 hL (by assumption) rfl rfl rfl ?_ (by assumption) (by assumption) (by assumption) (by assumption) (by assumption) (fun h' ht => hE _ _ _ ?_ ht)
       · exact (((keepBut_of (by assumption) hg).drop h1.get (News.get (by assumption) (by k_mem))).drop h2.get (News.get (by assumption) (by k_mem))).drop h3.get (News.get (by assumption) (by k_mem))
       · first | exact fun z => absurd z.1 (by assumption) | exact fun z => absurd z.2 (by assumption))
theorem woctet {w : World} {ls ns : Int} {value : Int} {tv : Tok}  : WC w 340 200 243 [.int value tv] ls ns (0 ≤ value ∧ value < 256 ^ (1 : Int).toNat) (leB value 1) 1 980 := by
  intro base l p loose mean mg mb s Q E wr wd pc P b n nd k1 k2 k3 k4 t1 t2 S X T h1 h2 h3 hne1 hne2 hne3 hP hPs hQ hE
  refine' enter [(wr, instObj 302 wd), (wd, dictOf (wrD w ls ns pc k1 k2 k3 k4 t1 t2) nd), (pc, listOf P n)] S X T ?k1 ?k6 ?k7 ?k8 ?k9 ?kB ?_ ?c2 ?c3 ?c4 ?c5
  case k6 => k_is
  case k7 => k_is
  case k9 => exact BindsTo.of_eq rfl
  case kB => exact locs rfl
  case c5 => decide
  case c2 => exact rfl
  case c3 => exact rfl
  case c4 => exact rfl
  case k8 => exact Nat.le_of_ble_eq_true rfl
  case k1 => exact List.forall_mem_cons.mpr ⟨h1, List.forall_mem_cons.mpr ⟨h2, List.forall_mem_cons.mpr ⟨h3, List.forall_mem_nil _⟩⟩⟩
  intro g L' h₁ F' N' B' X' T' hg hL
  have S0 := S
  clear S
  (try dsimp only [RV])
  (try k_fold)
  refine absE3 (by passes_own) fun E9 hP9 hE9 => ?_
  have hne1 := neN hne1
  have hne2 := neN hne2
  have hne3 := neN hne3
  k_steps
  repeat (any_goals ((first
    | ((with_reducible show Parked (wpAny _ _ (call (Value.ref 236) _ _) _ _ _)); refine Parked.get ?_; k_dflt (refine' wpAny_call (WC.here (wwhole ?s0 ?s1) ?C ?e4 ?e5 ?m1 ?m2 ?U ?n1 ?n2 ?n3 ?hP ?hPs ?_ ?_)); (case C => (refine' ⟨?X, ?T, ?B, ?F, ?N, ?e2, ?hf, ?hke, ?e1, ?e3⟩; (case F => k_asm); (case N => k_asm); (case e2 => exact rfl); (case B => k_asm); (case X => k_asm); (case T => k_asm); (case hf => exact rfl); (case hke => exact rfl); (case e1 => exact rfl); (case e3 => exact rfl))); (case e4 => exact Nat.le_of_ble_eq_true rfl); (case e5 => exact Nat.le_of_ble_eq_true rfl); (case m1 => k_mem); (case m2 => k_mem); (case U => intro P' n'; k_upd); (case n1 => k_ne); (case n2 => k_ne); (case n3 => k_ne); (case hP => first | assumption | exact PA_push (by assumption) _ _); (case hPs => first | omega | (simp only [Array.size_push]; omega)); (case s0 => first | assumption | omega | decide); (case s1 => first | assumption | omega | decide); k_whole; (any_goals (with_reducible intro h' tk' P' n' c1' pa' ps' F' N')); (any_goals (with_reducible intro h' tk' e' c1' th')))); all_goals k_steps))
  all_goals first
    | exact hQ _ _ _ _ (by assumption) (PAcast (by assumption) (by first | rfl | (simp only [List.append_assoc]; done) | (simp; done))) (by first | omega | (simp only [Array.size_push] at *; omega)) (((keepBut_of (by assumption) hg).drop h1.get (News.get (by assumption) (by k_mem))).drop h2.get (News.get (by assumption) (by k_mem))) (News.get (by assumption) (by k_mem))
    | (exfalso; fail)
    | (refine hE9 _ _ ?_; refine thrown_pass S0 hL rfl rfl (by assumption) ?_ (fun _ z => z) (fun h' ht => hE _ _ _ ?_ ht)
       · exact (((keepBut_of (by assumption) hg).drop h1.get (News.get (by assumption) (by k_mem))).drop h2.get (News.get (by assumption) (by k_mem))).drop h3.get (News.get (by assumption) (by k_mem))
       · assumption)
    | (refine hE9 _ _ ?_; refine thrown_end S0 hL (by assumption) rfl rfl rfl ?_ (by assumption) (by assumption) (by assumption) (by assumption) (by assumption) (fun h' ht => hE _ _ _ ?_ ht)
       · exact (((keepBut_of (by assumption) hg).drop h1.get (News.get (by assumption) (by k_mem))).drop h2.get (News.get (by assumption) (by k_mem))).drop h3.get (News.get (by assumption) (by k_mem))
       · assumption)
theorem winteger {w : World} {ls ns : Int} {value : Int} {tv : Tok}  : WC w 330 150 250 [.int value tv] ls ns (0 ≤ value ∧ value < 2147483648) (leB value 4) 1 970 := by
  intro base l p loose mean mg mb s Q E wr wd pc P b n nd k1 k2 k3 k4 t1 t2 S X T h1 h2 h3 hne1 hne2 hne3 hP hPs hQ hE
  refine' enter [(wr, instObj 302 wd), (wd, dictOf (wrD w ls ns pc k1 k2 k3 k4 t1 t2) nd), (pc, listOf P n)] S X T ?k1 ?k6 ?k7 ?k8 ?k9 ?kB ?_ ?c2 ?c3 ?c4 ?c5
  case k6 => k_is
  case k7 => k_is
  case k9 => exact BindsTo.of_eq rfl
  case kB => exact locs rfl
  case c5 => decide
  case c2 => exact rfl
  case c3 => exact rfl
  case c4 => exact rfl
  case k8 => exact Nat.le_of_ble_eq_true rfl
  case k1 => exact List.forall_mem_cons.mpr ⟨h1, List.forall_mem_cons.mpr ⟨h2, List.forall_mem_cons.mpr ⟨h3, List.forall_mem_nil _⟩⟩⟩
  intro g L' h₁ F' N' B' X' T' hg hL
  have S0 := S
  clear S
  (try dsimp only [RV])
  (try k_fold)
  refine absE3 (by passes_own) fun E9 hP9 hE9 => ?_
  have hne1 := neN hne1
  have hne2 := neN hne2
  have hne3 := neN hne3
  have e4 : (256 : Int) ^ (4 : Int).toNat = 4294967296 := by decide
  k_steps
  repeat (any_goals ((first
    | ((with_reducible show Parked (wpAny _ _ (call (Value.ref 236) _ _) _ _ _)); refine Parked.get ?_; k_dflt (refine' wpAny_call (WC.here (wwhole ?s0 ?s1) ?C ?e4 ?e5 ?m1 ?m2 ?U ?n1 ?n2 ?n3 ?hP ?hPs ?_ ?_)); (case C => (refine' ⟨?X, ?T, ?B, ?F, ?N, ?e2, ?hf, ?hke, ?e1, ?e3⟩; (case F => k_asm); (case N => k_asm); (case e2 => exact rfl); (case B => k_asm); (case X => k_asm); (case T => k_asm); (case hf => exact rfl); (case hke => exact rfl); (case e1 => exact rfl); (case e3 => exact rfl))); (case e4 => exact Nat.le_of_ble_eq_true rfl); (case e5 => exact Nat.le_of_ble_eq_true rfl); (case m1 => k_mem); (case m2 => k_mem); (case U => intro P' n'; k_upd); (case n1 => k_ne); (case n2 => k_ne); (case n3 => k_ne); (case hP => first | assumption | exact PA_push (by assumption) _ _); (case hPs => first | omega | (simp only [Array.size_push]; omega)); (case s0 => first | assumption | omega | decide); (case s1 => first | assumption | omega | decide); k_whole; (any_goals (with_reducible intro h' tk' P' n' c1' pa' ps' F' N')); (any_goals (with_reducible intro h' tk' e' c1' th')))
    | ((with_reducible show Parked (wpAny _ _ (call (Value.ref 38) _ _) _ _ _)); refine Parked.get ?_; k_dflt (refine' exc_here ?C ?e4 ?e5 ?_; (case C => (refine' ⟨?X, ?T, ?B, ?F, ?N, ?e2, ?hf, ?hke, ?e1, ?e3⟩; (case F => k_asm); (case N => k_asm); (case e2 => exact rfl); (case B => k_asm); (case X => k_asm); (case T => k_asm); (case hf => exact rfl); (case hke => exact rfl); (case e1 => exact rfl); (case e3 => exact rfl))); (case e4 => exact Nat.le_of_ble_eq_true rfl); (case e5 => exact Nat.le_of_ble_eq_true rfl); k_whole; intro h' tk' e' o' ta' F' N' kk' he' hc' hd' hn'))); all_goals k_steps))
  all_goals first
    | exact hQ _ _ _ _ (by omega) (PAcast (by assumption) (by first | rfl | (simp only [List.append_assoc]; done) | (simp; done))) (by first | omega | (simp only [Array.size_push] at *; omega)) (((keepBut_of (by assumption) hg).drop h1.get (News.get (by assumption) (by k_mem))).drop h2.get (News.get (by assumption) (by k_mem))) (News.get (by assumption) (by k_mem))
    | (exfalso; fail)
    | (refine hE9 _ _ ?_; refine thrown_pass S0 hL rfl rfl (by assumption) ?_ (fun _ z => z) (fun h' ht => hE _ _ _ ?_ ht)
       · exact (((keepBut_of (by assumption) hg).drop h1.get (News.get (by assumption) (by k_mem))).drop h2.get (News.get (by assumption) (by k_mem))).drop h3.get (News.get (by assumption) (by k_mem))
       · omega)
    | (refine hE9 _ _ ?_; refine thrown_end S0 hL (by assumption) rfl rfl rfl ?_ (by assumption) (by assumption) (by assumption) (by assumption) (by assumption) (fun h' ht => hE _ _ _ ?_ ht)
       · exact (((keepBut_of (by assumption) hg).drop h1.get (News.get (by assumption) (by k_mem))).drop h2.get (News.get (by assumption) (by k_mem))).drop h3.get (News.get (by assumption) (by k_mem))
       · omega)
theorem half_facts {ns : Int} (h0 : 1 ≤ ns) : (256 : Int) ^ ns.toNat = 2 * ((256 : Int) ^ ns.toNat).fdiv 2 ∧ 0 < ((256 : Int) ^ ns.toNat).fdiv 2 := by
  obtain ⟨k, hk⟩ : ∃ k : Nat, ns.toNat = k + 1 := ⟨ns.toNat - 1, by omega⟩
  have hp : (0 : Int) < 256 ^ k := Int.pow_pos (by decide)
  have e : (256 : Int) ^ ns.toNat = 256 * 256 ^ k := by rw [hk, Int.pow_succ, Int.mul_comm]
  rw [e, Int.fdiv_eq_ediv_of_nonneg _ (by decide)]
  omega
theorem wnumber {w : World} {ls ns : Int} {value : Int} {tv : Tok} (hn0 : 1 ≤ ns) (hn1 : ns ≤ 8) : WC w 330 150 257 [.int value tv] ls ns (-(((256 : Int) ^ ns.toNat).fdiv 2) ≤ value ∧ value < ((256 : Int) ^ ns.toNat).fdiv 2) (leB (value.fmod (2 * ((256 : Int) ^ ns.toNat).fdiv 2)) ns) 1 970 := by
  intro base l p loose mean mg mb s Q E wr wd pc P b n nd k1 k2 k3 k4 t1 t2 S X T h1 h2 h3 hne1 hne2 hne3 hP hPs hQ hE
  refine' enter [(wr, instObj 302 wd), (wd, dictOf (wrD w ls ns pc k1 k2 k3 k4 t1 t2) nd), (pc, listOf P n)] S X T ?k1 ?k6 ?k7 ?k8 ?k9 ?kB ?_ ?c2 ?c3 ?c4 ?c5
  case k6 => k_is
  case k7 => k_is
  case k9 => exact BindsTo.of_eq rfl
  case kB => exact locs rfl
  case c5 => decide
  case c2 => exact rfl
  case c3 => exact rfl
  case c4 => exact rfl
  case k8 => exact Nat.le_of_ble_eq_true rfl
  case k1 => exact List.forall_mem_cons.mpr ⟨h1, List.forall_mem_cons.mpr ⟨h2, List.forall_mem_cons.mpr ⟨h3, List.forall_mem_nil _⟩⟩⟩
  intro g L' h₁ F' N' B' X' T' hg hL
  have S0 := S
  clear S
  (try dsimp only [RV])
  (try k_fold)
  refine absE3 (by passes_own) fun E9 hP9 hE9 => ?_
  have hne1 := neN hne1
  have hne2 := neN hne2
  have hne3 := neN hne3
  obtain ⟨hM, hpos⟩ := half_facts hn0
  have hm0 := fm_lo value (2 * ((256 : Int) ^ ns.toNat).fdiv 2) (by omega)
  have hm1 := fm_hi value (2 * ((256 : Int) ^ ns.toNat).fdiv 2) (by omega)
  k_steps
  repeat (any_goals ((first
    | ((with_reducible show Parked (wpAny _ _ (call (Value.ref 236) _ _) _ _ _)); refine Parked.get ?_; k_dflt (refine' wpAny_call (WC.here (wwhole ?s0 ?s1) ?C ?e4 ?e5 ?m1 ?m2 ?U ?n1 ?n2 ?n3 ?hP ?hPs ?_ ?_)); (case C => (refine' ⟨?X, ?T, ?B, ?F, ?N, ?e2, ?hf, ?hke, ?e1, ?e3⟩; (case F => k_asm); (case N => k_asm); (case e2 => exact rfl); (case B => k_asm); (case X => k_asm); (case T => k_asm); (case hf => exact rfl); (case hke => exact rfl); (case e1 => exact rfl); (case e3 => exact rfl))); (case e4 => exact Nat.le_of_ble_eq_true rfl); (case e5 => exact Nat.le_of_ble_eq_true rfl); (case m1 => k_mem); (case m2 => k_mem); (case U => intro P' n'; k_upd); (case n1 => k_ne); (case n2 => k_ne); (case n3 => k_ne); (case hP => first | assumption | exact PA_push (by assumption) _ _); (case hPs => first | omega | (simp only [Array.size_push]; omega)); (case s0 => first | assumption | omega | decide); (case s1 => first | assumption | omega | decide); k_whole; (any_goals (with_reducible intro h' tk' P' n' c1' pa' ps' F' N')); (any_goals (with_reducible intro h' tk' e' c1' th')))
    | ((with_reducible show Parked (wpAny _ _ (call (Value.ref 38) _ _) _ _ _)); refine Parked.get ?_; k_dflt (refine' exc_here ?C ?e4 ?e5 ?_; (case C => (refine' ⟨?X, ?T, ?B, ?F, ?N, ?e2, ?hf, ?hke, ?e1, ?e3⟩; (case F => k_asm); (case N => k_asm); (case e2 => exact rfl); (case B => k_asm); (case X => k_asm); (case T => k_asm); (case hf => exact rfl); (case hke => exact rfl); (case e1 => exact rfl); (case e3 => exact rfl))); (case e4 => exact Nat.le_of_ble_eq_true rfl); (case e5 => exact Nat.le_of_ble_eq_true rfl); k_whole; intro h' tk' e' o' ta' F' N' kk' he' hc' hd' hn'))); all_goals k_steps))
  all_goals first
    | exact hQ _ _ _ _ (⟨by assumption, by assumption⟩) (PAcast (by assumption) (by first | rfl | (simp only [List.append_assoc]; done) | (simp; done))) (by first | omega | (simp only [Array.size_push] at *; omega)) (((keepBut_of (by assumption) hg).drop h1.get (News.get (by assumption) (by k_mem))).drop h2.get (News.get (by assumption) (by k_mem))) (News.get (by assumption) (by k_mem))
    | (exfalso; fail)
    | (refine hE9 _ _ ?_; refine thrown_pass S0 hL rfl rfl (by assumption) ?_ (fun _ z => z) (fun h' ht => hE _ _ _ ?_ ht)
       · exact (((keepBut_of (by assumption) hg).drop h1.get (News.get (by assumption) (by k_mem))).drop h2.get (News.get (by assumption) (by k_mem))).drop h3.get (News.get (by assumption) (by k_mem))
       · exact fun _ => (by assumption : ¬ (_ ∧ _)) ⟨hm0, by omega⟩)
    | (refine hE9 _ _ ?_; refine thrown_end S0 hL (by assumption) rfl rfl rfl ?_ (by assumption) (by assumption) (by assumption) (by assumption) (by assumption) (fun h' ht => hE _ _ _ ?_ ht)
       · exact (((keepBut_of (by assumption) hg).drop h1.get (News.get (by assumption) (by k_mem))).drop h2.get (News.get (by assumption) (by k_mem))).drop h3.get (News.get (by assumption) (by k_mem))
       · first | exact fun z => absurd z.1 (by assumption) | exact fun z => absurd z.2 (by assumption))
theorem len_bytes_here {M : Program} {w : World} {A : Around} {s : Shared} {Q E : Value → Shared → Prop} {b : Array UInt8} {tk : Tok} (h0 : b.size ≤ 1099511627776) (h : Q (.int (b.size : Nat) (s.toks + 1)) { s with toks := s.toks + 1 + 1 }) :
    wpAny (model M w) A (call (.builtin "len") [.bytes b tk]) Q E s := KBw.len_K (ks := KBw.bInts b) rfl (by rw [KBw.ints_length]; exact h0) (by rw [KBw.ints_length]; exact h)
theorem wtextn {w : World} {ls ns : Int}  (hl0 : 1 ≤ ls) (hl1 : ls ≤ 8) : WC w 330 150 264 [.none] ls ns (True) (leB 0 ls) 1 960 := by
  intro base l p loose mean mg mb s Q E wr wd pc P b n nd k1 k2 k3 k4 t1 t2 S X T h1 h2 h3 hne1 hne2 hne3 hP hPs hQ hE
  refine' enter [(wr, instObj 302 wd), (wd, dictOf (wrD w ls ns pc k1 k2 k3 k4 t1 t2) nd), (pc, listOf P n)] S X T ?k1 ?k6 ?k7 ?k8 ?k9 ?kB ?_ ?c2 ?c3 ?c4 ?c5
  case k6 => k_is
  case k7 => k_is
  case k9 => exact BindsTo.of_eq rfl
  case kB => exact locs rfl
  case c5 => decide
  case c2 => exact rfl
  case c3 => exact rfl
  case c4 => exact rfl
  case k8 => exact Nat.le_of_ble_eq_true rfl
  case k1 => exact List.forall_mem_cons.mpr ⟨h1, List.forall_mem_cons.mpr ⟨h2, List.forall_mem_cons.mpr ⟨h3, List.forall_mem_nil _⟩⟩⟩
  intro g L' h₁ F' N' B' X' T' hg hL
  have S0 := S
  clear S
  (try dsimp only [RV])
  (try k_fold)
  refine absE3 (by passes_own) fun E9 hP9 hE9 => ?_
  have hne1 := neN hne1
  have hne2 := neN hne2
  have hne3 := neN hne3
  have hp : (0 : Int) < 256 ^ ls.toNat := Int.pow_pos (by decide)
  k_steps
  repeat (any_goals ((first
    | ((with_reducible show Parked (wpAny _ _ (call (Value.ref 236) _ _) _ _ _)); refine Parked.get ?_; k_dflt (refine' wpAny_call (WC.here (wwhole ?s0 ?s1) ?C ?e4 ?e5 ?m1 ?m2 ?U ?n1 ?n2 ?n3 ?hP ?hPs ?_ ?_)); (case C => (refine' ⟨?X, ?T, ?B, ?F, ?N, ?e2, ?hf, ?hke, ?e1, ?e3⟩; (case F => k_asm); (case N => k_asm); (case e2 => exact rfl); (case B => k_asm); (case X => k_asm); (case T => k_asm); (case hf => exact rfl); (case hke => exact rfl); (case e1 => exact rfl); (case e3 => exact rfl))); (case e4 => exact Nat.le_of_ble_eq_true rfl); (case e5 => exact Nat.le_of_ble_eq_true rfl); (case m1 => k_mem); (case m2 => k_mem); (case U => intro P' n'; k_upd); (case n1 => k_ne); (case n2 => k_ne); (case n3 => k_ne); (case hP => first | assumption | exact PA_push (by assumption) _ _); (case hPs => first | omega | (simp only [Array.size_push]; omega)); (case s0 => first | assumption | omega | decide); (case s1 => first | assumption | omega | decide); k_whole; (any_goals (with_reducible intro h' tk' P' n' c1' pa' ps' F' N')); (any_goals (with_reducible intro h' tk' e' c1' th')))); all_goals k_steps))
  all_goals first
    | exact hQ _ _ _ _ (trivial) (PAcast (by assumption) (by first | rfl | (simp only [List.append_assoc]; done) | (simp; done))) (by first | omega | (simp only [Array.size_push] at *; omega)) (((keepBut_of (by assumption) hg).drop h1.get (News.get (by assumption) (by k_mem))).drop h2.get (News.get (by assumption) (by k_mem))) (News.get (by assumption) (by k_mem))
    | (exfalso; exact (by assumption : ¬ ((0 : Int) ≤ 0 ∧ (0 : Int) < 256 ^ ls.toNat)) ⟨Int.le_refl 0, hp⟩)
    | (refine hE9 _ _ ?_; refine thrown_pass S0 hL rfl rfl (by assumption) ?_ (fun _ z => z) (fun h' ht => hE _ _ _ ?_ ht)
       · exact (((keepBut_of (by assumption) hg).drop h1.get (News.get (by assumption) (by k_mem))).drop h2.get (News.get (by assumption) (by k_mem))).drop h3.get (News.get (by assumption) (by k_mem))
       · fail)
    | (refine hE9 _ _ ?_; refine thrown_end S0 hL (by assumption) rfl rfl rfl ?_ (by assumption) (by assumption) (by assumption) (by assumption) (by assumption) (fun h' ht => hE _ _ _ ?_ ht)
       · exact (((keepBut_of (by assumption) hg).drop h1.get (News.get (by assumption) (by k_mem))).drop h2.get (News.get (by assumption) (by k_mem))).drop h3.get (News.get (by assumption) (by k_mem))
       · fail)
theorem wtext {w : World} {ls ns : Int} {a : Array UInt8} {tv : Tok} (hl0 : 1 ≤ ls) (hl1 : ls ≤ 8) (ha : a.size < 1000) : WC w 330 150 264 [.bytes a tv] ls ns ((a.size : Int) + 1 < 256 ^ ls.toNat) (leB ((a.size : Int) + 1) ls ++ a.toList ++ leB 0 1) 3 960 := by
  intro base l p loose mean mg mb s Q E wr wd pc P b n nd k1 k2 k3 k4 t1 t2 S X T h1 h2 h3 hne1 hne2 hne3 hP hPs hQ hE
  refine' enter [(wr, instObj 302 wd), (wd, dictOf (wrD w ls ns pc k1 k2 k3 k4 t1 t2) nd), (pc, listOf P n)] S X T ?k1 ?k6 ?k7 ?k8 ?k9 ?kB ?_ ?c2 ?c3 ?c4 ?c5
  case k6 => k_is
  case k7 => k_is
  case k9 => exact BindsTo.of_eq rfl
  case kB => exact locs rfl
  case c5 => decide
  case c2 => exact rfl
  case c3 => exact rfl
  case c4 => exact rfl
  case k8 => exact Nat.le_of_ble_eq_true rfl
  case k1 => exact List.forall_mem_cons.mpr ⟨h1, List.forall_mem_cons.mpr ⟨h2, List.forall_mem_cons.mpr ⟨h3, List.forall_mem_nil _⟩⟩⟩
  intro g L' h₁ F' N' B' X' T' hg hL
  have S0 := S
  clear S
  (try dsimp only [RV])
  (try k_fold)
  refine absE3 (by passes_own) fun E9 hP9 hE9 => ?_
  have hne1 := neN hne1
  have hne2 := neN hne2
  have hne3 := neN hne3
  k_steps
  repeat (any_goals ((first
    | ((with_reducible show Parked (wpAny _ _ (call (Value.ref 236) _ _) _ _ _)); refine Parked.get ?_; k_dflt (refine' wpAny_call (WC.here (wwhole ?s0 ?s1) ?C ?e4 ?e5 ?m1 ?m2 ?U ?n1 ?n2 ?n3 ?hP ?hPs ?_ ?_)); (case C => (refine' ⟨?X, ?T, ?B, ?F, ?N, ?e2, ?hf, ?hke, ?e1, ?e3⟩; (case F => k_asm); (case N => k_asm); (case e2 => exact rfl); (case B => k_asm); (case X => k_asm); (case T => k_asm); (case hf => exact rfl); (case hke => exact rfl); (case e1 => exact rfl); (case e3 => exact rfl))); (case e4 => exact Nat.le_of_ble_eq_true rfl); (case e5 => exact Nat.le_of_ble_eq_true rfl); (case m1 => k_mem); (case m2 => k_mem); (case U => intro P' n'; k_upd); (case n1 => k_ne); (case n2 => k_ne); (case n3 => k_ne); (case hP => first | assumption | exact PA_push (by assumption) _ _); (case hPs => first | omega | (simp only [Array.size_push]; omega)); (case s0 => first | assumption | omega | decide); (case s1 => first | assumption | omega | decide); k_whole; (any_goals (with_reducible intro h' tk' P' n' c1' pa' ps' F' N')); (any_goals (with_reducible intro h' tk' e' c1' th')))
    | ((with_reducible show Parked (wpAny _ _ (call (Value.ref 243) _ _) _ _ _)); refine Parked.get ?_; k_dflt (refine' wpAny_call (WC.here (woctet) ?C ?e4 ?e5 ?m1 ?m2 ?U ?n1 ?n2 ?n3 ?hP ?hPs ?_ ?_)); (case C => (refine' ⟨?X, ?T, ?B, ?F, ?N, ?e2, ?hf, ?hke, ?e1, ?e3⟩; (case F => k_asm); (case N => k_asm); (case e2 => exact rfl); (case B => k_asm); (case X => k_asm); (case T => k_asm); (case hf => exact rfl); (case hke => exact rfl); (case e1 => exact rfl); (case e3 => exact rfl))); (case e4 => exact Nat.le_of_ble_eq_true rfl); (case e5 => exact Nat.le_of_ble_eq_true rfl); (case m1 => k_mem); (case m2 => k_mem); (case U => intro P' n'; k_upd); (case n1 => k_ne); (case n2 => k_ne); (case n3 => k_ne); (case hP => first | assumption | exact PA_push (by assumption) _ _); (case hPs => first | omega | (simp only [Array.size_push]; omega));  k_whole; (any_goals (with_reducible intro h' tk' P' n' c1' pa' ps' F' N')); (any_goals (with_reducible intro h' tk' e' c1' th')))); all_goals k_steps))
  all_goals first
    | exact hQ _ _ _ _ ((by assumption : 0 ≤ (a.size : Int) + 1 ∧ (a.size : Int) + 1 < 256 ^ ls.toNat).2) (PAcast (by assumption) (by first | rfl | (simp only [List.append_assoc]; done) | (simp; done))) (by first | omega | (simp only [Array.size_push] at *; omega)) (((keepBut_of (by assumption) hg).drop h1.get (News.get (by assumption) (by k_mem))).drop h2.get (News.get (by assumption) (by k_mem))) (News.get (by assumption) (by k_mem))
    | (exfalso; exact (by assumption : ¬ ((0 : Int) ≤ 0 ∧ (0 : Int) < 256 ^ (1 : Int).toNat)) (by decide))
    | (refine hE9 _ _ ?_; refine thrown_pass S0 hL rfl rfl (by assumption) ?_ (fun _ z => z) (fun h' ht => hE _ _ _ ?_ ht)
       · exact (((keepBut_of (by assumption) hg).drop h1.get (News.get (by assumption) (by k_mem))).drop h2.get (News.get (by assumption) (by k_mem))).drop h3.get (News.get (by assumption) (by k_mem))
       · exact fun z => (by assumption : ¬ (0 ≤ (a.size : Int) + 1 ∧ (a.size : Int) + 1 < 256 ^ ls.toNat)) ⟨by omega, z⟩)
    | (refine hE9 _ _ ?_; refine thrown_end S0 hL (by assumption) rfl rfl rfl ?_ (by assumption) (by assumption) (by assumption) (by assumption) (by assumption) (fun h' ht => hE _ _ _ ?_ ht)
       · exact (((keepBut_of (by assumption) hg).drop h1.get (News.get (by assumption) (by k_mem))).drop h2.get (News.get (by assumption) (by k_mem))).drop h3.get (News.get (by assumption) (by k_mem))
       · fail)
example : True := by
  k_with "call builtin:len" => (k_here; (with_reducible show wpAny _ _ (call (Value.builtin "len") [Value.bytes _ _]) _ _ _); (refine' len_bytes_here ?h ?_; (case h => omega)))
  trivial
theorem wconstn {w : World} {ls ns : Int}   : WC w 325 125 271 [.none] ls ns (True) (leB 0 1) 1 950 := by
  intro base l p loose mean mg mb s Q E wr wd pc P b n nd k1 k2 k3 k4 t1 t2 S X T h1 h2 h3 hne1 hne2 hne3 hP hPs hQ hE
  refine' enter [(wr, instObj 302 wd), (wd, dictOf (wrD w ls ns pc k1 k2 k3 k4 t1 t2) nd), (pc, listOf P n)] S X T ?k1 ?k6 ?k7 ?k8 ?k9 ?kB ?_ ?c2 ?c3 ?c4 ?c5
  case k6 => k_is
  case k7 => k_is
  case k9 => exact BindsTo.of_eq rfl
  case kB => exact locs rfl
  case c5 => decide
  case c2 => exact rfl
  case c3 => exact rfl
  case c4 => exact rfl
  case k8 => exact Nat.le_of_ble_eq_true rfl
  case k1 => exact List.forall_mem_cons.mpr ⟨h1, List.forall_mem_cons.mpr ⟨h2, List.forall_mem_cons.mpr ⟨h3, List.forall_mem_nil _⟩⟩⟩
  intro g L' h₁ F' N' B' X' T' hg hL
  have S0 := S
  clear S
  (try dsimp only [RV])
  (try k_fold)
  refine absE3 (by passes_own) fun E9 hP9 hE9 => ?_
  have hne1 := neN hne1
  have hne2 := neN hne2
  have hne3 := neN hne3
  k_steps
  repeat (any_goals ((first
    | ((with_reducible show Parked (wpAny _ _ (call (Value.ref 243) _ _) _ _ _)); refine Parked.get ?_; k_dflt (refine' wpAny_call (WC.here (woctet) ?C ?e4 ?e5 ?m1 ?m2 ?U ?n1 ?n2 ?n3 ?hP ?hPs ?_ ?_)); (case C => (refine' ⟨?X, ?T, ?B, ?F, ?N, ?e2, ?hf, ?hke, ?e1, ?e3⟩; (case F => k_asm); (case N => k_asm); (case e2 => exact rfl); (case B => k_asm); (case X => k_asm); (case T => k_asm); (case hf => exact rfl); (case hke => exact rfl); (case e1 => exact rfl); (case e3 => exact rfl))); (case e4 => exact Nat.le_of_ble_eq_true rfl); (case e5 => exact Nat.le_of_ble_eq_true rfl); (case m1 => k_mem); (case m2 => k_mem); (case U => intro P' n'; k_upd); (case n1 => k_ne); (case n2 => k_ne); (case n3 => k_ne); (case hP => first | assumption | exact PA_push (by assumption) _ _); (case hPs => first | omega | (simp only [Array.size_push]; omega));  k_whole; (any_goals (with_reducible intro h' tk' P' n' c1' pa' ps' F' N')); (any_goals (with_reducible intro h' tk' e' c1' th')))); all_goals k_steps))
  all_goals first
    | exact hQ _ _ _ _ (trivial) (PAcast (by assumption) (by first | rfl | (simp only [List.append_assoc]; done) | (simp; done))) (by first | omega | (simp only [Array.size_push] at *; omega)) (((keepBut_of (by assumption) hg).drop h1.get (News.get (by assumption) (by k_mem))).drop h2.get (News.get (by assumption) (by k_mem))) (News.get (by assumption) (by k_mem))
    | (exfalso; first | ((rename ¬ True => hz9); exact hz9 trivial) | ((rename ¬ (_ ∧ _) => hz9); first | exact hz9 (by decide) | exact hz9 hv) | ((rename ¬ (_ < _) => hz9); exact hz9 hv))
    | (refine hE9 _ _ ?_; refine thrown_pass S0 hL rfl rfl (by assumption) ?_ (fun _ z => z) (fun h' ht => hE _ _ _ ?_ ht)
       · exact (((keepBut_of (by assumption) hg).drop h1.get (News.get (by assumption) (by k_mem))).drop h2.get (News.get (by assumption) (by k_mem))).drop h3.get (News.get (by assumption) (by k_mem))
       · fail)
    | (refine hE9 _ _ ?_; refine thrown_end S0 hL (by assumption) rfl rfl rfl ?_ (by assumption) (by assumption) (by assumption) (by assumption) (by assumption) (fun h' ht => hE _ _ _ ?_ ht)
       · exact (((keepBut_of (by assumption) hg).drop h1.get (News.get (by assumption) (by k_mem))).drop h2.get (News.get (by assumption) (by k_mem))).drop h3.get (News.get (by assumption) (by k_mem))
       · fail)
theorem wconstb {w : World} {ls ns : Int} {v : Bool}  : WC w 325 125 271 [.bool v] ls ns (True) (leB 1 1 ++ leB (if v then 1 else 0) 1) 2 950 := by
  intro base l p loose mean mg mb s Q E wr wd pc P b n nd k1 k2 k3 k4 t1 t2 S X T h1 h2 h3 hne1 hne2 hne3 hP hPs hQ hE
  refine' enter [(wr, instObj 302 wd), (wd, dictOf (wrD w ls ns pc k1 k2 k3 k4 t1 t2) nd), (pc, listOf P n)] S X T ?k1 ?k6 ?k7 ?k8 ?k9 ?kB ?_ ?c2 ?c3 ?c4 ?c5
  case k6 => k_is
  case k7 => k_is
  case k9 => exact BindsTo.of_eq rfl
  case kB => exact locs rfl
  case c5 => decide
  case c2 => exact rfl
  case c3 => exact rfl
  case c4 => exact rfl
  case k8 => exact Nat.le_of_ble_eq_true rfl
  case k1 => exact List.forall_mem_cons.mpr ⟨h1, List.forall_mem_cons.mpr ⟨h2, List.forall_mem_cons.mpr ⟨h3, List.forall_mem_nil _⟩⟩⟩
  intro g L' h₁ F' N' B' X' T' hg hL
  have S0 := S
  clear S
  (try dsimp only [RV])
  (try k_fold)
  refine absE3 (by passes_own) fun E9 hP9 hE9 => ?_
  have hne1 := neN hne1
  have hne2 := neN hne2
  have hne3 := neN hne3
  cases v
  all_goals
    k_steps
    repeat (any_goals ((first
      | ((with_reducible show Parked (wpAny _ _ (call (Value.ref 243) _ _) _ _ _)); refine Parked.get ?_; k_dflt (refine' wpAny_call (WC.here (woctet) ?C ?e4 ?e5 ?m1 ?m2 ?U ?n1 ?n2 ?n3 ?hP ?hPs ?_ ?_)); (case C => (refine' ⟨?X, ?T, ?B, ?F, ?N, ?e2, ?hf, ?hke, ?e1, ?e3⟩; (case F => k_asm); (case N => k_asm); (case e2 => exact rfl); (case B => k_asm); (case X => k_asm); (case T => k_asm); (case hf => exact rfl); (case hke => exact rfl); (case e1 => exact rfl); (case e3 => exact rfl))); (case e4 => exact Nat.le_of_ble_eq_true rfl); (case e5 => exact Nat.le_of_ble_eq_true rfl); (case m1 => k_mem); (case m2 => k_mem); (case U => intro P' n'; k_upd); (case n1 => k_ne); (case n2 => k_ne); (case n3 => k_ne); (case hP => first | assumption | exact PA_push (by assumption) _ _); (case hPs => first | omega | (simp only [Array.size_push]; omega));  k_whole; (any_goals (with_reducible intro h' tk' P' n' c1' pa' ps' F' N')); (any_goals (with_reducible intro h' tk' e' c1' th')))); all_goals k_steps))
  
  all_goals first
    | exact hQ _ _ _ _ (trivial) (PAcast (by assumption) (by first | rfl | (simp only [List.append_assoc]; done) | (simp; done))) (by first | omega | (simp only [Array.size_push] at *; omega)) (((keepBut_of (by assumption) hg).drop h1.get (News.get (by assumption) (by k_mem))).drop h2.get (News.get (by assumption) (by k_mem))) (News.get (by assumption) (by k_mem))
    | (exfalso; first | ((rename ¬ True => hz9); exact hz9 trivial) | ((rename ¬ (_ ∧ _) => hz9); first | exact hz9 (by decide) | exact hz9 hv) | ((rename ¬ (_ < _) => hz9); exact hz9 hv))
    | (refine hE9 _ _ ?_; refine thrown_pass S0 hL rfl rfl (by assumption) ?_ (fun _ z => z) (fun h' ht => hE _ _ _ ?_ ht)
       · exact (((keepBut_of (by assumption) hg).drop h1.get (News.get (by assumption) (by k_mem))).drop h2.get (News.get (by assumption) (by k_mem))).drop h3.get (News.get (by assumption) (by k_mem))
       · fail)
    | (refine hE9 _ _ ?_; refine thrown_end S0 hL (by assumption) rfl rfl rfl ?_ (by assumption) (by assumption) (by assumption) (by assumption) (by assumption) (fun h' ht => hE _ _ _ ?_ ht)
       · exact (((keepBut_of (by assumption) hg).drop h1.get (News.get (by assumption) (by k_mem))).drop h2.get (News.get (by assumption) (by k_mem))).drop h3.get (News.get (by assumption) (by k_mem))
       · fail)
theorem wconsti {w : World} {ls ns : Int} {value : Int} {tv : Tok} (hn0 : 1 ≤ ns) (hn1 : ns ≤ 8) (hv : -(((256 : Int) ^ ns.toNat).fdiv 2) ≤ value ∧ value < ((256 : Int) ^ ns.toNat).fdiv 2) : WC w 325 125 271 [.int value tv] ls ns (True) (leB 3 1 ++ leB (value.fmod (2 * ((256 : Int) ^ ns.toNat).fdiv 2)) ns) 2 950 := by
  intro base l p loose mean mg mb s Q E wr wd pc P b n nd k1 k2 k3 k4 t1 t2 S X T h1 h2 h3 hne1 hne2 hne3 hP hPs hQ hE
  refine' enter [(wr, instObj 302 wd), (wd, dictOf (wrD w ls ns pc k1 k2 k3 k4 t1 t2) nd), (pc, listOf P n)] S X T ?k1 ?k6 ?k7 ?k8 ?k9 ?kB ?_ ?c2 ?c3 ?c4 ?c5
  case k6 => k_is
  case k7 => k_is
  case k9 => exact BindsTo.of_eq rfl
  case kB => exact locs rfl
  case c5 => decide
  case c2 => exact rfl
  case c3 => exact rfl
  case c4 => exact rfl
  case k8 => exact Nat.le_of_ble_eq_true rfl
  case k1 => exact List.forall_mem_cons.mpr ⟨h1, List.forall_mem_cons.mpr ⟨h2, List.forall_mem_cons.mpr ⟨h3, List.forall_mem_nil _⟩⟩⟩
  intro g L' h₁ F' N' B' X' T' hg hL
  have S0 := S
  clear S
  (try dsimp only [RV])
  (try k_fold)
  refine absE3 (by passes_own) fun E9 hP9 hE9 => ?_
  have hne1 := neN hne1
  have hne2 := neN hne2
  have hne3 := neN hne3
  k_steps
  repeat (any_goals ((first
    | ((with_reducible show Parked (wpAny _ _ (call (Value.ref 243) _ _) _ _ _)); refine Parked.get ?_; k_dflt (refine' wpAny_call (WC.here (woctet) ?C ?e4 ?e5 ?m1 ?m2 ?U ?n1 ?n2 ?n3 ?hP ?hPs ?_ ?_)); (case C => (refine' ⟨?X, ?T, ?B, ?F, ?N, ?e2, ?hf, ?hke, ?e1, ?e3⟩; (case F => k_asm); (case N => k_asm); (case e2 => exact rfl); (case B => k_asm); (case X => k_asm); (case T => k_asm); (case hf => exact rfl); (case hke => exact rfl); (case e1 => exact rfl); (case e3 => exact rfl))); (case e4 => exact Nat.le_of_ble_eq_true rfl); (case e5 => exact Nat.le_of_ble_eq_true rfl); (case m1 => k_mem); (case m2 => k_mem); (case U => intro P' n'; k_upd); (case n1 => k_ne); (case n2 => k_ne); (case n3 => k_ne); (case hP => first | assumption | exact PA_push (by assumption) _ _); (case hPs => first | omega | (simp only [Array.size_push]; omega));  k_whole; (any_goals (with_reducible intro h' tk' P' n' c1' pa' ps' F' N')); (any_goals (with_reducible intro h' tk' e' c1' th')))
    | ((with_reducible show Parked (wpAny _ _ (call (Value.ref 257) _ _) _ _ _)); refine Parked.get ?_; k_dflt (refine' wpAny_call (WC.here (wnumber ?s0 ?s1) ?C ?e4 ?e5 ?m1 ?m2 ?U ?n1 ?n2 ?n3 ?hP ?hPs ?_ ?_)); (case C => (refine' ⟨?X, ?T, ?B, ?F, ?N, ?e2, ?hf, ?hke, ?e1, ?e3⟩; (case F => k_asm); (case N => k_asm); (case e2 => exact rfl); (case B => k_asm); (case X => k_asm); (case T => k_asm); (case hf => exact rfl); (case hke => exact rfl); (case e1 => exact rfl); (case e3 => exact rfl))); (case e4 => exact Nat.le_of_ble_eq_true rfl); (case e5 => exact Nat.le_of_ble_eq_true rfl); (case m1 => k_mem); (case m2 => k_mem); (case U => intro P' n'; k_upd); (case n1 => k_ne); (case n2 => k_ne); (case n3 => k_ne); (case hP => first | assumption | exact PA_push (by assumption) _ _); (case hPs => first | omega | (simp only [Array.size_push]; omega)); (case s0 => first | assumption | omega | decide); (case s1 => first | assumption | omega | decide); k_whole; (any_goals (with_reducible intro h' tk' P' n' c1' pa' ps' F' N')); (any_goals (with_reducible intro h' tk' e' c1' th')))); all_goals k_steps))
  all_goals first
    | exact hQ _ _ _ _ (trivial) (PAcast (by assumption) (by first | rfl | (simp only [List.append_assoc]; done) | (simp; done))) (by first | omega | (simp only [Array.size_push] at *; omega)) (((keepBut_of (by assumption) hg).drop h1.get (News.get (by assumption) (by k_mem))).drop h2.get (News.get (by assumption) (by k_mem))) (News.get (by assumption) (by k_mem))
    | (exfalso; first | ((rename ¬ True => hz9); exact hz9 trivial) | ((rename ¬ (_ ∧ _) => hz9); first | exact hz9 (by decide) | exact hz9 hv) | ((rename ¬ (_ < _) => hz9); exact hz9 hv))
    | (refine hE9 _ _ ?_; refine thrown_pass S0 hL rfl rfl (by assumption) ?_ (fun _ z => z) (fun h' ht => hE _ _ _ ?_ ht)
       · exact (((keepBut_of (by assumption) hg).drop h1.get (News.get (by assumption) (by k_mem))).drop h2.get (News.get (by assumption) (by k_mem))).drop h3.get (News.get (by assumption) (by k_mem))
       · fail)
    | (refine hE9 _ _ ?_; refine thrown_end S0 hL (by assumption) rfl rfl rfl ?_ (by assumption) (by assumption) (by assumption) (by assumption) (by assumption) (fun h' ht => hE _ _ _ ?_ ht)
       · exact (((keepBut_of (by assumption) hg).drop h1.get (News.get (by assumption) (by k_mem))).drop h2.get (News.get (by assumption) (by k_mem))).drop h3.get (News.get (by assumption) (by k_mem))
       · fail)
theorem wconst {w : World} {ls ns : Int} {a : Array UInt8} {tv : Tok} (hl0 : 1 ≤ ls) (hl1 : ls ≤ 8) (ha : a.size < 1000) (hv : (a.size : Int) + 1 < 256 ^ ls.toNat) : WC w 325 125 271 [.bytes a tv] ls ns (True) (leB 4 1 ++ (leB ((a.size : Int) + 1) ls ++ a.toList ++ leB 0 1)) 4 950 := by
  intro base l p loose mean mg mb s Q E wr wd pc P b n nd k1 k2 k3 k4 t1 t2 S X T h1 h2 h3 hne1 hne2 hne3 hP hPs hQ hE
  refine' enter [(wr, instObj 302 wd), (wd, dictOf (wrD w ls ns pc k1 k2 k3 k4 t1 t2) nd), (pc, listOf P n)] S X T ?k1 ?k6 ?k7 ?k8 ?k9 ?kB ?_ ?c2 ?c3 ?c4 ?c5
  case k6 => k_is
  case k7 => k_is
  case k9 => exact BindsTo.of_eq rfl
  case kB => exact locs rfl
  case c5 => decide
  case c2 => exact rfl
  case c3 => exact rfl
  case c4 => exact rfl
  case k8 => exact Nat.le_of_ble_eq_true rfl
  case k1 => exact List.forall_mem_cons.mpr ⟨h1, List.forall_mem_cons.mpr ⟨h2, List.forall_mem_cons.mpr ⟨h3, List.forall_mem_nil _⟩⟩⟩
  intro g L' h₁ F' N' B' X' T' hg hL
  have S0 := S
  clear S
  (try dsimp only [RV])
  (try k_fold)
  refine absE3 (by passes_own) fun E9 hP9 hE9 => ?_
  have hne1 := neN hne1
  have hne2 := neN hne2
  have hne3 := neN hne3
  k_steps
  repeat (any_goals ((first
    | ((with_reducible show Parked (wpAny _ _ (call (Value.ref 243) _ _) _ _ _)); refine Parked.get ?_; k_dflt (refine' wpAny_call (WC.here (woctet) ?C ?e4 ?e5 ?m1 ?m2 ?U ?n1 ?n2 ?n3 ?hP ?hPs ?_ ?_)); (case C => (refine' ⟨?X, ?T, ?B, ?F, ?N, ?e2, ?hf, ?hke, ?e1, ?e3⟩; (case F => k_asm); (case N => k_asm); (case e2 => exact rfl); (case B => k_asm); (case X => k_asm); (case T => k_asm); (case hf => exact rfl); (case hke => exact rfl); (case e1 => exact rfl); (case e3 => exact rfl))); (case e4 => exact Nat.le_of_ble_eq_true rfl); (case e5 => exact Nat.le_of_ble_eq_true rfl); (case m1 => k_mem); (case m2 => k_mem); (case U => intro P' n'; k_upd); (case n1 => k_ne); (case n2 => k_ne); (case n3 => k_ne); (case hP => first | assumption | exact PA_push (by assumption) _ _); (case hPs => first | omega | (simp only [Array.size_push]; omega));  k_whole; (any_goals (with_reducible intro h' tk' P' n' c1' pa' ps' F' N')); (any_goals (with_reducible intro h' tk' e' c1' th')))
    | ((with_reducible show Parked (wpAny _ _ (call (Value.ref 264) _ _) _ _ _)); refine Parked.get ?_; k_dflt (refine' wpAny_call (WC.here (wtext ?s0 ?s1 ?s2) ?C ?e4 ?e5 ?m1 ?m2 ?U ?n1 ?n2 ?n3 ?hP ?hPs ?_ ?_)); (case C => (refine' ⟨?X, ?T, ?B, ?F, ?N, ?e2, ?hf, ?hke, ?e1, ?e3⟩; (case F => k_asm); (case N => k_asm); (case e2 => exact rfl); (case B => k_asm); (case X => k_asm); (case T => k_asm); (case hf => exact rfl); (case hke => exact rfl); (case e1 => exact rfl); (case e3 => exact rfl))); (case e4 => exact Nat.le_of_ble_eq_true rfl); (case e5 => exact Nat.le_of_ble_eq_true rfl); (case m1 => k_mem); (case m2 => k_mem); (case U => intro P' n'; k_upd); (case n1 => k_ne); (case n2 => k_ne); (case n3 => k_ne); (case hP => first | assumption | exact PA_push (by assumption) _ _); (case hPs => first | omega | (simp only [Array.size_push]; omega)); (case s0 => first | assumption | omega | decide); (case s1 => first | assumption | omega | decide); (case s2 => first | assumption | omega | decide); k_whole; (any_goals (with_reducible intro h' tk' P' n' c1' pa' ps' F' N')); (any_goals (with_reducible intro h' tk' e' c1' th')))); all_goals k_steps))
  all_goals first
    | exact hQ _ _ _ _ (trivial) (PAcast (by assumption) (by first | rfl | (simp only [List.append_assoc]; done) | (simp; done))) (by first | omega | (simp only [Array.size_push] at *; omega)) (((keepBut_of (by assumption) hg).drop h1.get (News.get (by assumption) (by k_mem))).drop h2.get (News.get (by assumption) (by k_mem))) (News.get (by assumption) (by k_mem))
    | (exfalso; first | ((rename ¬ True => hz9); exact hz9 trivial) | ((rename ¬ (_ ∧ _) => hz9); first | exact hz9 (by decide) | exact hz9 hv) | ((rename ¬ (_ < _) => hz9); exact hz9 hv))
    | (refine hE9 _ _ ?_; refine thrown_pass S0 hL rfl rfl (by assumption) ?_ (fun _ z => z) (fun h' ht => hE _ _ _ ?_ ht)
       · exact (((keepBut_of (by assumption) hg).drop h1.get (News.get (by assumption) (by k_mem))).drop h2.get (News.get (by assumption) (by k_mem))).drop h3.get (News.get (by assumption) (by k_mem))
       · fail)
    | (refine hE9 _ _ ?_; refine thrown_end S0 hL (by assumption) rfl rfl rfl ?_ (by assumption) (by assumption) (by assumption) (by assumption) (by assumption) (fun h' ht => hE _ _ _ ?_ ht)
       · exact (((keepBut_of (by assumption) hg).drop h1.get (News.get (by assumption) (by k_mem))).drop h2.get (News.get (by assumption) (by k_mem))).drop h3.get (News.get (by assumption) (by k_mem))
       · fail)
theorem WC.low {w : World} {dp un dp' un' : Nat} {f : Addr} {as : List Value} {ls ns : Int} {cond : Prop} {enc : List UInt8} {k k' Bd Bd' : Nat} (C : WC w dp un f as ls ns cond enc k Bd)
    (h1 : dp' ≤ dp) (h2 : un' ≤ un) (h3 : k ≤ k') (h4 : Bd' ≤ Bd) : WC w dp' un' f as ls ns cond enc k' Bd' := by
  intro base l p loose mean mg mb s Q E wr wd pc P b n nd k1 k2 k3 k4 t1 t2 S X T o1 o2 o3 n1 n2 n3 hP hPs hQ hE
  exact liftC (C base l p loose mean mg mb s Q E wr wd pc P b n nd k1 k2 k3 k4 t1 t2 (S.at_ rfl) X T o1 o2 o3 n1 n2 n3 hP (Nat.lt_of_lt_of_le hPs h4)
    (fun h' tk' P' n' c a z => hQ h' tk' P' n' c a (Nat.le_trans z (Nat.add_le_add_left h3 _))) hE) rfl rfl rfl h1 h2
theorem eq_str_ne {prog : Program} {w : World} {A : Around} {E : Value → Shared → Prop} {s : Shared} {x y : Str} {t u : Tok} {Q : Value → Shared → Prop} (hn : x ≠ y) (h : Q (.bool false) s) :
    wpAny (model prog w) A (compareOp .Eq (.str x t) (.str y u)) Q E s := PyProof.Rows.eq_str (by rw [beq_false_of_ne hn]; exact h)
/-- the five methods under their names -/
def Kind5 (m1 m2 m3 m4 m5 : Addr) (kind : Str) (M : Addr) : Prop :=
  (kind = Str.ofString "octet" ∧ M = m1) ∨ (kind = Str.ofString "integer" ∧ M = m2) ∨ (kind = Str.ofString "number" ∧ M = m3) ∨ (kind = Str.ofString "text" ∧ M = m4) ∨ (kind = Str.ofString "constant" ∧ M = m5)
theorem item_kind {prog : Program} {w : World} {A : Around} {E : Value → Shared → Prop} {s : Shared} {h₀ : Heap} {L d : Addr} {news : List (Addr × Obj)} {o : Obj} {value slice : PySem.Expr} {Q : Value → Shared → Prop}
    {kind : Str} {M q1 q2 q3 q4 q5 m1 m2 m3 m4 m5 : Addr} {self : Value} {t : Tok} (N : News h₀ L s.heap news) (hp : (d, o) ∈ news)
    (hd : o.IsDictOf (PySem.strKind prog w) [(Str.ofString "octet", .ref q1), (Str.ofString "integer", .ref q2), (Str.ofString "number", .ref q3), (Str.ofString "text", .ref q4), (Str.ofString "constant", .ref q5)])
    (c1 : (q1, methodObj (.ref m1) self) ∈ news) (c2 : (q2, methodObj (.ref m2) self) ∈ news) (c3 : (q3, methodObj (.ref m3) self) ∈ news) (c4 : (q4, methodObj (.ref m4) self) ∈ news) (c5 : (q5, methodObj (.ref m5) self) ∈ news)
    (hk : Kind5 m1 m2 m3 m4 m5 kind M) (h : ∀ q, (q, methodObj (.ref M) self) ∈ news → Q (.ref q) { s with toks := s.toks + 1 })
    (hs : subscripted slice false (.ref d) (.str kind t) = operate [.ref d, .str kind t] (getItem (.ref d) (.str kind t))) (hg : ∀ r, letTemporaryGo value (.ref d) r = pure ()) :
    wpAny (model prog w) A (subscriptTail value slice (.ref d) (.str kind t)) Q E s := by
  obtain ⟨q, hv, hm⟩ : ∃ q, PySem.valueAt [(Str.ofString "octet", Value.ref q1), (Str.ofString "integer", .ref q2), (Str.ofString "number", .ref q3), (Str.ofString "text", .ref q4), (Str.ofString "constant", .ref q5)] kind = some (.ref q) ∧ (q, methodObj (.ref M) self) ∈ news := by
    rcases hk with ⟨rfl, rfl⟩ | ⟨rfl, rfl⟩ | ⟨rfl, rfl⟩ | ⟨rfl, rfl⟩ | ⟨rfl, rfl⟩
    · exact ⟨q1, rfl, c1⟩
    · exact ⟨q2, rfl, c2⟩
    · exact ⟨q3, rfl, c3⟩
    · exact ⟨q4, rfl, c4⟩
    · exact ⟨q5, rfl, c5⟩
  exact kda_item (knd := PySem.strKind _ _) N hp hd (strKind_is _ _ _ _) hv (h q hm) hs hg
example : True := by
  k_with "compareOp Eq str str" => (k_here; (with_reducible show wpAny _ _ (compareOp CmpOp.Eq (Value.str _ _) (Value.str (PySem.Str.ofString _) _)) _ _ _); with_reducible refine eq_str_ne (by assumption) ?_)
  k_with "subscriptTail" => (k_here; (with_reducible show wpAny _ _ (subscriptTail _ _ (Value.ref _) (Value.str _ _)) _ _ _); (fail_if_success (with_reducible show wpAny _ _ (subscriptTail _ _ (Value.ref _) (Value.str (PySem.Str.ofString _) _)) _ _ _)); refine Parked.mk ?_)
  trivial
theorem put_meth {w : World} {base : Heap} {l : List Env} {p : Program} {loose : List Str} {mean : ExcName → Option Value} {mg mb : Str → Option Value} {s : Shared} {Q E : Value → Shared → Prop} {wr wd pc th : Addr} {P : Array Value} {b : List UInt8} {n nd : Nat} {ls ns : Int} {k1 k2 k3 k4 t1 t2 t5 t7 t8 : Tok} {wide sz : Int} {ok : Bool} {kind : Str} {M : Addr} {v : Value} {cond : Prop} {enc : List UInt8}
    (hM : WC w 325 125 M [v] ls ns cond enc 4 950) (hfn : fnIn (KF w.params) M = true) (hkw : kind ≠ Str.ofString "whole") (hkr : kind ≠ Str.ofString "row") (hk : Kind5 243 250 257 264 271 kind M)
    (S : Std base (At 310 50 l) l s.heap) (X : (KF w.params).In base) (T : Top p loose mean mg mb base)
    (h1 : Own base l s.heap wr (instObj 302 wd)) (h2 : Own base l s.heap wd (dictOf (wrD w ls ns pc k1 k2 k3 k4 t1 t2) nd)) (h3 : Own base l s.heap pc (listOf P n)) (h4 : Own base l s.heap th (tupO [.str kind t5, v, .int wide t7, .bool ok, .int sz t8]))
    (hne1 : wr ≠ wd) (hne2 : wr ≠ pc) (hne3 : wd ≠ pc) (hne4 : th ≠ wr) (hne5 : th ≠ wd) (hne6 : th ≠ pc) (hP : PA P b) (hPs : P.size < 900) (hzb : b.length ≤ sizeLine) (hz : (b ++ (enc)).length ≤ sizeLine)
    (hQ1 : ∀ h' tk' P' n' r x tx, cond → KeepBut [pc] s.heap h' → h'.get? pc = some (listOf P' n') → PA P' (b ++ (enc)) → P'.size ≤ P.size + 4 → h'.get? r = some (tupO [.bool true, .bytes x tx]) → x.toList = b ++ (enc) → s.heap.get? r = none → Q (.ref r) { s with heap := h', toks := tk' })
    (hQ2 : ∀ h' tk' r x tx, ¬ (cond) → Kept [] l s.heap h' → h'.get? r = some (tupO [.bool false, .bytes x tx]) → x.toList = b → s.heap.get? r = none → Q (.ref r) { s with heap := h', toks := tk' }) :
    codeAny (model PG w) (At 310 50 l) (.call (.ref 330) ⟨[.ref wr, .ref th], []⟩) (RV Q E) s := by
  refine' enter [(wr, instObj 302 wd), (wd, dictOf (wrD w ls ns pc k1 k2 k3 k4 t1 t2) nd), (pc, listOf P n), (th, tupO [.str kind t5, v, .int wide t7, .bool ok, .int sz t8])] S X T ?k1 ?k6 ?k7 ?k8 ?k9 ?kB ?_ ?c2 ?c3 ?c4 ?c5
  case k6 => k_is
  case k7 => k_is
  case k9 => exact BindsTo.of_eq rfl
  case kB => exact locs rfl
  case c5 => decide
  case c2 => exact rfl
  case c3 => exact rfl
  case c4 => exact rfl
  case k8 => exact Nat.le_of_ble_eq_true rfl
  case k1 => exact List.forall_mem_cons.mpr ⟨h1, List.forall_mem_cons.mpr ⟨h2, List.forall_mem_cons.mpr ⟨h3, List.forall_mem_cons.mpr ⟨h4, List.forall_mem_nil _⟩⟩⟩⟩
  intro g L' h₁ F' N' B' X' T' hg hL
  have S0 := S
  clear S
  (try dsimp only [RV])
  (try k_fold)
  refine absE3 (by passes_own) fun E9 hP9 hE9 => ?_
  have hne1 := neN hne1
  have hne2 := neN hne2
  have hne3 := neN hne3
  have hne4 := neN hne4
  have hne5 := neN hne5
  have hne6 := neN hne6
  k_steps
  repeat (any_goals ((first
    | ((with_reducible show Parked (wpAny _ _ (subscriptTail _ _ (Value.ref _) (Value.str _ _)) _ _ _)); refine Parked.get ?_; k_dflt (refine' item_kind ?N ?hp ?hd ?c1 ?c2 ?c3 ?c4 ?c5 ?hk ?_ ?hs ?hg; (case N => k_asm); (case hp => k_mem); (case hd => assumption); (case c1 => k_mem); (case c2 => k_mem); (case c3 => k_mem); (case c4 => k_mem); (case c5 => k_mem); (case hk => assumption); (case hs => with_unfolding_all rfl); (case hg => intro _; with_unfolding_all rfl)); with_reducible intro q9 hq9)
    | ((with_reducible show wpAny _ _ (callWith _ (Value.ref _) _ (backTo _ (starEach [_] _)) []) _ _ _); k_dflt (refine' callWith_M ?k1 ?k2 hq9 hfn ?_; (case k1 => k_asm); (case k2 => k_asm); k_whole))
    | ((with_reducible show MethP _ _ _ _ _); exact methP (by k_asm) hq9 (by k_in))
    | ((with_reducible show Parked (wpAny _ _ (call (Value.ref _) [_] _) _ _ _)); refine Parked.get ?_; k_dflt (refine' call_meth ?N9 hq9 (WC.here hM ?C ?e4 ?e5 ?m1 ?m2 ?U ?n1 ?n2 ?n3 ?hP ?hPs ?_ ?_); (case N9 => k_asm); (case C => (refine' ⟨?X, ?T, ?B, ?F, ?N, ?e2, ?hf, ?hke, ?e1, ?e3⟩; (case F => k_asm); (case N => k_asm); (case e2 => exact rfl); (case B => k_asm); (case X => k_asm); (case T => k_asm); (case hf => exact rfl); (case hke => exact rfl); (case e1 => exact rfl); (case e3 => exact rfl))); (case e4 => exact Nat.le_of_ble_eq_true rfl); (case e5 => exact Nat.le_of_ble_eq_true rfl); (case m1 => k_mem); (case m2 => k_mem); (case U => intro P' n'; k_upd); (case n1 => k_ne); (case n2 => k_ne); (case n3 => k_ne); (case hP => assumption); (case hPs => omega); k_whole); (any_goals (with_reducible intro h' tk' P' n' c1' pa' ps' F' N')); (any_goals (with_reducible intro h' tk' e' c1' th')))); all_goals k_steps))
  all_goals (rename Fr _ _ _ _ => F9)
  all_goals (rename News _ _ _ _ => N9)
  all_goals first
    | (refine hQ1 _ _ _ _ _ _ _ (by assumption) ((((keepBut_of F9 hg).drop h1.get (News.get N9 (by k_mem))).drop h2.get (News.get N9 (by k_mem))).swap.drop h4.get (News.get N9 (by k_mem))) (News.get N9 (by k_mem)) ?pa ?ps (News.get N9 (by k_mem)) ?bx (fresh_of (small := [(wr, instObj 302 wd), (wd, dictOf (wrD w ls ns pc k1 k2 k3 k4 t1 t2) nd), (pc, listOf P n), (th, tupO [.str kind t5, v, .int wide t7, .bool ok, .int sz t8])]) (News.get_none N9 (by k_mem)) hg (by simp only [List.forall_mem_cons]; exact ⟨by k_ne, by k_ne, by k_ne, by k_ne, fun _ z => nomatch z⟩)); (case pa => first | assumption | exact PAcast (by assumption) (by first | rfl | (simp only [List.append_assoc]; done) | (simp; done))); (case ps => first | omega | (simp only [Array.size_push] at *; omega)); (case bx => first | assumption | (simp only [List.append_assoc] at *; assumption)))
    | (refine hQ2 _ _ _ _ _ (by assumption) (((((kept_end F9 (by assumption) hg).drop h1.get (News.get N9 (by k_mem))).drop h2.get (News.get N9 (by k_mem))).drop h3.get (News.get N9 (by k_mem))).drop h4.get (News.get N9 (by k_mem))) (News.get N9 (by k_mem)) (by assumption) (fresh_of (small := [(wr, instObj 302 wd), (wd, dictOf (wrD w ls ns pc k1 k2 k3 k4 t1 t2) nd), (pc, listOf P n), (th, tupO [.str kind t5, v, .int wide t7, .bool ok, .int sz t8])]) (by apply_assumption; exact News.get_none N9 (by k_mem)) hg (by simp only [List.forall_mem_cons]; exact ⟨by k_ne, by k_ne, by k_ne, by k_ne, fun _ z => nomatch z⟩)))
theorem put_whole {w : World} {base : Heap} {l : List Env} {p : Program} {loose : List Str} {mean : ExcName → Option Value} {mg mb : Str → Option Value} {s : Shared} {Q E : Value → Shared → Prop} {wr wd pc th : Addr} {P : Array Value} {b : List UInt8} {n nd : Nat} {ls ns : Int} {k1 k2 k3 k4 t1 t2 t5 t7 t8 : Tok} {wide sz : Int} {ok : Bool} {value : Int} {t6 : Tok}
    (hs0 : 1 ≤ wide) (hs1 : wide ≤ 8)
    (S : Std base (At 310 50 l) l s.heap) (X : (KF w.params).In base) (T : Top p loose mean mg mb base)
    (h1 : Own base l s.heap wr (instObj 302 wd)) (h2 : Own base l s.heap wd (dictOf (wrD w ls ns pc k1 k2 k3 k4 t1 t2) nd)) (h3 : Own base l s.heap pc (listOf P n)) (h4 : Own base l s.heap th (tupO [.str (Str.ofString "whole") t5, .int value t6, .int wide t7, .bool ok, .int sz t8]))
    (hne1 : wr ≠ wd) (hne2 : wr ≠ pc) (hne3 : wd ≠ pc) (hne4 : th ≠ wr) (hne5 : th ≠ wd) (hne6 : th ≠ pc) (hP : PA P b) (hPs : P.size < 900) (hzb : b.length ≤ sizeLine) (hz : (b ++ (leB value wide)).length ≤ sizeLine)
    (hQ1 : ∀ h' tk' P' n' r x tx, 0 ≤ value ∧ value < 256 ^ wide.toNat → KeepBut [pc] s.heap h' → h'.get? pc = some (listOf P' n') → PA P' (b ++ (leB value wide)) → P'.size ≤ P.size + 4 → h'.get? r = some (tupO [.bool true, .bytes x tx]) → x.toList = b ++ (leB value wide) → s.heap.get? r = none → Q (.ref r) { s with heap := h', toks := tk' })
    (hQ2 : ∀ h' tk' r x tx, ¬ (0 ≤ value ∧ value < 256 ^ wide.toNat) → Kept [] l s.heap h' → h'.get? r = some (tupO [.bool false, .bytes x tx]) → x.toList = b → s.heap.get? r = none → Q (.ref r) { s with heap := h', toks := tk' }) :
    codeAny (model PG w) (At 310 50 l) (.call (.ref 330) ⟨[.ref wr, .ref th], []⟩) (RV Q E) s := by
  refine' enter [(wr, instObj 302 wd), (wd, dictOf (wrD w ls ns pc k1 k2 k3 k4 t1 t2) nd), (pc, listOf P n), (th, tupO [.str (Str.ofString "whole") t5, .int value t6, .int wide t7, .bool ok, .int sz t8])] S X T ?k1 ?k6 ?k7 ?k8 ?k9 ?kB ?_ ?c2 ?c3 ?c4 ?c5
  case k6 => k_is
  case k7 => k_is
  case k9 => exact BindsTo.of_eq rfl
  case kB => exact locs rfl
  case c5 => decide
  case c2 => exact rfl
  case c3 => exact rfl
  case c4 => exact rfl
  case k8 => exact Nat.le_of_ble_eq_true rfl
  case k1 => exact List.forall_mem_cons.mpr ⟨h1, List.forall_mem_cons.mpr ⟨h2, List.forall_mem_cons.mpr ⟨h3, List.forall_mem_cons.mpr ⟨h4, List.forall_mem_nil _⟩⟩⟩⟩
  intro g L' h₁ F' N' B' X' T' hg hL
  have S0 := S
  clear S
  (try dsimp only [RV])
  (try k_fold)
  refine absE3 (by passes_own) fun E9 hP9 hE9 => ?_
  have hne1 := neN hne1
  have hne2 := neN hne2
  have hne3 := neN hne3
  have hne4 := neN hne4
  have hne5 := neN hne5
  have hne6 := neN hne6
  k_steps
  repeat (any_goals ((first
    | ((with_reducible show Parked (wpAny _ _ (call (Value.ref 236) _ _) _ _ _)); refine Parked.get ?_; k_dflt (refine' wpAny_call (WC.here (wwhole ?s0 ?s1) ?C ?e4 ?e5 ?m1 ?m2 ?U ?n1 ?n2 ?n3 ?hP ?hPs ?_ ?_)); (case C => (refine' ⟨?X, ?T, ?B, ?F, ?N, ?e2, ?hf, ?hke, ?e1, ?e3⟩; (case F => k_asm); (case N => k_asm); (case e2 => exact rfl); (case B => k_asm); (case X => k_asm); (case T => k_asm); (case hf => exact rfl); (case hke => exact rfl); (case e1 => exact rfl); (case e3 => exact rfl))); (case e4 => exact Nat.le_of_ble_eq_true rfl); (case e5 => exact Nat.le_of_ble_eq_true rfl); (case m1 => k_mem); (case m2 => k_mem); (case U => intro P' n'; k_upd); (case n1 => k_ne); (case n2 => k_ne); (case n3 => k_ne); (case hP => first | assumption | exact PA_push (by assumption) _ _); (case hPs => first | omega | (simp only [Array.size_push]; omega)); (case s0 => first | assumption | omega | decide); (case s1 => first | assumption | omega | decide); k_whole; (any_goals (with_reducible intro h' tk' P' n' c1' pa' ps' F' N')); (any_goals (with_reducible intro h' tk' e' c1' th')))); all_goals k_steps))
  all_goals (rename Fr _ _ _ _ => F9)
  all_goals (rename News _ _ _ _ => N9)
  all_goals first
    | (refine hQ1 _ _ _ _ _ _ _ (by assumption) ((((keepBut_of F9 hg).drop h1.get (News.get N9 (by k_mem))).drop h2.get (News.get N9 (by k_mem))).swap.drop h4.get (News.get N9 (by k_mem))) (News.get N9 (by k_mem)) ?pa ?ps (News.get N9 (by k_mem)) ?bx (fresh_of (small := [(wr, instObj 302 wd), (wd, dictOf (wrD w ls ns pc k1 k2 k3 k4 t1 t2) nd), (pc, listOf P n), (th, tupO [.str (Str.ofString "whole") t5, .int value t6, .int wide t7, .bool ok, .int sz t8])]) (News.get_none N9 (by k_mem)) hg (by simp only [List.forall_mem_cons]; exact ⟨by k_ne, by k_ne, by k_ne, by k_ne, fun _ z => nomatch z⟩)); (case pa => first | assumption | exact PAcast (by assumption) (by first | rfl | (simp only [List.append_assoc]; done) | (simp; done))); (case ps => first | omega | (simp only [Array.size_push] at *; omega)); (case bx => first | assumption | (simp only [List.append_assoc] at *; assumption)))
    | (refine hQ2 _ _ _ _ _ (by assumption) (((((kept_end F9 (by assumption) hg).drop h1.get (News.get N9 (by k_mem))).drop h2.get (News.get N9 (by k_mem))).drop h3.get (News.get N9 (by k_mem))).drop h4.get (News.get N9 (by k_mem))) (News.get N9 (by k_mem)) (by assumption) (fresh_of (small := [(wr, instObj 302 wd), (wd, dictOf (wrD w ls ns pc k1 k2 k3 k4 t1 t2) nd), (pc, listOf P n), (th, tupO [.str (Str.ofString "whole") t5, .int value t6, .int wide t7, .bool ok, .int sz t8])]) (by apply_assumption; exact News.get_none N9 (by k_mem)) hg (by simp only [List.forall_mem_cons]; exact ⟨by k_ne, by k_ne, by k_ne, by k_ne, fun _ z => nomatch z⟩)))
/-- a comprehension whose element changes the ledger: by what holds between its turns -/
theorem comp_core {prog : Program} {w : World} {A : Around} {s : Shared} {h₀ : Heap} {L : Addr} {m : Str → Option Value} {env : Env} {elt : PySem.Expr} {x : Str} {scope : Scope} {cl : List (Str × Addr)} {S : List (Addr × Obj) → Prop} {P : Nat → Value → Prop}
    {Fin : List Value → List (Addr × Obj) → Prop} {n : Nat} {news : List (Addr × Obj)} {σ : Type} {news' : σ → List (Addr × Obj)} (st0 : σ) (J : Nat → List Value → σ → Prop) (hn : news = news' st0) (h0 : J 0 [] st0)
    (turn : ∀ i ys st v I oI C oC D m₂ h tk (E' : Value → Shared → Prop), i < n → J i ys st → P i v → LCg.NsObj oC m₂ → m₂ x = some v → Fr h₀ L h m → News h₀ L h ((I, oI) :: (C, oC) :: (D, LCg.lst ys) :: news' st) → LCg.Off3 I C D (news' st) →
      ((@Ne Nat I C) ∧ (@Ne Nat I D) ∧ (@Ne Nat C D)) →
      wpAny (model prog w) A (eval elt (compEnvC scope cl C env)) (LCg.CompEnd h₀ L m { s with heap := h, toks := tk } I oI C oC D (LCg.lst ys) S (fun y nw => ∃ st', nw = news' st' ∧ J (i + 1) (ys ++ [y]) st')) E' { s with heap := h, toks := tk })
    (fin : ∀ ys st, J n ys st → Fin ys (news' st)) : LCg.CompRest prog w A h₀ L m env elt x scope cl s S P Fin n 0 [] news := by
  have key : ∀ k i ys st, i + k = n → J i ys st → LCg.CompRest prog w A h₀ L m env elt x scope cl s S P Fin k i ys (news' st) := by
    intro k
    induction k with
    | zero => intro i ys st e j; rw [Nat.add_zero] at e; subst e; exact LCg.CompRest.zero (fin ys st j)
    | succ k ih =>
      intro i ys st e j
      refine LCg.CompRest.succ fun v I oI C oC D m₂ h tk E' hP hC hx F N off ne => ?_
      refine wpAny_mono (turn i ys st v I oI C oC D m₂ h tk E' (by omega) j hP hC hx F N off ne) (fun y s₂ h₂ => ?_) fun _ _ e => e
      obtain ⟨h', tk', nw, e1, F', N', off', hS, st', rfl, j'⟩ := h₂
      exact ⟨h', tk', _, e1, F', N', off', hS, ih (i + 1) _ st' (by omega) j'⟩
  subst hn
  exact key n 0 [] st0 (Nat.zero_add n) h0
theorem comp_st {prog : Program} {w : World} {A : Around} {s : Shared} {h₀ : Heap} {L : Addr} {m : Str → Option Value} {env : Env} {elt : PySem.Expr} {x : Str} {scope : Scope} {cl : List (Str × Addr)} {S : List (Addr × Obj) → Prop} {P : Nat → Value → Prop}
    {Fin : List Value → List (Addr × Obj) → Prop} {n : Nat} {news : List (Addr × Obj)} {σ : Type} {news' : σ → List (Addr × Obj)} {a : Addr} {o0 : Obj} (o : σ → Obj) (_U : ∀ st, Upd a o0 (o st) news (news' st)) (st0 : σ) (J : Nat → List Value → σ → Prop) (hn : news = news' st0) (h0 : J 0 [] st0)
    (turn : ∀ i ys st v I oI C oC D m₂ h tk (E' : Value → Shared → Prop), i < n → J i ys st → P i v → LCg.NsObj oC m₂ → m₂ x = some v → Fr h₀ L h m → News h₀ L h ((I, oI) :: (C, oC) :: (D, LCg.lst ys) :: news' st) → LCg.Off3 I C D (news' st) →
      ((@Ne Nat I C) ∧ (@Ne Nat I D) ∧ (@Ne Nat C D)) →
      wpAny (model prog w) A (eval elt (compEnvC scope cl C env)) (LCg.CompEnd h₀ L m { s with heap := h, toks := tk } I oI C oC D (LCg.lst ys) S (fun y nw => ∃ st', nw = news' st' ∧ J (i + 1) (ys ++ [y]) st')) E' { s with heap := h, toks := tk })
    (fin : ∀ ys st, J n ys st → Fin ys (news' st)) : LCg.CompRest prog w A h₀ L m env elt x scope cl s S P Fin n 0 [] news :=
  comp_core st0 J hn h0 turn fin
theorem comp_st2 {prog : Program} {w : World} {A : Around} {s : Shared} {h₀ : Heap} {L : Addr} {m : Str → Option Value} {env : Env} {elt : PySem.Expr} {x : Str} {scope : Scope} {cl : List (Str × Addr)} {S : List (Addr × Obj) → Prop} {P : Nat → Value → Prop}
    {Fin : List Value → List (Addr × Obj) → Prop} {n : Nat} {news : List (Addr × Obj)} {σ : Type} {news' : σ → List (Addr × Obj)} {n1 : σ → List (Addr × Obj)} {a b : Addr} {o0 p0 : Obj} (o p : σ → Obj) (_U : ∀ st, Upd a o0 (o st) news (n1 st)) (_U2 : ∀ st, Upd b p0 (p st) (n1 st) (news' st)) (st0 : σ) (J : Nat → List Value → σ → Prop) (hn : news = news' st0) (h0 : J 0 [] st0)
    (turn : ∀ i ys st v I oI C oC D m₂ h tk (E' : Value → Shared → Prop), i < n → J i ys st → P i v → LCg.NsObj oC m₂ → m₂ x = some v → Fr h₀ L h m → News h₀ L h ((I, oI) :: (C, oC) :: (D, LCg.lst ys) :: news' st) → LCg.Off3 I C D (news' st) →
      ((@Ne Nat I C) ∧ (@Ne Nat I D) ∧ (@Ne Nat C D)) →
      wpAny (model prog w) A (eval elt (compEnvC scope cl C env)) (LCg.CompEnd h₀ L m { s with heap := h, toks := tk } I oI C oC D (LCg.lst ys) S (fun y nw => ∃ st', nw = news' st' ∧ J (i + 1) (ys ++ [y]) st')) E' { s with heap := h, toks := tk })
    (fin : ∀ ys st, J n ys st → Fin ys (news' st)) : LCg.CompRest prog w A h₀ L m env elt x scope cl s S P Fin n 0 [] news :=
  comp_core st0 J hn h0 turn fin
theorem len_at {prog : Program} {w : World} {A : Around} {E : Value → Shared → Prop} {s : Shared} {l : Addr} {items : Array Value} {k : Int} {Q : Value → Shared → Prop} (hl : s.heap.IsList l items) (hk : (items.size : Int) = k) (hfit : k < 2 ^ 63)
    (h : Q (.int k (s.toks + 1)) { s with toks := s.toks + 1 + 1 }) : wpAny (model prog w) A (call (.builtin "len") [.ref l]) Q E s := by
  subst hk; exact len_list hl hfit h
theorem pow_lo {ls : Int} (h : 1 ≤ ls) : (256 : Int) ≤ 256 ^ ls.toNat := by
  obtain ⟨k, hk⟩ : ∃ k : Nat, ls.toNat = k + 1 := ⟨ls.toNat - 1, by omega⟩
  have hp : (0 : Int) < 256 ^ k := Int.pow_pos (by decide)
  rw [hk, Int.pow_succ]; omega
/-- where a turn of a loop ends -/
def StEnd {σ : Type} (h₀ : Heap) (L I : Addr) (oI : Obj) (news' : σ → List (Addr × Obj)) (Jn : (Str → Option Value) → σ → Prop) (s₁ : Shared) (Q : Flow → Shared → Prop) (f : Flow) (s : Shared) : Prop :=
  match f with
  | .ret v => Q (.ret v) s
  | .brk => Q .next s
  | _ => ∃ h' tk m' st', s = { s₁ with heap := h', toks := tk } ∧ Fr h₀ L h' m' ∧ News h₀ L h' ((I, oI) :: news' st') ∧ LCg.Off1 I (news' st') ∧ Jn m' st'
section
variable {prog : Program} {w : World} {A : Around} {s s₂ : Shared} {env : Env} {h₀ : Heap} {x : Str} {body : List Stmt} {Q : Flow → Shared → Prop} {E : Value → Shared → Prop}
theorem off1_mem {D : Addr} : ∀ {l : List (Addr × Obj)}, LCg.Off1 D l → ∀ p ∈ l, p.1 ≠ D
  | [], _, _, h => nomatch h
  | _ :: _, x, p, h => by
    rcases List.mem_cons.mp h with rfl | h
    · exact x.1
    · exact off1_mem x.2 p h
theorem off1_of {D : Addr} : ∀ {l : List (Addr × Obj)}, (∀ p ∈ l, p.1 ≠ D) → LCg.Off1 D l
  | [], _ => trivial
  | _ :: _, h => ⟨h _ List.mem_cons_self, off1_of fun p hp => h p (List.mem_cons_of_mem _ hp)⟩
theorem loop_core {σ : Type} {news' : σ → List (Addr × Obj)} {J : Nat → (Str → Option Value) → σ → Prop} {m₀ : Str → Option Value} {st0 : σ} {I : Addr} {fp : List Addr} {n : Nat} {P : Nat → Value → Prop} {St : Nat → Heap → Prop}
    (W : Walks prog w A I fp [I] n P St) (hIo : ∀ i h, St i h → ∃ o, h.get? I = some o) (hLf : env.locals ∉ fp) (hI : h₀.get? I = none) (hfp : ∀ b ∈ fp, b ≠ I → ∃ o, ∀ st, (b, o) ∈ news' st)
    (hst : St 0 s₂.heap) (F : Fr h₀ env.locals s₂.heap m₀) (N : News h₀ env.locals s₂.heap (news' st0)) (off : ∀ p ∈ news' st0, p.1 ≠ I) (hj : J 0 m₀ st0)
    (turn : ∀ i v m₁ st oI h tk, i < n → P i v → J i m₁ st → LCg.Off1 I (news' st) → Fr h₀ env.locals h (fun y => if y = x then some v else m₁ y) → News h₀ env.locals h ((I, oI) :: news' st) →
      wpAny (model prog w) A (execs body env) (StEnd h₀ env.locals I oI news' (J (i + 1)) { s₂ with heap := h, toks := tk } Q) E { s₂ with heap := h, toks := tk })
    (done : ∀ m₁ st h tk, J n m₁ st → Fr h₀ env.locals h m₁ → News h₀ env.locals h (news' st) → Q .next { s₂ with heap := h, toks := tk }) :
    LoopAtV prog w A h₀ env x body Q E (.ref I) s₂ := by
  refine ⟨I, fp, [I], n, P, St, m₀, news' st0, fun i m nw => ∃ st, nw = news' st ∧ J i m st, rfl, W, hLf, ?_, ?_, hst, F, N, ⟨st0, rfl, hj⟩, ?_, ?_⟩
  · intro b hb; rw [List.mem_singleton.mp hb]; exact hI
  · intro p hp hm; exact off p hp (List.mem_singleton.mp hm)
  · rintro i v m₁ _ s₁ own ⟨h, tk, rfl⟩ hi hP ⟨st, rfl, hJ⟩ hoff hown hget hall hst₁ F₁ N₁
    obtain ⟨oI, ho⟩ := hIo _ _ hst₁
    have hoff' : ∀ p ∈ news' st, p.1 ≠ I := fun p hp e => hoff p hp (List.mem_singleton.mpr e)
    have hLI : I ≠ env.locals := fun e => hLf (e ▸ W.sub I (List.mem_singleton.mpr rfl))
    have N₂ : News h₀ env.locals h ((I, oI) :: news' st) := fun p hp => by
      rcases List.mem_cons.mp hp with rfl | hp
      · exact ⟨ho, hLI, hI⟩
      · exact N₁ p (List.mem_append_right _ hp)
    refine wpAny_mono (turn i v m₁ st oI h tk hi hP hJ (off1_of hoff') F₁ N₂) (fun f s₃ h₃ => ?_) fun _ _ e => e
    have fin : (∃ h' tk' m' st', s₃ = { s₂ with heap := h', toks := tk' } ∧ Fr h₀ env.locals h' m' ∧ News h₀ env.locals h' ((I, oI) :: news' st') ∧ LCg.Off1 I (news' st') ∧ J (i + 1) m' st') →
        LoopStepU h₀ env.locals [I] own (fun m nw => ∃ st, nw = news' st ∧ J (i + 1) m st) { s₂ with heap := h, toks := tk } .next s₃ := by
      rintro ⟨h', tk', m', st', rfl, F', N', o', J'⟩
      refine ⟨rfl, h', tk', m', news' st', rfl, F', ?_, fun p hp e => off1_mem o' p hp (List.mem_singleton.mp e), st', rfl, J'⟩
      intro p hp
      rcases List.mem_append.mp hp with hp | hp
      · by_cases q : p.1 = I
        · have e1 := hget p hp
          rw [q] at e1
          have e2 := e1.symm.trans ho
          have e3 : p = (I, oI) := Prod.ext q (Option.some.inj e2)
          rw [e3]; exact N' _ List.mem_cons_self
        · obtain ⟨o, hmo⟩ := hfp p.1 (hown p hp) q
          have e1 := hget p hp
          have e2 := (N₁ (p.1, o) (List.mem_append_right _ (hmo st))).1
          have e3 : p = (p.1, o) := Prod.ext rfl (Option.some.inj (e1.symm.trans e2))
          rw [e3]; exact N' _ (List.mem_cons_of_mem _ (hmo st'))
      · exact N' p (List.mem_cons_of_mem _ hp)
    cases f with
    | ret v => exact .ret h₃
    | brk => exact .brk h₃
    | next => exact .next (fin h₃)
    | cont => exact .cont (fin h₃)
  · rintro h' tk m' _ F' N' _ ⟨st, rfl, hJ⟩
    exact done m' st h' tk hJ F' N'
/-- over a list that stands on the ledger and is not changed -/
theorem loop_list {σ : Type} {news : List (Addr × Obj)} {news' : σ → List (Addr × Obj)} {m₀ : Str → Option Value} {l : Addr} {vs : List Value} {n : Nat} {a : Addr} {o0 : Obj} (o : σ → Obj) (_U : ∀ st, Upd a o0 (o st) news (news' st)) (st0 : σ) (J : Nat → (Str → Option Value) → σ → Prop)
    (hh : A.handled = none) (hl : ∀ st, (l, listOf vs.toArray n) ∈ news' st) (F : Fr h₀ env.locals s.heap m₀) (N : News h₀ env.locals s.heap news) (hn : news = news' st0) (hj : J 0 m₀ st0)
    (turn : ∀ i v m₁ st I oI h tk, vs[i]? = some v → J i m₁ st → LCg.Off1 I (news' st) → Fr h₀ env.locals h (fun y => if y = x then some v else m₁ y) → News h₀ env.locals h ((I, oI) :: news' st) →
      wpAny (model prog w) A (execs body env) (StEnd h₀ env.locals I oI news' (J (i + 1)) { s with heap := h, toks := tk } Q) E { s with heap := h, toks := tk })
    (done : ∀ m₁ st h tk, J vs.length m₁ st → Fr h₀ env.locals h m₁ → News h₀ env.locals h (news' st) → Q .next { s with heap := h, toks := tk }) :
    wpAny (model prog w) A (pyIter (.ref l)) (fun it s₂ => LoopAtV prog w A h₀ env x body Q E it s₂) E s := by
  subst hn
  have hls : s.heap.IsList l vs.toArray := News.isList N (hl st0)
  have hlt : l < s.heap.objs.size := Heap.lt_size (N _ (hl st0)).1
  refine wpAny_pyIter_list hls ?_
  have W := Walks.list (prog := prog) (w := w) hh s.heap.objs.size l (Nat.ne_of_lt hlt) vs.toArray
  refine loop_core (news' := news') (J := J) (st0 := st0) W (fun i h st => by obtain ⟨o, e, _⟩ := st.1; exact ⟨o, e⟩) ?_ (next_is_new F) ?_ ⟨⟨_, Heap.get?_push_size _ rfl, rfl, rfl⟩, hls.at fun o e => Heap.get?_push_of_some _ e⟩ (F.push _) (fun p hp => ⟨Heap.get?_push_of_some _ (N p hp).1, (N p hp).2⟩)
    (fun p hp => Nat.ne_of_lt (Heap.lt_size (N p hp).1)) hj ?_ ?_
  · intro hm
    rcases List.mem_cons.mp hm with e | hm
    · exact absurd F.ns.lt (e ▸ Nat.lt_irrefl _)
    · exact (N _ (hl st0)).2.1 (List.mem_singleton.mp hm).symm
  · intro b hb hn
    rcases List.mem_cons.mp hb with e | hb
    · exact absurd e hn
    · rw [List.mem_singleton.mp hb]; exact ⟨_, hl⟩
  · intro i v m₁ st oI h tk _ hP hJ ho F₁ N₁
    exact turn i v m₁ st _ oI h tk (by simpa using hP) hJ ho F₁ N₁
  · intro m₁ st h tk hJ F₁ N₁
    rw [List.size_toArray] at hJ
    exact done m₁ st h tk hJ F₁ N₁
/-- over a range by ones -/
theorem loop_range {σ : Type} {news : List (Addr × Obj)} {news' : σ → List (Addr × Obj)} {m₀ : Str → Option Value} {r : Addr} {b : Int} {t₁ t₂ t₃ : Tok} {n : Nat} {a : Addr} {o0 : Obj} (o : σ → Obj) (_U : ∀ st, Upd a o0 (o st) news (news' st)) (st0 : σ) (J : Nat → (Str → Option Value) → σ → Prop)
    (hh : A.handled = none) (hr : IsRange s.heap r 0 b 1 t₁ t₂ t₃) (hb : b = (n : Int)) (hb1 : n < 1000000) (F : Fr h₀ env.locals s.heap m₀) (N : News h₀ env.locals s.heap news) (hn : news = news' st0) (hj : J 0 m₀ st0)
    (turn : ∀ i v m₁ st I oI h tk, i < n → (∃ t, v = Value.int (i : Int) t) → J i m₁ st → LCg.Off1 I (news' st) → Fr h₀ env.locals h (fun y => if y = x then some v else m₁ y) → News h₀ env.locals h ((I, oI) :: news' st) →
      wpAny (model prog w) A (execs body env) (StEnd h₀ env.locals I oI news' (J (i + 1)) { s with heap := h, toks := tk } Q) E { s with heap := h, toks := tk })
    (done : ∀ m₁ st h tk, J n m₁ st → Fr h₀ env.locals h m₁ → News h₀ env.locals h (news' st) → Q .next { s with heap := h, toks := tk }) :
    wpAny (model prog w) A (pyIter (.ref r)) (fun it s₂ => LoopAtV prog w A h₀ env x body Q E it s₂) E s := by
  subst hn
  have hn : Builtin.Range.rangeSize 0 b 1 = ((n : Nat) : Int) := by rw [rangeSize_nat]; omega
  refine wpAny_pyIter_range hr (small_one (by omega) (by omega) (by omega) (by omega)) ?_
  have W := LCg.range_walks (prog := prog) (w := w) (I := s.heap.objs.size) hh 0 n
  refine loop_core (news' := news') (J := J) (st0 := st0) W (fun i h st => ⟨_, st⟩) ?_ (next_is_new F) ?_ (by show IsRangeIter _ _ _ _ _; rw [hn]; simpa using Heap.get?_push_size _ rfl) (F.push _) (fun p hp => ⟨Heap.get?_push_of_some _ (N p hp).1, (N p hp).2⟩)
    (fun p hp => Nat.ne_of_lt (Heap.lt_size (N p hp).1)) hj ?_ ?_
  · intro hm; exact absurd F.ns.lt ((List.mem_singleton.mp hm) ▸ Nat.lt_irrefl _)
  · intro b hb hn; exact absurd (List.mem_singleton.mp hb) hn
  · intro i v m₁ st oI h tk hi hP hJ ho F₁ N₁
    obtain ⟨t, e⟩ := hP
    exact turn i v m₁ st _ oI h tk hi ⟨t, by rw [e, Int.zero_add]⟩ hJ ho F₁ N₁
  · exact done
/-- the same, the frame by a function of the state -/
theorem loopM_list {σ : Type} {news : List (Addr × Obj)} {news' : σ → List (Addr × Obj)} {m₀ : Str → Option Value} {l : Addr} {vs : List Value} {n : Nat} {a : Addr} {o0 : Obj} (o : σ → Obj) (U : ∀ st, Upd a o0 (o st) news (news' st)) (st0 : σ) (mm : σ → Str → Option Value) (J : Nat → σ → Prop)
    (hh : A.handled = none) (hl : ∀ st, (l, listOf vs.toArray n) ∈ news' st) (F : Fr h₀ env.locals s.heap m₀) (N : News h₀ env.locals s.heap news) (hn : news = news' st0) (hm : ∀ z, z ≠ x → m₀ z = mm st0 z) (hj : J 0 st0)
    (turn : ∀ i v st I oI h tk, vs[i]? = some v → J i st → LCg.Off1 I (news' st) → Fr h₀ env.locals h (fun y => if y = x then some v else mm st y) → News h₀ env.locals h ((I, oI) :: news' st) →
      wpAny (model prog w) A (execs body env) (StEnd h₀ env.locals I oI news' (fun m' st' => (∀ z, z ≠ x → m' z = mm st' z) ∧ J (i + 1) st') { s with heap := h, toks := tk } Q) E { s with heap := h, toks := tk })
    (done : ∀ u st h tk, J vs.length st → Fr h₀ env.locals h (fun y => if y = x then u else mm st y) → News h₀ env.locals h (news' st) → Q .next { s with heap := h, toks := tk }) :
    wpAny (model prog w) A (pyIter (.ref l)) (fun it s₂ => LoopAtV prog w A h₀ env x body Q E it s₂) E s := by
  refine loop_list o U st0 (fun i m st => (∀ z, z ≠ x → m z = mm st z) ∧ J i st) hh hl F N hn ⟨hm, hj⟩ ?_ ?_
  · rintro i v m₁ st I oI h tk hv ⟨hM, hJ⟩ ho F₁ N₁
    have e : (fun y => if y = x then some v else m₁ y) = fun y => if y = x then some v else mm st y := by
      funext y; by_cases q : y = x
      · simp only [if_pos q]
      · simp only [if_neg q]; exact hM y q
    exact turn i v st I oI h tk hv hJ ho (e ▸ F₁) N₁
  · rintro m₁ st h tk ⟨hM, hJ⟩ F₁ N₁
    have e : m₁ = fun y => if y = x then m₁ x else mm st y := by
      funext y; by_cases q : y = x
      · simp only [if_pos q]; rw [q]
      · simp only [if_neg q]; exact hM y q
    exact done (m₁ x) st h tk hJ (e ▸ F₁) N₁
theorem loopM_range {σ : Type} {news : List (Addr × Obj)} {news' : σ → List (Addr × Obj)} {m₀ : Str → Option Value} {r : Addr} {b : Int} {t₁ t₂ t₃ : Tok} {n : Nat} {a : Addr} {o0 : Obj} (o : σ → Obj) (U : ∀ st, Upd a o0 (o st) news (news' st)) (st0 : σ) (mm : σ → Str → Option Value) (J : Nat → σ → Prop)
    (hh : A.handled = none) (hr : IsRange s.heap r 0 b 1 t₁ t₂ t₃) (hb : b = (n : Int)) (hb1 : n < 1000000) (F : Fr h₀ env.locals s.heap m₀) (N : News h₀ env.locals s.heap news) (hn : news = news' st0) (hm : ∀ z, z ≠ x → m₀ z = mm st0 z) (hj : J 0 st0)
    (turn : ∀ i t st I oI h tk, i < n → J i st → LCg.Off1 I (news' st) → Fr h₀ env.locals h (fun y => if y = x then some (.int (i : Int) t) else mm st y) → News h₀ env.locals h ((I, oI) :: news' st) →
      wpAny (model prog w) A (execs body env) (StEnd h₀ env.locals I oI news' (fun m' st' => (∀ z, z ≠ x → m' z = mm st' z) ∧ J (i + 1) st') { s with heap := h, toks := tk } Q) E { s with heap := h, toks := tk })
    (done : ∀ u st h tk, J n st → Fr h₀ env.locals h (fun y => if y = x then u else mm st y) → News h₀ env.locals h (news' st) → Q .next { s with heap := h, toks := tk }) :
    wpAny (model prog w) A (pyIter (.ref r)) (fun it s₂ => LoopAtV prog w A h₀ env x body Q E it s₂) E s := by
  refine loop_range o U st0 (fun i m st => (∀ z, z ≠ x → m z = mm st z) ∧ J i st) hh hr hb hb1 F N hn ⟨hm, hj⟩ ?_ ?_
  · rintro i v m₁ st I oI h tk hi ⟨t, rfl⟩ ⟨hM, hJ⟩ ho F₁ N₁
    have e : (fun y => if y = x then some (Value.int (i : Int) t) else m₁ y) = fun y => if y = x then some (Value.int (i : Int) t) else mm st y := by
      funext y; by_cases q : y = x
      · simp only [if_pos q]
      · simp only [if_neg q]; exact hM y q
    exact turn i t st I oI h tk hi hJ ho (e ▸ F₁) N₁
  · rintro m₁ st h tk ⟨hM, hJ⟩ F₁ N₁
    have e : m₁ = fun y => if y = x then m₁ x else mm st y := by
      funext y; by_cases q : y = x
      · simp only [if_pos q]; rw [q]
      · simp only [if_neg q]; exact hM y q
    exact done (m₁ x) st h tk hJ (e ▸ F₁) N₁
/-- the same, no other name stored -/
theorem loopC_list {σ : Type} {news : List (Addr × Obj)} {news' : σ → List (Addr × Obj)} {m₀ : Str → Option Value} {l : Addr} {vs : List Value} {n : Nat} {a : Addr} {o0 : Obj} (o : σ → Obj) (st0 : σ) (J : Nat → σ → Prop)
    (F : Fr h₀ env.locals s.heap m₀) (N : News h₀ env.locals s.heap news) (U : ∀ st, Upd a o0 (o st) news (news' st)) (hh : A.handled = none) (hl : ∀ st, (l, listOf vs.toArray n) ∈ news' st) (hn : news = news' st0) (hj : J 0 st0)
    (turn : ∀ i v st I oI h tk, vs[i]? = some v → J i st → LCg.Off1 I (news' st) → Fr h₀ env.locals h (fun y => if y = x then some v else m₀ y) → News h₀ env.locals h ((I, oI) :: news' st) →
      wpAny (model prog w) A (execs body env) (StEnd h₀ env.locals I oI news' (fun m' st' => (∀ z, z ≠ x → m' z = m₀ z) ∧ J (i + 1) st') { s with heap := h, toks := tk } Q) E { s with heap := h, toks := tk })
    (done : ∀ u st h tk, J vs.length st → Fr h₀ env.locals h (fun y => if y = x then u else m₀ y) → News h₀ env.locals h (news' st) → Q .next { s with heap := h, toks := tk }) :
    wpAny (model prog w) A (pyIter (.ref l)) (fun it s₂ => LoopAtV prog w A h₀ env x body Q E it s₂) E s :=
  loopM_list o U st0 (fun _ => m₀) J hh hl F N hn (fun _ _ => rfl) hj turn done
/-- a frame: one name that lives on, some that do not, the others as they were -/
abbrev mmOf (a : Str) (v : Value) (ds : List Str) (u m₀ : Str → Option Value) : Str → Option Value := fun z => if z = a then some v else if ds.contains z = true then u z else m₀ z
theorem mmOf_eq {a : Str} {v : Value} {ds : List Str} {m m₀ : Str → Option Value} (h1 : m a = some v) (h2 : ∀ z, z ≠ a → ds.contains z = false → m z = m₀ z) : m = mmOf a v ds m m₀ := by
  funext z
  show m z = if z = a then some v else if ds.contains z = true then m z else m₀ z
  by_cases q : z = a
  · subst q; rw [if_pos rfl]; exact h1
  · rw [if_neg q]
    cases h3 : ds.contains z with
    | true => rw [if_pos rfl]
    | false => rw [if_neg Bool.false_ne_true]; exact h2 z q h3
def WEnd {σ : Type} (h₀ : Heap) (L : Addr) (nn : σ → List (Addr × Obj)) (a : Str) (v : σ → Value) (ds : List Str) (m₀ : Str → Option Value) (J : σ → Prop) (μ : σ → Nat) (st : σ) (s : Shared) (Q : Flow → Shared → Prop) (f : Flow) (s₂ : Shared) : Prop :=
  match f with
  | .ret v => Q (.ret v) s₂
  | .brk => Q .next s₂
  | _ => ∃ h' tk m' st', s₂ = { s with heap := h', toks := tk } ∧ Fr h₀ L h' m' ∧ News h₀ L h' (nn st') ∧ m' a = some (v st') ∧ (∀ z, z ≠ a → ds.contains z = false → m' z = m₀ z) ∧ J st' ∧ μ st' < μ st
theorem loop_while {σ : Type} {L : Addr} {test : PySem.Expr} {pos : Pos} {news : List (Addr × Obj)} {n1 nn : σ → List (Addr × Obj)} {m₀ : Str → Option Value} {a1 a2 : Addr} {p1 p2 : Obj} (o1 o2 : σ → Obj) (a : Str) (v : σ → Value) (ds : List Str) (J : σ → Prop) (μ : σ → Nat) (st0 : σ)
    (F : Fr h₀ L s.heap m₀) (N : News h₀ L s.heap news) (_U1 : ∀ st, Upd a1 p1 (o1 st) news (n1 st)) (_U2 : ∀ st, Upd a2 p2 (o2 st) (n1 st) (nn st)) (hn : news = nn st0) (hm : m₀ a = some (v st0)) (hj : J st0)
    (turn : ∀ st u h tk, J st → Fr h₀ L h (mmOf a (v st) ds u m₀) → News h₀ L h (nn st) → wpAny (model prog w) A (isTrue test env (eval test env)) (fun b s₂ =>
        if b = true then wpAny (model prog w) A (execs body env) (WEnd h₀ L nn a v ds m₀ J μ st s Q) E s₂ else Q .next s₂) E { s with heap := h, toks := tk })
    (hE : PassesOwn (model prog w) A env E := by passes_own) :
    wpAny (model prog w) A (exec (.While test body [] pos) env) Q E s := by
  refine While_inv2 (fun n m nx => ∃ st, nx = nn st ∧ μ st = n ∧ m a = some (v st) ∧ (∀ z, z ≠ a → ds.contains z = false → m z = m₀ z) ∧ J st) F N ⟨st0, hn, rfl, hm, fun _ _ _ => rfl, hj⟩ ?_ hE
  rintro n m₁ nx h tk F₁ N₁ ⟨st, rfl, rfl, h1, h2, hJ⟩
  refine wpAny_mono (turn st m₁ h tk hJ (mmOf_eq h1 h2 ▸ F₁) N₁) (fun b s₂ p => ?_) fun _ _ x => x
  cases b with
  | false => simpa using p
  | true =>
    simp only [if_true] at p ⊢
    refine wpAny_mono p (fun f s₃ q => ?_) fun _ _ x => x
    cases f with
    | ret v => exact q
    | brk => exact q
    | next => obtain ⟨h', tk', m', st', rfl, F', N', e1, e2, j', lt⟩ := q; exact ⟨h', tk', m', _, _, rfl, F', N', lt, st', rfl, rfl, e1, e2, j'⟩
    | cont => obtain ⟨h', tk', m', st', rfl, F', N', e1, e2, j', lt⟩ := q; exact ⟨h', tk', m', _, _, rfl, F', N', lt, st', rfl, rfl, e1, e2, j'⟩
end
example : True := by
  k_with "pyIter ref" => (k_here; refine Parked.mk ?_)
  k_with "exec While Compare cons nil" => (k_here; refine Parked.mk ?_)
  trivial
section
variable {prog : Program} {w : World} {A : Around} {s : Shared} {env : Env} {h₀ : Heap} {x : Str} {body : List Stmt} {Q : Flow → Shared → Prop} {E : Value → Shared → Prop}
abbrev frF (x a : Str) (vx : Option Value) (v : Value) (ds : List Str) (u m₀ : Str → Option Value) : Str → Option Value := fun y => if y = x then vx else mmOf a v ds u m₀ y
theorem frF_eq {a : Str} {v : Value} {ds : List Str} {m m₀ : Str → Option Value} {vx : Option Value} (h1 : m a = some v) (h2 : ∀ z, z ≠ x → z ≠ a → ds.contains z = false → m z = m₀ z) :
    (fun y => if y = x then vx else m y) = frF x a vx v ds m m₀ := by
  funext y
  show (if y = x then vx else m y) = if y = x then vx else if y = a then some v else if ds.contains y = true then m y else m₀ y
  by_cases q : y = x
  · rw [if_pos q, if_pos q]
  · rw [if_neg q, if_neg q]
    by_cases q2 : y = a
    · subst q2; rw [if_pos rfl]; exact h1
    · rw [if_neg q2]
      cases h3 : ds.contains y with
      | true => rw [if_pos rfl]
      | false => rw [if_neg Bool.false_ne_true]; exact h2 y q q2 h3
theorem frF_self {a : Str} {v : Value} {ds : List Str} {m m₀ : Str → Option Value} (h1 : m a = some v) (h2 : ∀ z, z ≠ x → z ≠ a → ds.contains z = false → m z = m₀ z) : m = frF x a (m x) v ds m m₀ := by
  rw [← frF_eq h1 h2]
  funext y
  by_cases q : y = x
  · rw [if_pos q, q]
  · rw [if_neg q]
abbrev FJ {σ : Type} (x a : Str) (v : σ → Value) (ds : List Str) (m₀ : Str → Option Value) (J : σ → Prop) : (Str → Option Value) → σ → Prop := fun m' st' => m' a = some (v st') ∧ (∀ z, z ≠ x → z ≠ a → ds.contains z = false → m' z = m₀ z) ∧ J st'
theorem loopF_range {σ : Type} {news : List (Addr × Obj)} {m₀ : Str → Option Value} {r : Addr} {b : Int} {t₁ t₂ t₃ : Tok} {n : Nat} (nn : σ → List (Addr × Obj)) (a : Str) (v : σ → Value) (ds : List Str) (st0 : σ) (J : Nat → σ → Prop)
    (F : Fr h₀ env.locals s.heap m₀) (N : News h₀ env.locals s.heap news) (hh : A.handled = none) (hr : IsRange s.heap r 0 b 1 t₁ t₂ t₃) (hb : b = (n : Int)) (hb1 : n < 1000000) (hn : news = nn st0) (hm : m₀ a = some (v st0)) (hj : J 0 st0)
    (turn : ∀ i t st u I oI h tk, i < n → J i st → LCg.Off1 I (nn st) → Fr h₀ env.locals h (frF x a (some (.int (i : Int) t)) (v st) ds u m₀) → News h₀ env.locals h ((I, oI) :: nn st) →
      wpAny (model prog w) A (execs body env) (StEnd h₀ env.locals I oI nn (FJ x a v ds m₀ (J (i + 1))) { s with heap := h, toks := tk } Q) E { s with heap := h, toks := tk })
    (done : ∀ u ux st h tk, J n st → Fr h₀ env.locals h (frF x a ux (v st) ds u m₀) → News h₀ env.locals h (nn st) → Q .next { s with heap := h, toks := tk }) :
    wpAny (model prog w) A (pyIter (.ref r)) (fun it s₂ => LoopAtV prog w A h₀ env x body Q E it s₂) E s := by
  subst hn
  have hn : Builtin.Range.rangeSize 0 b 1 = ((n : Nat) : Int) := by rw [rangeSize_nat]; omega
  refine wpAny_pyIter_range hr (small_one (by omega) (by omega) (by omega) (by omega)) ?_
  have W := LCg.range_walks (prog := prog) (w := w) (I := s.heap.objs.size) hh 0 n
  refine loop_core (news' := nn) (J := fun i => FJ x a v ds m₀ (J i)) (st0 := st0) W (fun i h st => ⟨_, st⟩) ?_ (next_is_new F) ?_ (by show IsRangeIter _ _ _ _ _; rw [hn]; simpa using Heap.get?_push_size _ rfl) (F.push _) (fun p hp => ⟨Heap.get?_push_of_some _ (N p hp).1, (N p hp).2⟩)
    (fun p hp => Nat.ne_of_lt (Heap.lt_size (N p hp).1)) ⟨hm, fun _ _ _ _ => rfl, hj⟩ ?_ ?_
  · intro hm; exact absurd F.ns.lt ((List.mem_singleton.mp hm) ▸ Nat.lt_irrefl _)
  · intro b hb hn; exact absurd (List.mem_singleton.mp hb) hn
  · rintro i v' m₁ st oI h tk hi ⟨t, e⟩ ⟨h1, h2, hJ⟩ ho F₁ N₁
    rw [e, Int.zero_add] at F₁
    exact turn i t st m₁ _ oI h tk hi hJ ho (frF_eq h1 h2 ▸ F₁) N₁
  · rintro m₁ st h tk ⟨h1, h2, hJ⟩ F₁ N₁
    exact done m₁ (m₁ x) st h tk hJ (frF_self h1 h2 ▸ F₁) N₁
theorem loopFC_range {σ : Type} {news : List (Addr × Obj)} {m₀ : Str → Option Value} {r : Addr} {b : Int} {t₁ t₂ t₃ : Tok} {n : Nat} (a : Str) (v : σ → Value) (ds : List Str) (st0 : σ) (J : Nat → σ → Prop)
    (F : Fr h₀ env.locals s.heap m₀) (N : News h₀ env.locals s.heap news) (hh : A.handled = none) (hr : IsRange s.heap r 0 b 1 t₁ t₂ t₃) (hb : b = (n : Int)) (hb1 : n < 1000000) (hm : m₀ a = some (v st0)) (hj : J 0 st0)
    (turn : ∀ i t st u I oI h tk, i < n → J i st → LCg.Off1 I news → Fr h₀ env.locals h (frF x a (some (.int (i : Int) t)) (v st) ds u m₀) → News h₀ env.locals h ((I, oI) :: news) →
      wpAny (model prog w) A (execs body env) (StEnd h₀ env.locals I oI (fun _ : σ => news) (FJ x a v ds m₀ (J (i + 1))) { s with heap := h, toks := tk } Q) E { s with heap := h, toks := tk })
    (done : ∀ u ux st h tk, J n st → Fr h₀ env.locals h (frF x a ux (v st) ds u m₀) → News h₀ env.locals h news → Q .next { s with heap := h, toks := tk }) :
    wpAny (model prog w) A (pyIter (.ref r)) (fun it s₂ => LoopAtV prog w A h₀ env x body Q E it s₂) E s :=
  loopF_range (fun _ => news) a v ds st0 J F N hh hr hb hb1 rfl hm hj turn done
/-- over a list on the ledger; two objects change, one name lives on -/
theorem loopF_list {σ : Type} {news : List (Addr × Obj)} {n1 nn : σ → List (Addr × Obj)} {m₀ : Str → Option Value} {l : Addr} {vs : List Value} {k : Nat} {a1 a2 : Addr} {p1 p2 : Obj} (o1 o2 : σ → Obj) (a : Str) (v : σ → Value) (ds : List Str) (st0 : σ) (J : Nat → σ → Prop)
    (F : Fr h₀ env.locals s.heap m₀) (N : News h₀ env.locals s.heap news) (_U1 : ∀ st, Upd a1 p1 (o1 st) news (n1 st)) (_U2 : ∀ st, Upd a2 p2 (o2 st) (n1 st) (nn st)) (hh : A.handled = none) (hl : ∀ st, (l, listOf vs.toArray k) ∈ nn st) (hn : news = nn st0) (hm : m₀ a = some (v st0)) (hj : J 0 st0)
    (turn : ∀ i x' st u I oI h tk, vs[i]? = some x' → J i st → LCg.Off1 I (nn st) → Fr h₀ env.locals h (frF x a (some x') (v st) ds u m₀) → News h₀ env.locals h ((I, oI) :: nn st) →
      wpAny (model prog w) A (execs body env) (StEnd h₀ env.locals I oI nn (FJ x a v ds m₀ (J (i + 1))) { s with heap := h, toks := tk } Q) E { s with heap := h, toks := tk })
    (done : ∀ u ux st h tk, J vs.length st → Fr h₀ env.locals h (frF x a ux (v st) ds u m₀) → News h₀ env.locals h (nn st) → Q .next { s with heap := h, toks := tk }) :
    wpAny (model prog w) A (pyIter (.ref l)) (fun it s₂ => LoopAtV prog w A h₀ env x body Q E it s₂) E s := by
  subst hn
  have hls : s.heap.IsList l vs.toArray := News.isList N (hl st0)
  have hlt : l < s.heap.objs.size := Heap.lt_size (N _ (hl st0)).1
  refine wpAny_pyIter_list hls ?_
  have W := Walks.list (prog := prog) (w := w) hh s.heap.objs.size l (Nat.ne_of_lt hlt) vs.toArray
  refine loop_core (news' := nn) (J := fun i => FJ x a v ds m₀ (J i)) (st0 := st0) W (fun i h st => by obtain ⟨o, e, _⟩ := st.1; exact ⟨o, e⟩) ?_ (next_is_new F) ?_ ⟨⟨_, Heap.get?_push_size _ rfl, rfl, rfl⟩, hls.at fun o e => Heap.get?_push_of_some _ e⟩ (F.push _) (fun p hp => ⟨Heap.get?_push_of_some _ (N p hp).1, (N p hp).2⟩)
    (fun p hp => Nat.ne_of_lt (Heap.lt_size (N p hp).1)) ⟨hm, fun _ _ _ _ => rfl, hj⟩ ?_ ?_
  · intro hm
    rcases List.mem_cons.mp hm with e | hm
    · exact absurd F.ns.lt (e ▸ Nat.lt_irrefl _)
    · exact (N _ (hl st0)).2.1 (List.mem_singleton.mp hm).symm
  · intro b hb hn
    rcases List.mem_cons.mp hb with e | hb
    · exact absurd e hn
    · rw [List.mem_singleton.mp hb]; exact ⟨_, hl⟩
  · rintro i x' m₁ st oI h tk _ hP ⟨h1, h2, hJ⟩ ho F₁ N₁
    exact turn i x' st m₁ _ oI h tk (by simpa using hP) hJ ho (frF_eq h1 h2 ▸ F₁) N₁
  · rintro m₁ st h tk ⟨h1, h2, hJ⟩ F₁ N₁
    rw [List.size_toArray] at hJ
    exact done m₁ (m₁ x) st h tk hJ (frF_self h1 h2 ▸ F₁) N₁
end
theorem put_row {w : World} {base : Heap} {l : List Env} {p : Program} {loose : List Str} {mean : ExcName → Option Value} {mg mb : Str → Option Value} {s : Shared} {Q E : Value → Shared → Prop} {wr wd pc th : Addr} {P : Array Value} {b : List UInt8} {n nd : Nat} {ls ns : Int} {k1 k2 k3 k4 t1 t2 t5 t7 t8 : Tok} {wide sz : Int} {ok : Bool} {ra : Addr} {lq : List (Int × Tok)} {nr : Nat}
    (hs0 : 1 ≤ wide) (hs1 : wide ≤ 8) (hlq : lq.length ≤ 3) (hv : ∀ p ∈ lq, 0 ≤ p.1 ∧ p.1 < 256) (hne7 : ra ≠ wr) (hne8 : ra ≠ wd) (hne9 : ra ≠ pc) (hne10 : ra ≠ th)
    (S : Std base (At 310 50 l) l s.heap) (X : (KF w.params).In base) (T : Top p loose mean mg mb base)
    (h1 : Own base l s.heap wr (instObj 302 wd)) (h2 : Own base l s.heap wd (dictOf (wrD w ls ns pc k1 k2 k3 k4 t1 t2) nd)) (h3 : Own base l s.heap pc (listOf P n)) (h4 : Own base l s.heap th (tupO [.str (Str.ofString "row") t5, .ref ra, .int wide t7, .bool ok, .int sz t8])) (h5 : Own base l s.heap ra (listOf (lq.map fun p => Value.int p.1 p.2).toArray nr))
    (hne1 : wr ≠ wd) (hne2 : wr ≠ pc) (hne3 : wd ≠ pc) (hne4 : th ≠ wr) (hne5 : th ≠ wd) (hne6 : th ≠ pc) (hP : PA P b) (hPs : P.size < 900) (hzb : b.length ≤ sizeLine) (hz : (b ++ (leB (lq.length : Int) 4 ++ (lq.map fun p => leB p.1 wide).flatten)).length ≤ sizeLine)
    (hQ1 : ∀ h' tk' P' n' r x tx, True → KeepBut [pc] s.heap h' → h'.get? pc = some (listOf P' n') → PA P' (b ++ (leB (lq.length : Int) 4 ++ (lq.map fun p => leB p.1 wide).flatten)) → P'.size ≤ P.size + 4 → h'.get? r = some (tupO [.bool true, .bytes x tx]) → x.toList = b ++ (leB (lq.length : Int) 4 ++ (lq.map fun p => leB p.1 wide).flatten) → s.heap.get? r = none → Q (.ref r) { s with heap := h', toks := tk' })
    (hQ2 : ∀ h' tk' r x tx, ¬ (True) → Kept [] l s.heap h' → h'.get? r = some (tupO [.bool false, .bytes x tx]) → x.toList = b → s.heap.get? r = none → Q (.ref r) { s with heap := h', toks := tk' }) :
    codeAny (model PG w) (At 310 50 l) (.call (.ref 330) ⟨[.ref wr, .ref th], []⟩) (RV Q E) s := by
  refine' enter [(wr, instObj 302 wd), (wd, dictOf (wrD w ls ns pc k1 k2 k3 k4 t1 t2) nd), (pc, listOf P n), (th, tupO [.str (Str.ofString "row") t5, .ref ra, .int wide t7, .bool ok, .int sz t8]), (ra, listOf (lq.map fun p => Value.int p.1 p.2).toArray nr)] S X T ?k1 ?k6 ?k7 ?k8 ?k9 ?kB ?_ ?c2 ?c3 ?c4 ?c5
  case k6 => k_is
  case k7 => k_is
  case k9 => exact BindsTo.of_eq rfl
  case kB => exact locs rfl
  case c5 => decide
  case c2 => exact rfl
  case c3 => exact rfl
  case c4 => exact rfl
  case k8 => exact Nat.le_of_ble_eq_true rfl
  case k1 => exact List.forall_mem_cons.mpr ⟨h1, List.forall_mem_cons.mpr ⟨h2, List.forall_mem_cons.mpr ⟨h3, List.forall_mem_cons.mpr ⟨h4, List.forall_mem_cons.mpr ⟨h5, List.forall_mem_nil _⟩⟩⟩⟩⟩
  intro g L' h₁ F' N' B' X' T' hg hL
  have S0 := S
  clear S
  (try dsimp only [RV])
  (try k_fold)
  refine absE3 (by passes_own) fun E9 hP9 hE9 => ?_
  have hne1 := neN hne1
  have hne2 := neN hne2
  have hne3 := neN hne3
  have hne4 := neN hne4
  have hne5 := neN hne5
  have hne6 := neN hne6
  have hne7 := neN hne7
  have hne8 := neN hne8
  have hne9 := neN hne9
  have hne10 := neN hne10
  k_steps
  repeat (any_goals ((first
    | ((with_reducible show wpAny _ _ (call (Value.builtin "len") [Value.ref _]) _ _ _); k_dflt (refine' len_at (k := (lq.length : Int)) ?k1 ?k2 ?k3 ?_; (case k1 => exact News.isList (by k_asm) (by k_mem)); (case k2 => rw [List.size_toArray, List.length_map]); (case k3 => omega)))
    | ((with_reducible show Parked (wpAny _ _ (call (Value.ref 250) _ _) _ _ _)); refine Parked.get ?_; k_dflt (refine' wpAny_call (WC.here (winteger) ?C ?e4 ?e5 ?m1 ?m2 ?U ?n1 ?n2 ?n3 ?hP ?hPs ?_ ?_)); (case C => (refine' ⟨?X, ?T, ?B, ?F, ?N, ?e2, ?hf, ?hke, ?e1, ?e3⟩; (case F => k_asm); (case N => k_asm); (case e2 => exact rfl); (case B => k_asm); (case X => k_asm); (case T => k_asm); (case hf => exact rfl); (case hke => exact rfl); (case e1 => exact rfl); (case e3 => exact rfl))); (case e4 => exact Nat.le_of_ble_eq_true rfl); (case e5 => exact Nat.le_of_ble_eq_true rfl); (case m1 => k_mem); (case m2 => k_mem); (case U => intro P' n'; k_upd); (case n1 => k_ne); (case n2 => k_ne); (case n3 => k_ne); (case hP => first | assumption | exact PA_push (by assumption) _ _); (case hPs => first | omega | (simp only [Array.size_push]; omega));  k_whole; (any_goals (with_reducible intro h' tk' P' n' c1' pa' ps' F' N')); (any_goals (with_reducible intro h' tk' e' c1' th')))); all_goals k_steps))
  rotate_left
  · exact absurd ⟨by omega, by omega⟩ (by assumption : ¬ (0 ≤ (lq.length : Int) ∧ (lq.length : Int) < 2147483648))
  · refine Parked.get ?_
    k_dflt (refine' loopC_list (σ := Array Value × Nat) (a := pc) (fun st => listOf st.1 st.2) (P', n') (fun i st => PA st.1 (b ++ (leB (lq.length : Int) 4 ++ ((lq.take i).map fun p => leB p.1 wide).flatten)) ∧ st.1.size ≤ P.size + 1 + i) ?F ?N ?U ?hh ?hl ?hn ?hj ?_ ?_; (case F => k_asm); (case N => k_asm); (case U => intro st9; k_upd); (case hh => exact rfl); (case hl => intro st9; k_mem))
    case hn => exact rfl
    case hj => exact ⟨PAcast pa' (by simp only [List.take_zero, List.map_nil, List.flatten_nil, List.append_nil]), by simpa using ps'⟩
    · rintro i9 v9 ⟨P9, n9⟩ I9 oI9 h9 tk9 hv9 ⟨hpa9, hps9⟩ off9 F9 N9
      dsimp only at *
      simp only [LCg.Off1, and_true] at off9
      obtain ⟨⟨q9, t9⟩, hp9, rfl⟩ : ∃ p, lq[i9]? = some p ∧ v9 = .int p.1 p.2 := by
        rw [List.getElem?_map] at hv9
        cases e : lq[i9]? with
        | none => rw [e] at hv9; cases hv9
        | some p => rw [e] at hv9; exact ⟨p, rfl, (Option.some.inj hv9).symm⟩
      have hg9 := hv _ (List.mem_of_getElem? hp9)
      have hi9 : i9 < lq.length := (List.getElem?_eq_some_iff.mp hp9).1
      have hpl := pow_lo hs0
      have ht9 : lq.take (i9 + 1) = lq.take i9 ++ [(q9, t9)] := by rw [List.take_add_one, hp9]; rfl
      dsimp only at *
      k_steps
      ((with_reducible show Parked (wpAny _ _ (call (Value.ref 236) _ _) _ _ _)); refine Parked.get ?_; k_dflt (refine' wpAny_call (WC.here (wwhole ?s0 ?s1) ?C ?e4 ?e5 ?m1 ?m2 ?U ?n1 ?n2 ?n3 ?hP ?hPs ?_ ?_)); (case C => (refine' ⟨?X, ?T, ?B, ?F, ?N, ?e2, ?hf, ?hke, ?e1, ?e3⟩; (case F => k_asm); (case N => k_asm); (case e2 => exact rfl); (case B => k_asm); (case X => k_asm); (case T => k_asm); (case hf => exact rfl); (case hke => exact rfl); (case e1 => exact rfl); (case e3 => exact rfl))); (case e4 => exact Nat.le_of_ble_eq_true rfl); (case e5 => exact Nat.le_of_ble_eq_true rfl); (case m1 => k_mem); (case m2 => k_mem); (case U => intro P' n'; k_upd); (case n1 => k_ne); (case n2 => k_ne); (case n3 => k_ne); (case hP => first | assumption | exact PA_push (by assumption) _ _); (case hPs => first | omega | (simp only [Array.size_push]; omega)); (case s0 => first | assumption | omega | decide); (case s1 => first | assumption | omega | decide); k_whole; (any_goals (with_reducible intro h' tk' P' n' c1' pa' ps' F' N')); (any_goals (with_reducible intro h' tk' e' c1' th')))
      rotate_left
      · exact absurd ⟨hg9.1, by omega⟩ c1'
      k_steps
      rename Fr _ _ _ _ => F8
      rename News _ _ _ _ => N8
      refine ⟨_, _, _, (P', n'), rfl, F8, N8, ?_, fun z hz => by simp only [if_neg hz], ?_, ?_⟩
      · simp only [LCg.Off1, and_true]; exact off9
      · exact PAcast pa' (by rw [ht9]; simp only [List.map_append, List.flatten_append, List.map_cons, List.map_nil, List.flatten_cons, List.flatten_nil, List.append_nil, List.append_assoc])
      · show P'.size ≤ _; omega
    · rintro u9 ⟨P9, n9⟩ h9 tk9 ⟨hpa9, hps9⟩ F9 N9
      dsimp only at *
      rw [List.length_map] at hps9
      rw [List.length_map, List.take_length] at hpa9
      k_steps
      all_goals (rename Fr _ _ _ _ => F9)
      all_goals (rename News _ _ _ _ => N9)
      all_goals first
        | (refine hQ1 _ _ _ _ _ _ _ trivial (((((keepBut_of F9 hg).drop h1.get (News.get N9 (by k_mem))).drop h2.get (News.get N9 (by k_mem))).swap.drop h4.get (News.get N9 (by k_mem))).swap.drop h5.get (News.get N9 (by k_mem))) (News.get N9 (by k_mem)) ?pa ?ps (News.get N9 (by k_mem)) ?bx (fresh_of (small := [(wr, instObj 302 wd), (wd, dictOf (wrD w ls ns pc k1 k2 k3 k4 t1 t2) nd), (pc, listOf P n), (th, tupO [.str (Str.ofString "row") t5, .ref ra, .int wide t7, .bool ok, .int sz t8]), (ra, listOf (lq.map fun p => Value.int p.1 p.2).toArray nr)]) (News.get_none N9 (by k_mem)) hg (by simp only [List.forall_mem_cons]; exact ⟨by k_ne, by k_ne, by k_ne, by k_ne, by k_ne, fun _ z => nomatch z⟩)); (case pa => first | assumption | exact PAcast (by assumption) (by first | rfl | (simp only [List.append_assoc]; done) | (simp; done))); (case ps => first | omega | (simp only [Array.size_push] at *; omega)); (case bx => first | assumption | (simp only [List.append_assoc] at *; assumption)))
        | (refine hQ2 _ _ _ _ _ (by assumption) ((((((kept_end F9 (by assumption) hg).drop h1.get (News.get N9 (by k_mem))).drop h2.get (News.get N9 (by k_mem))).drop h3.get (News.get N9 (by k_mem))).drop h4.get (News.get N9 (by k_mem))).drop h5.get (News.get N9 (by k_mem))) (News.get N9 (by k_mem)) (by assumption) (fresh_of (small := [(wr, instObj 302 wd), (wd, dictOf (wrD w ls ns pc k1 k2 k3 k4 t1 t2) nd), (pc, listOf P n), (th, tupO [.str (Str.ofString "row") t5, .ref ra, .int wide t7, .bool ok, .int sz t8]), (ra, listOf (lq.map fun p => Value.int p.1 p.2).toArray nr)]) (by apply_assumption; exact News.get_none N9 (by k_mem)) hg (by simp only [List.forall_mem_cons]; exact ⟨by k_ne, by k_ne, by k_ne, by k_ne, by k_ne, fun _ z => nomatch z⟩)))
theorem item_menu {prog : Program} {w : World} {A : Around} {E : Value → Shared → Prop} {s : Shared} {value slice : PySem.Expr} {l : Addr} {vs : List Value} {k : Int} {u : Tok} {Q : Value → Shared → Prop} (P : Int → Prop) (hl : s.heap.IsList l vs.toArray) (h0 : 0 ≤ k) (h1 : k < vs.length) (hhi : k < 2 ^ 63)
    (hi : ∀ x ∈ vs, ∃ v t, x = Value.int v t ∧ P v) (h : ∀ v t, P v → Q (.int v t) s)
    (hs : subscripted slice false (.ref l) (.int k u) = operate [.ref l, .int k u] (getItem (.ref l) (.int k u))) :
    wpAny (model prog w) A (subscriptTail value slice (.ref l) (.int k u)) Q E s := by
  have hk : k.toNat < vs.length := by omega
  obtain ⟨v, t, e, p⟩ := hi _ (List.getElem_mem hk)
  exact item_litK hl h0 hhi (by rw [List.getElem?_eq_getElem hk, e]) (h v t p) hs
theorem sub0_eq {c : Int} (h : 0 ≤ c) : ((c - 0).toNat : Int) = c := by rw [Int.sub_zero]; exact Int.toNat_of_nonneg h
theorem sub0_le {c : Int} (h : 0 ≤ c) (h4 : c < 4) : (c - 0).toNat ≤ 3 := Int.ofNat_le.mp (by rw [sub0_eq h]; exact Int.lt_add_one_iff.mp h4)
theorem row_lo {s p c : Int} (h : p = s + 1 + 1 + 1 + ((c - 0).toNat : Int)) : s ≤ p := by omega
theorem row_hi {s p c : Int} (h : p = s + 1 + 1 + 1 + ((c - 0).toNat : Int)) (h0 : 0 ≤ c) (h4 : c < 4) : p ≤ s + 10 := by rw [h, sub0_eq h0]; omega
theorem row_next {s p : Int} {i : Nat} (h : p = s + 1 + 1 + 1 + (i : Int)) : p + 1 = s + 1 + 1 + 1 + ((i + 1 : Nat) : Int) := by rw [h]; omega
theorem four_ways {c : Int} (h0 : 0 ≤ c) (h4 : c < 4) : c = 0 ∨ c = 1 ∨ c = 2 ∨ c = 3 := by omega
theorem sp_row {spot sp9 c : Int} {i : Nat} (h : sp9 = spot + 1 + 1 + 1 + (i : Int)) (h0 : 0 ≤ spot) (h1 : spot < 8000) (hi : i < (c - 0).toNat) (hc : c < 4) : 0 ≤ sp9 ∧ sp9 < 10000 := by omega
example : True := by
  k_with "subscriptTail" => (k_here; (with_reducible show wpAny _ _ (subscriptTail _ _ (Value.ref _) (Value.int _ _)) _ _ _); (fail_if_success (with_reducible show wpAny _ _ (subscriptTail _ _ (Value.ref _) (Value.int (OfNat.ofNat _) _)) _ _ _)); (fail_if_success (with_reducible show wpAny _ _ (subscriptTail (PySem.Expr.List [_, _, _, _] _) _ _ _) _ _ _)); k_dflt (refine' item_menu (fun _ => True) ?k1 ?k2 ?k3 ?k6 ?k7 ?_ ?k8; (case k1 => is_list); (case k2 => omega); (case k3 => (simp only [List.length_cons, List.length_nil]; omega)); (case k6 => omega); (case k7 => repeat (first | exact List.forall_mem_nil _ | refine' List.forall_mem_cons.mpr ⟨⟨_, _, rfl, trivial⟩, ?_⟩)); (case k8 => with_unfolding_all rfl)); intro v9 t9 _)
  k_with "subscriptTail" => (k_here; (with_reducible show wpAny _ _ (subscriptTail (PySem.Expr.Name (PySem.Str.ofString "_law_kinds") _) _ (Value.ref _) (Value.int _ _)) _ _ _); (fail_if_success (with_reducible show wpAny _ _ (subscriptTail _ _ (Value.ref _) (Value.int (OfNat.ofNat _) _)) _ _ _)); refine Parked.mk ?_)
  k_with "subscriptTail" => (k_here; (with_reducible show wpAny _ _ (subscriptTail (PySem.Expr.List [_, _, _, _] _) _ (Value.ref _) (Value.int _ _)) _ _ _); (fail_if_success (with_reducible show wpAny _ _ (subscriptTail _ _ (Value.ref _) (Value.int (OfNat.ofNat _) _)) _ _ _)); refine Parked.mk ?_)
  k_with "storeName" => (k_here; (with_reducible show wpAny _ _ (storeName _ (PySem.Str.ofString "sort") (Value.int _ _)) _ _ _); (fail_if_success (with_reducible show wpAny _ _ (storeName _ _ (Value.int (OfNat.ofNat _) _)) _ _ _)); refine Parked.mk ?_)
  k_with "CompSrc" => (refine Parked.mk ?_)
  k_with "CompEnd" => (refine Parked.mk ?_)
  trivial
theorem extra_mono {O O' : Addr → Obj → Prop} {wide : Int} {r ra : Addr} {t : Th} (h : t.extra O wide r ra) (k : ∀ a o, O a o → O' a o) : t.extra O' wide r ra := by
  cases t with
  | row vs w => obtain ⟨a, b, n, q, hq, e⟩ := h; exact ⟨a, b, n, q, k _ _ hq, e⟩
  | whole v w => exact h
  | _ => trivial
theorem thing_end {base g h' : Heap} {l : List Env} {L : Addr} {m : Str → Option Value} {nw : List (Addr × Obj)} {s : Shared} {Q : Value → Shared → Prop} {roll sl sz r ra : Addr} {o1 o2 o3 : Obj} {n : Nat} {ls nsz spot spot' wide szv : Int} {ok : Bool} {t' t5 t6 t7 t8 tk' : Tok} {t : Th}
    (hQ : ∀ h' tk' r t spot' t', Th.good ls nsz t → spot ≤ spot' → spot' ≤ spot + 10 → KeepBut [roll] s.heap h' → h'.get? roll = some (listOf #[.ref sl, .int spot' t'] n) → Th.rep (fun a o => h'.get? a = some o ∧ s.heap.get? a = none) ls nsz r t → Q (.ref r) { s with heap := h', toks := tk' })
    (h1 : Own base l s.heap roll o1) (h2 : Own base l s.heap sl o2) (h3 : Own base l s.heap sz o3) (hg : g = hideAll s.heap ([(roll, o1), (sl, o2), (sz, o3)].map (·.1))) (F : Fr g L h' m) (N : News g L h' nw)
    (mr : (r, tupO [.str (Str.ofString t.kind) t5, t.val t6 ra, .int wide t7, .bool ok, .int szv t8]) ∈ nw) (m1 : (roll, listOf #[.ref sl, .int spot' t'] n) ∈ nw) (m2 : (sl, o2) ∈ nw) (m3 : (sz, o3) ∈ nw) (n1 : r ≠ roll) (n2 : r ≠ sl) (n3 : r ≠ sz)
    (gd : t.good ls nsz) (i1 : spot ≤ spot') (i2 : spot' ≤ spot + 10) (g1 : ok = true ↔ t.fits ls nsz) (g2 : szv = t.size ls nsz) (ex : t.extra (fun a o => (a, o) ∈ nw ∧ a ≠ roll ∧ a ≠ sl ∧ a ≠ sz) wide r ra) : Q (.ref r) { s with heap := h', toks := tk' } := by
  have fr : ∀ a o, (a, o) ∈ nw → a ≠ roll → a ≠ sl → a ≠ sz → h'.get? a = some o ∧ s.heap.get? a = none := fun a o ha e1 e2 e3 => ⟨News.get N ha, fresh_of (small := [(roll, o1), (sl, o2), (sz, o3)]) (News.get_none N ha) hg (List.forall_mem_cons.mpr ⟨e1, List.forall_mem_cons.mpr ⟨e2, List.forall_mem_cons.mpr ⟨e3, List.forall_mem_nil _⟩⟩⟩)⟩
  exact hQ h' tk' r t spot' t' gd i1 i2 (((((keepBut_of F hg).swap).drop h2.get (News.get N m2)).swap).drop h3.get (News.get N m3)) (News.get N m1) ⟨t5, t6, t7, t8, wide, ok, szv, ra, fr _ _ mr n1 n2 n3, g1, g2, extra_mono ex fun a o h => fr a o h.1 h.2.1 h.2.2.1 h.2.2.2⟩
theorem thing_ctr {w : World} {base : Heap} {l : List Env} {p : Program} {loose : List Str} {mean : ExcName → Option Value} {mg mb : Str → Option Value} {s : Shared} {Q E : Value → Shared → Prop}
    {roll sl : Addr} {vs : List Value} {ns : List Int} {n n' : Nat} {spot : Int} {tk : Tok} {sz : Addr} {ls nsz : Int} {t1 t2 : Tok}
    (S : Std base (At 310 50 l) l s.heap) (X : (KF w.params).In base) (T : Top p loose mean mg mb base)
    (h1 : Own base l s.heap roll (listOf #[.ref sl, .int spot tk] n)) (h2 : Own base l s.heap sl (listOf vs.toArray n')) (h3 : Own base l s.heap sz (tupO [.int ls t1, .int nsz t2]))
    (hi : IntsAre vs ns) (hlen : ns.length ≤ 63) (hne : sl < roll) (hs0 : 0 ≤ spot) (hs1 : spot < 8000) (hl0 : 1 ≤ ls) (hl1 : ls ≤ 4) (hn0 : 1 ≤ nsz) (hn1 : nsz ≤ 8) (hne2 : roll < sz)
    (hQ : ∀ h' tk' r t spot' t', Th.good ls nsz t → spot ≤ spot' → spot' ≤ spot + 10 → KeepBut [roll] s.heap h' → h'.get? roll = some (listOf #[.ref sl, .int spot' t'] n) → Th.rep (fun a o => h'.get? a = some o ∧ s.heap.get? a = none) ls nsz r t → Q (.ref r) { s with heap := h', toks := tk' }) :
    codeAny (model PG w) (At 310 50 l) (.call (.ref 323) ⟨[.ref roll, .ref sz], []⟩) (RV Q E) s := by
  refine' enterC [(roll, listOf #[.ref sl, .int spot tk] n), (sl, listOf vs.toArray n'), (sz, tupO [.int ls t1, .int nsz t2])] S X T ?k1 ?k6 ?k7 ?k8 ?k9 ?kB ?kD ?_ ?c2 ?c3 ?c4
  case k6 => k_is
  case k7 => k_is
  case k9 => exact BindsTo.of_eq rfl
  case kB => exact rfl
  case kD => decide +kernel
  case c2 => exact rfl
  case c3 => exact rfl
  case c4 => exact rfl
  case k8 => exact Nat.le_of_ble_eq_true rfl
  case k1 => exact List.forall_mem_cons.mpr ⟨h1, List.forall_mem_cons.mpr ⟨h2, List.forall_mem_cons.mpr ⟨h3, List.forall_mem_nil _⟩⟩⟩
  intro g L' h₁ tk' cells' F' N' Y' B' X' T' hg hL l1
  k_lt l1
  k_cells Y'
  (try simp only [List.cons_append, List.nil_append] at N')
  have S0 := S
  clear S
  (try dsimp only [RV])
  (try k_fold)
  refine absE3 (by passes_own) fun E9 hP9 hE9 => ?_
  have hne := ltN hne
  have hne2 := ltN hne2
  obtain ⟨hM, hpos⟩ := half_facts hn0
  have hpl := pow_lo hl0
  k_steps
  refine Parked.get ?_
  refine' sub7 (by omega) (by omega) ?_ ?_ ?_ ?_ ?_ ?_ ?_
  · k_steps
    all_goals (rename Fr _ _ _ _ => F9)
    all_goals (rename News _ _ _ _ => N9)
    all_goals first
      | (refine' thing_end (s := s) (t := Th.whole _ _) (ra := roll) hQ h1 h2 h3 hg F9 N9 ?mr ?m1 ?m2 ?m3 ?n1 ?n2 ?n3 ?gd ?o1 ?o2 ?g1 ?g2 rfl; (case mr => k_mem); (case m1 => k_mem); (case m2 => k_mem); (case m3 => k_mem); (case n1 => k_ne); (case n2 => k_ne); (case n3 => k_ne); (case gd => exact ⟨by omega, by omega⟩); (case o1 => omega); (case o2 => omega); (case g1 => first
        | exact ⟨fun _ => trivial, fun _ => rfl⟩
        | exact ⟨fun h => ⟨by assumption, of_decide_eq_true h⟩, fun h => decide_eq_true h.2⟩
        | exact ⟨fun h => absurd h Bool.false_ne_true, fun h => absurd h.1 (by first | assumption | omega)⟩
        | exact ⟨fun h => absurd (of_decide_eq_true h) (by first | assumption | omega), fun h => absurd h.1 (by first | assumption | omega)⟩
        | exact ⟨fun _ => trivial, fun _ => decide_eq_true (by first | omega | (show ((0 : Nat) : Int) + 1 < _; omega))⟩
        | exact decide_eq_true_iff); (case g2 => first | rfl | (simp only [Th.size, List.length_cons, List.length_nil]; omega) | (rw [if_neg (by decide)]; simp only [Th.size]; omega) | (rw [if_pos (by decide)]; simp only [Th.size]; omega)))
  · k_steps
    all_goals (rename Fr _ _ _ _ => F9)
    all_goals (rename News _ _ _ _ => N9)
    all_goals first
      | (refine' thing_end (s := s) (t := Th.octet _) (ra := roll) hQ h1 h2 h3 hg F9 N9 ?mr ?m1 ?m2 ?m3 ?n1 ?n2 ?n3 ?gd ?o1 ?o2 ?g1 ?g2 trivial; (case mr => k_mem); (case m1 => k_mem); (case m2 => k_mem); (case m3 => k_mem); (case n1 => k_ne); (case n2 => k_ne); (case n3 => k_ne); (case gd => exact trivial); (case o1 => omega); (case o2 => omega); (case g1 => first
        | exact ⟨fun _ => trivial, fun _ => rfl⟩
        | exact ⟨fun h => ⟨by assumption, of_decide_eq_true h⟩, fun h => decide_eq_true h.2⟩
        | exact ⟨fun h => absurd h Bool.false_ne_true, fun h => absurd h.1 (by first | assumption | omega)⟩
        | exact ⟨fun h => absurd (of_decide_eq_true h) (by first | assumption | omega), fun h => absurd h.1 (by first | assumption | omega)⟩
        | exact ⟨fun _ => trivial, fun _ => decide_eq_true (by first | omega | (show ((0 : Nat) : Int) + 1 < _; omega))⟩
        | exact decide_eq_true_iff); (case g2 => first | rfl | (simp only [Th.size, List.length_cons, List.length_nil]; omega) | (rw [if_neg (by decide)]; simp only [Th.size]; omega) | (rw [if_pos (by decide)]; simp only [Th.size]; omega)))
  · k_steps
    all_goals (rename Fr _ _ _ _ => F9)
    all_goals (rename News _ _ _ _ => N9)
    all_goals first
      | (refine' thing_end (s := s) (t := Th.integer _) (ra := roll) hQ h1 h2 h3 hg F9 N9 ?mr ?m1 ?m2 ?m3 ?n1 ?n2 ?n3 ?gd ?o1 ?o2 ?g1 ?g2 trivial; (case mr => k_mem); (case m1 => k_mem); (case m2 => k_mem); (case m3 => k_mem); (case n1 => k_ne); (case n2 => k_ne); (case n3 => k_ne); (case gd => exact trivial); (case o1 => omega); (case o2 => omega); (case g1 => first
        | exact ⟨fun _ => trivial, fun _ => rfl⟩
        | exact ⟨fun h => ⟨by assumption, of_decide_eq_true h⟩, fun h => decide_eq_true h.2⟩
        | exact ⟨fun h => absurd h Bool.false_ne_true, fun h => absurd h.1 (by first | assumption | omega)⟩
        | exact ⟨fun h => absurd (of_decide_eq_true h) (by first | assumption | omega), fun h => absurd h.1 (by first | assumption | omega)⟩
        | exact ⟨fun _ => trivial, fun _ => decide_eq_true (by first | omega | (show ((0 : Nat) : Int) + 1 < _; omega))⟩
        | exact decide_eq_true_iff); (case g2 => first | rfl | (simp only [Th.size, List.length_cons, List.length_nil]; omega) | (rw [if_neg (by decide)]; simp only [Th.size]; omega) | (rw [if_pos (by decide)]; simp only [Th.size]; omega)))
  · k_steps
    all_goals (rename Fr _ _ _ _ => F9)
    all_goals (rename News _ _ _ _ => N9)
    all_goals first
      | (refine' thing_end (s := s) (t := Th.number _) (ra := roll) hQ h1 h2 h3 hg F9 N9 ?mr ?m1 ?m2 ?m3 ?n1 ?n2 ?n3 ?gd ?o1 ?o2 ?g1 ?g2 trivial; (case mr => k_mem); (case m1 => k_mem); (case m2 => k_mem); (case m3 => k_mem); (case n1 => k_ne); (case n2 => k_ne); (case n3 => k_ne); (case gd => exact trivial); (case o1 => omega); (case o2 => omega); (case g1 => first
        | exact ⟨fun _ => trivial, fun _ => rfl⟩
        | exact ⟨fun h => ⟨by assumption, of_decide_eq_true h⟩, fun h => decide_eq_true h.2⟩
        | exact ⟨fun h => absurd h Bool.false_ne_true, fun h => absurd h.1 (by first | assumption | omega)⟩
        | exact ⟨fun h => absurd (of_decide_eq_true h) (by first | assumption | omega), fun h => absurd h.1 (by first | assumption | omega)⟩
        | exact ⟨fun _ => trivial, fun _ => decide_eq_true (by first | omega | (show ((0 : Nat) : Int) + 1 < _; omega))⟩
        | exact decide_eq_true_iff); (case g2 => first | rfl | (simp only [Th.size, List.length_cons, List.length_nil]; omega) | (rw [if_neg (by decide)]; simp only [Th.size]; omega) | (rw [if_pos (by decide)]; simp only [Th.size]; omega)))
  · k_steps
    all_goals (rename Fr _ _ _ _ => F9)
    all_goals (rename News _ _ _ _ => N9)
    all_goals first
      | (refine' thing_end (s := s) (t := Th.textN) (t6 := t1) (ra := roll) hQ h1 h2 h3 hg F9 N9 ?mr ?m1 ?m2 ?m3 ?n1 ?n2 ?n3 ?gd ?o1 ?o2 ?g1 ?g2 trivial; (case mr => k_mem); (case m1 => k_mem); (case m2 => k_mem); (case m3 => k_mem); (case n1 => k_ne); (case n2 => k_ne); (case n3 => k_ne); (case gd => exact trivial); (case o1 => omega); (case o2 => omega); (case g1 => first
        | exact ⟨fun _ => trivial, fun _ => rfl⟩
        | exact ⟨fun h => ⟨by assumption, of_decide_eq_true h⟩, fun h => decide_eq_true h.2⟩
        | exact ⟨fun h => absurd h Bool.false_ne_true, fun h => absurd h.1 (by first | assumption | omega)⟩
        | exact ⟨fun h => absurd (of_decide_eq_true h) (by first | assumption | omega), fun h => absurd h.1 (by first | assumption | omega)⟩
        | exact ⟨fun _ => trivial, fun _ => decide_eq_true (by first | omega | (show ((0 : Nat) : Int) + 1 < _; omega))⟩
        | exact decide_eq_true_iff); (case g2 => first | rfl | (simp only [Th.size, List.length_cons, List.length_nil]; omega) | (rw [if_neg (by decide)]; simp only [Th.size]; omega) | (rw [if_pos (by decide)]; simp only [Th.size]; omega)))
      | (refine' thing_end (s := s) (t := Th.text _) (ra := roll) hQ h1 h2 h3 hg F9 N9 ?mr ?m1 ?m2 ?m3 ?n1 ?n2 ?n3 ?gd ?o1 ?o2 ?g1 ?g2 trivial; (case mr => k_mem); (case m1 => k_mem); (case m2 => k_mem); (case m3 => k_mem); (case n1 => k_ne); (case n2 => k_ne); (case n3 => k_ne); (case gd => exact by assumption); (case o1 => omega); (case o2 => omega); (case g1 => first
        | exact ⟨fun _ => trivial, fun _ => rfl⟩
        | exact ⟨fun h => ⟨by assumption, of_decide_eq_true h⟩, fun h => decide_eq_true h.2⟩
        | exact ⟨fun h => absurd h Bool.false_ne_true, fun h => absurd h.1 (by first | assumption | omega)⟩
        | exact ⟨fun h => absurd (of_decide_eq_true h) (by first | assumption | omega), fun h => absurd h.1 (by first | assumption | omega)⟩
        | exact ⟨fun _ => trivial, fun _ => decide_eq_true (by first | omega | (show ((0 : Nat) : Int) + 1 < _; omega))⟩
        | exact decide_eq_true_iff); (case g2 => first | rfl | (simp only [Th.size, List.length_cons, List.length_nil]; omega) | (rw [if_neg (by decide)]; simp only [Th.size]; omega) | (rw [if_pos (by decide)]; simp only [Th.size]; omega)))
  · k_steps
    refine Parked.get ?_
    have q := four_ways (c := c9) (by assumption) (by assumption)
    rcases q with q | q | q | q
    all_goals subst q
    all_goals k_steps
    all_goals try refine Parked.get ?_
    all_goals try ((with_reducible show wpAny _ _ (subscriptTail _ _ _ _) _ _ _); k_dflt (refine' item_menu (fun v => -(((256 : Int) ^ nsz.toNat).fdiv 2) ≤ v ∧ v < ((256 : Int) ^ nsz.toNat).fdiv 2) ?k1 ?k2 ?k3 ?k6 ?k7 ?_ ?k8; (case k1 => is_list); (case k2 => omega); (case k3 => (simp only [List.length_cons, List.length_nil]; omega)); (case k6 => omega); (case k7 => repeat (first | exact List.forall_mem_nil _ | refine' List.forall_mem_cons.mpr ⟨⟨_, _, rfl, by omega, by omega⟩, ?_⟩)); (case k8 => with_unfolding_all rfl)); intro v9 t9 v91; k_steps)
    all_goals (rename Fr _ _ _ _ => F9)
    all_goals (rename News _ _ _ _ => N9)
    all_goals first
      | (refine' thing_end (s := s) (t := Th.cN) (t6 := t1) (ra := roll) hQ h1 h2 h3 hg F9 N9 ?mr ?m1 ?m2 ?m3 ?n1 ?n2 ?n3 ?gd ?o1 ?o2 ?g1 ?g2 trivial; (case mr => k_mem); (case m1 => k_mem); (case m2 => k_mem); (case m3 => k_mem); (case n1 => k_ne); (case n2 => k_ne); (case n3 => k_ne); (case gd => exact trivial); (case o1 => omega); (case o2 => omega); (case g1 => first
        | exact ⟨fun _ => trivial, fun _ => rfl⟩
        | exact ⟨fun h => ⟨by assumption, of_decide_eq_true h⟩, fun h => decide_eq_true h.2⟩
        | exact ⟨fun h => absurd h Bool.false_ne_true, fun h => absurd h.1 (by first | assumption | omega)⟩
        | exact ⟨fun h => absurd (of_decide_eq_true h) (by first | assumption | omega), fun h => absurd h.1 (by first | assumption | omega)⟩
        | exact ⟨fun _ => trivial, fun _ => decide_eq_true (by first | omega | (show ((0 : Nat) : Int) + 1 < _; omega))⟩
        | exact decide_eq_true_iff); (case g2 => first | rfl | (simp only [Th.size, List.length_cons, List.length_nil]; omega) | (rw [if_neg (by decide)]; simp only [Th.size]; omega) | (rw [if_pos (by decide)]; simp only [Th.size]; omega)))
      | (refine' thing_end (s := s) (t := Th.cB _) (t6 := t1) (ra := roll) hQ h1 h2 h3 hg F9 N9 ?mr ?m1 ?m2 ?m3 ?n1 ?n2 ?n3 ?gd ?o1 ?o2 ?g1 ?g2 trivial; (case mr => k_mem); (case m1 => k_mem); (case m2 => k_mem); (case m3 => k_mem); (case n1 => k_ne); (case n2 => k_ne); (case n3 => k_ne); (case gd => exact trivial); (case o1 => omega); (case o2 => omega); (case g1 => first
        | exact ⟨fun _ => trivial, fun _ => rfl⟩
        | exact ⟨fun h => ⟨by assumption, of_decide_eq_true h⟩, fun h => decide_eq_true h.2⟩
        | exact ⟨fun h => absurd h Bool.false_ne_true, fun h => absurd h.1 (by first | assumption | omega)⟩
        | exact ⟨fun h => absurd (of_decide_eq_true h) (by first | assumption | omega), fun h => absurd h.1 (by first | assumption | omega)⟩
        | exact ⟨fun _ => trivial, fun _ => decide_eq_true (by first | omega | (show ((0 : Nat) : Int) + 1 < _; omega))⟩
        | exact decide_eq_true_iff); (case g2 => first | rfl | (simp only [Th.size, List.length_cons, List.length_nil]; omega) | (rw [if_neg (by decide)]; simp only [Th.size]; omega) | (rw [if_pos (by decide)]; simp only [Th.size]; omega)))
      | (refine' thing_end (s := s) (t := Th.cT _) (ra := roll) hQ h1 h2 h3 hg F9 N9 ?mr ?m1 ?m2 ?m3 ?n1 ?n2 ?n3 ?gd ?o1 ?o2 ?g1 ?g2 trivial; (case mr => k_mem); (case m1 => k_mem); (case m2 => k_mem); (case m3 => k_mem); (case n1 => k_ne); (case n2 => k_ne); (case n3 => k_ne); (case gd => exact (by first | exact Nat.zero_le _ | (show _ ≤ 200; omega))); (case o1 => omega); (case o2 => omega); (case g1 => first
        | exact ⟨fun _ => trivial, fun _ => rfl⟩
        | exact ⟨fun h => ⟨by assumption, of_decide_eq_true h⟩, fun h => decide_eq_true h.2⟩
        | exact ⟨fun h => absurd h Bool.false_ne_true, fun h => absurd h.1 (by first | assumption | omega)⟩
        | exact ⟨fun h => absurd (of_decide_eq_true h) (by first | assumption | omega), fun h => absurd h.1 (by first | assumption | omega)⟩
        | exact ⟨fun _ => trivial, fun _ => decide_eq_true (by first | omega | (show ((0 : Nat) : Int) + 1 < _; omega))⟩
        | exact decide_eq_true_iff); (case g2 => first | rfl | (simp only [Th.size, List.length_cons, List.length_nil]; omega) | (rw [if_neg (by decide)]; simp only [Th.size]; omega) | (rw [if_pos (by decide)]; simp only [Th.size]; omega)))
      | (refine' thing_end (s := s) (t := Th.cI _) (ra := roll) hQ h1 h2 h3 hg F9 N9 ?mr ?m1 ?m2 ?m3 ?n1 ?n2 ?n3 ?gd ?o1 ?o2 ?g1 ?g2 trivial; (case mr => k_mem); (case m1 => k_mem); (case m2 => k_mem); (case m3 => k_mem); (case n1 => k_ne); (case n2 => k_ne); (case n3 => k_ne); (case gd => exact v91); (case o1 => omega); (case o2 => omega); (case g1 => first
        | exact ⟨fun _ => trivial, fun _ => rfl⟩
        | exact ⟨fun h => ⟨by assumption, of_decide_eq_true h⟩, fun h => decide_eq_true h.2⟩
        | exact ⟨fun h => absurd h Bool.false_ne_true, fun h => absurd h.1 (by first | assumption | omega)⟩
        | exact ⟨fun h => absurd (of_decide_eq_true h) (by first | assumption | omega), fun h => absurd h.1 (by first | assumption | omega)⟩
        | exact ⟨fun _ => trivial, fun _ => decide_eq_true (by first | omega | (show ((0 : Nat) : Int) + 1 < _; omega))⟩
        | exact decide_eq_true_iff); (case g2 => first | rfl | (simp only [Th.size, List.length_cons, List.length_nil]; omega) | (rw [if_neg (by decide)]; simp only [Th.size]; omega) | (rw [if_pos (by decide)]; simp only [Th.size]; omega)))
  · k_steps
    refine Parked.get ?_
    k_dflt (refine' LCg.CompSrc.range ?k1 ?k2 ?k3 ?k4 ?k5 ?k6 ?k7 ?_; (case k1 => exact rfl); (case k2 => k_asm); (case k3 => k_asm); (case k4 => assumption); (case k5 => exact small_one (by omega) (by omega) (by omega) (by omega)); (case k6 => exact rangeSize_nat _ _); (case k7 => rw [PySem.sizeLine_eq]; omega))
    intro g9
    refine' comp_st (σ := Int × Tok) (a := roll) (fun st => listOf #[.ref sl, .int st.1 st.2] n) ?U (spot + 1 + 1 + 1, _) (fun i ys st => st.1 = spot + 1 + 1 + 1 + (i : Int) ∧ ∃ lq : List (Int × Tok), ys = lq.map (fun p => Value.int p.1 p.2) ∧ lq.length = i ∧ ∀ p ∈ lq, 0 ≤ p.1 ∧ p.1 < 256) ?hn ?h0 ?_ ?_
    case U => intro st9; k_upd
    case hn => exact rfl
    case h0 => exact ⟨(Int.add_zero _).symm, [], rfl, rfl, fun _ z => nomatch z⟩
    · rintro i9 ys9 ⟨sp9, tq9⟩ v9 I9 oI9 C9 oC9 D9 m9 h9 tk9 E9 hi9 ⟨he9, lq9, rfl, hl9, hg9⟩ ⟨_, rfl⟩ hC9 hx9 F9 N9 off9 ne9
      dsimp only at *
      simp only [LCg.Off3, and_true] at off9
      have qI : @Ne Nat roll I9 := by first | exact off9.1.1 | exact off9.2.1.1 | exact off9.2.2.1.1 | exact off9.2.2.2.1.1 | exact off9.2.2.2.2.1.1 | exact off9.2.2.2.2.2.1.1 | exact off9.2.2.2.2.2.2.1.1 | exact off9.2.2.2.2.2.2.2.1.1 | exact off9.2.2.2.2.2.2.2.2.1.1 | exact off9.2.2.2.2.2.2.2.2.2.1.1 | exact off9.2.2.2.2.2.2.2.2.2.2.1.1 | exact off9.2.2.2.2.2.2.2.2.2.2.2.1.1
      have qC : @Ne Nat roll C9 := by first | exact off9.1.2.1 | exact off9.2.1.2.1 | exact off9.2.2.1.2.1 | exact off9.2.2.2.1.2.1 | exact off9.2.2.2.2.1.2.1 | exact off9.2.2.2.2.2.1.2.1 | exact off9.2.2.2.2.2.2.1.2.1 | exact off9.2.2.2.2.2.2.2.1.2.1 | exact off9.2.2.2.2.2.2.2.2.1.2.1 | exact off9.2.2.2.2.2.2.2.2.2.1.2.1 | exact off9.2.2.2.2.2.2.2.2.2.2.1.2.1 | exact off9.2.2.2.2.2.2.2.2.2.2.2.1.2.1
      have qD : @Ne Nat roll D9 := by first | exact off9.1.2.2 | exact off9.2.1.2.2 | exact off9.2.2.1.2.2 | exact off9.2.2.2.1.2.2 | exact off9.2.2.2.2.1.2.2 | exact off9.2.2.2.2.2.1.2.2 | exact off9.2.2.2.2.2.2.1.2.2 | exact off9.2.2.2.2.2.2.2.1.2.2 | exact off9.2.2.2.2.2.2.2.2.1.2.2 | exact off9.2.2.2.2.2.2.2.2.2.1.2.2 | exact off9.2.2.2.2.2.2.2.2.2.2.1.2.2 | exact off9.2.2.2.2.2.2.2.2.2.2.2.1.2.2
      obtain ⟨hs09, hs19⟩ := sp_row he9 hs0 hs1 hi9 (by assumption)
      k_steps
      refine Parked.get ?_
      rename News _ _ _ _ => N8
      refine' LCg.CompEnd.intro ?F8 N8 _ ?sub ?off trivial ⟨(sp9 + 1, _), rfl, ?_, lq9 ++ [(c9, t9)], ?_, ?_, ?_⟩
      case F8 => k_asm
      case sub => kcf_all
      case off => simp only [LCg.Off3, and_true]; exact off9
      · exact row_next he9
      · rw [List.map_append]; rfl
      · rw [List.length_append, hl9]; rfl
      · intro p hp
        rcases List.mem_append.mp hp with hp | hp
        · exact hg9 p hp
        · cases List.mem_singleton.mp hp; exact ⟨c90, c91⟩
    · rintro ys9 ⟨sp9, tq9⟩ ⟨he9, lq9, rfl, hl9, hg9⟩
      dsimp only at *
      k_steps
      k_dflt (refine' len_at (k := c9) ?k1 ?k2 ?k3 ?_; (case k1 => is_list); (case k2 => (simp only [List.size_toArray, List.length_map, hl9]; exact sub0_eq (by assumption))); (case k3 => omega))
      k_steps
      all_goals (rename Fr _ _ _ _ => F9)
      all_goals (rename News _ _ _ _ => N9)
      all_goals first
        | (refine' thing_end (s := s) (t := Th.row (lq9.map (·.1)) _) (t6 := t1) hQ h1 h2 h3 hg F9 N9 ?mr ?m1 ?m2 ?m3 ?n1 ?n2 ?n3 ?gd ?o1 ?o2 ?g1 ?g2 ⟨rfl, ?x1, _, lq9, ⟨?x2, ?x3, ?x4, ?x5⟩, rfl⟩; (case mr => k_mem); (case m1 => k_mem); (case m2 => k_mem); (case m3 => k_mem); (case n1 => k_ne); (case n2 => k_ne); (case n3 => k_ne); (case x2 => k_mem); (case x1 => k_ne); (case x3 => k_ne); (case x4 => k_ne); (case x5 => k_ne); (case gd => exact ⟨by omega, by omega, by rw [List.length_map, hl9]; exact sub0_le (by assumption) (by assumption), fun v hv => by obtain ⟨p, hp, rfl⟩ := List.mem_map.mp hv; exact hg9 p hp⟩); (case o1 => exact row_lo he9); (case o2 => exact row_hi he9 (by assumption) (by assumption)); (case g1 => exact ⟨fun _ => trivial, fun _ => rfl⟩); (case g2 => (simp only [Th.size, List.length_map, hl9]; rw [sub0_eq (by assumption)])))
abbrev rdD (w : World) (x : Array UInt8) (tx : Tok) (at_ : Int) (ta : Tok) (mv : Value) (wd ls ns : Int) (nm : Array UInt8) (k1 k2 k3 k4 k5 k6 k7 k8 k9 v3 v4 v5 v6 v7 v9 : Tok) : List DictEntry :=
  [kE w "data" k1 (.bytes x tx), kE w "more" k2 mv, kE w "width" k3 (.int wd v3), kE w "most_deep" k4 (.int 9 v4), kE w "name" k5 (.bytes nm v5), kE w "length_size" k6 (.int ls v6), kE w "number_size" k7 (.int ns v7), kE w "at" k8 (.int at_ ta), kE w "depth" k9 (.int 0 v9)]
def HDi (w : World) (o : Obj) (left : Array UInt8) (given : Int) : Prop := ∃ tl tg : Tok, o.IsDictOf (PySem.strKind PG w) [(Str.ofString "left", Value.bytes left tl), (Str.ofString "given", .int given tg)]
/-- the closure that brings the next piece -/
def MoreC (w : World) (mf hd : Addr) (step : Int) (xs : List (Addr × Obj)) : Prop :=
  ∀ (base : Heap) (l : List Env) (p : Program) (loose : List Str) (mean : ExcName → Option Value) (mg mb : Str → Option Value) (s : Shared) (Q E : Value → Shared → Prop)
    (left : Array UInt8) (given : Int) (dv : Tok) (oh : Obj),
    Std base (At 380 400 l) l s.heap → (KF w.params).In base → Top p loose mean mg mb base → (∀ q ∈ xs, Own base l s.heap q.1 q.2) → Own base l s.heap hd oh → HDi w oh left given →
    left.size ≤ 100000 → 0 ≤ given → given ≤ 100000 →
    (∀ h' tk' piece left' tp oh', piece.toList = left.toList.take step.toNat → left'.toList = left.toList.drop step.toNat → KeepBut [hd] s.heap h' →
      h'.get? hd = some oh' → HDi w oh' left' (given + (piece.size : Int)) → Q (.bytes piece tp) { s with heap := h', toks := tk' }) →
    codeAny (model PG w) (At 380 400 l) (.call (.ref mf) ⟨[.int 0 dv], []⟩) (RV Q E) s
def dseq : Data → Bool
  | .seq _ => true
  | _ => false
def RX (w : World) (base : Heap) (l : List Env) (h : Heap) (rd rdd hd : Addr) (mv : Value) (step : Int) : Prop :=
  mv = .none ∨ ∃ mf xs oc od fd sl, mv = .ref mf ∧ (mf, (⟨oc, od, .func fd, sl⟩ : Obj)) ∈ xs ∧ (∀ q ∈ xs, dseq q.2.data = false) ∧ (∀ q ∈ xs, Own base l h q.1 q.2 ∧ q.1 ≠ rd ∧ q.1 ≠ rdd ∧ q.1 ≠ hd) ∧ MoreC w mf hd step xs
theorem own_deep {base g h0 h : Heap} {l : List Env} {env : Env} {L a : Addr} {o : Obj} {m : Str → Option Value} {small : List (Addr × Obj)} (O : Own base l h0 a o) (F : Fr g L h m) (hg : g = hideAll h0 (small.map (·.1))) (hL : h0.objs.size ≤ L) (hf : env.frame = some L)
    (hn : a ∉ small.map (·.1)) : Own base (env :: l) h a o := by
  subst hg
  refine ⟨F.keep _ _ (hideAll_get _ O.get hn), O.off, fun hm => ?_⟩
  rw [List.filterMap_cons, hf] at hm
  rcases List.mem_cons.mp hm with rfl | hm
  · exact absurd (Heap.lt_size O.get) (Nat.not_lt.mpr hL)
  · exact O.apart hm
theorem RX.deep {w : World} {base g h0 h : Heap} {l : List Env} {env : Env} {L rd rdd hd : Addr} {mv : Value} {step : Int} {m : Str → Option Value} {o1 o2 o3 : Obj} (R : RX w base l h0 rd rdd hd mv step) (F : Fr g L h m)
    (hg : g = hideAll h0 ([(rd, o1), (rdd, o2), (hd, o3)].map (·.1))) (hL : h0.objs.size ≤ L) (hf : env.frame = some L) : RX w base (env :: l) h rd rdd hd mv step := by
  rcases R with R | ⟨mf, xs, oc, od, fd, sl, e, hm, hxt, hx, hM⟩
  · exact .inl R
  · refine .inr ⟨mf, xs, oc, od, fd, sl, e, hm, hxt, fun q hq => ?_, hM⟩
    obtain ⟨o, n1, n2, n3⟩ := hx q hq
    refine ⟨own_deep o F hg hL hf fun hm => ?_, n1, n2, n3⟩
    rcases List.mem_cons.mp hm with z | hm
    · exact n1 z
    · rcases List.mem_cons.mp hm with z | hm
      · exact n2 z
      · exact n3 (List.mem_singleton.mp hm)
theorem RX.deep4 {w : World} {base g h0 h : Heap} {l : List Env} {env : Env} {L rd rdd hd th : Addr} {mv : Value} {step : Int} {m : Str → Option Value} {o1 o2 o3 o4 : Obj} (R : RX w base l h0 rd rdd hd mv step) (O4 : Own base l h0 th o4) (ht : dseq o4.data = true) (F : Fr g L h m)
    (hg : g = hideAll h0 ([(rd, o1), (rdd, o2), (hd, o3), (th, o4)].map (·.1))) (hL : h0.objs.size ≤ L) (hf : env.frame = some L) : RX w base (env :: l) h rd rdd hd mv step := by
  rcases R with R | ⟨mf, xs, oc, od, fd, sl, e, hm, hxt, hx, hM⟩
  · exact .inl R
  · refine .inr ⟨mf, xs, oc, od, fd, sl, e, hm, hxt, fun q hq => ?_, hM⟩
    obtain ⟨o, n1, n2, n3⟩ := hx q hq
    refine ⟨own_deep o F hg hL hf fun hm => ?_, n1, n2, n3⟩
    rcases List.mem_cons.mp hm with z | hm
    · exact n1 z
    · rcases List.mem_cons.mp hm with z | hm
      · exact n2 z
      · rcases List.mem_cons.mp hm with z | hm
        · exact n3 z
        · have z := List.mem_singleton.mp hm
          have e1 := o.get
          rw [show q.1 = th from z, O4.get] at e1
          have e2 := hxt q hq
          rw [← Option.some.inj e1, ht] at e2
          cases e2
structure RS (x : Array UInt8) (at_ : Int) (left : Array UInt8) (given : Int) (mv : Value) (nm : Array UInt8) (step : Int) : Prop where
  a0 : 0 ≤ at_
  a1 : at_ ≤ (x.size : Int)
  z : x.size + left.size ≤ 100000
  g0 : 0 ≤ given
  g1 : given + (left.size : Int) ≤ 100000
  g2 : (x.size : Int) - at_ ≤ given
  no : mv = .none → left = #[]
  n1 : nm.size ≤ 100
  s0 : 1 ≤ step
  s1 : step ≤ 100000
abbrev rem (x : Array UInt8) (at_ : Int) (left : Array UInt8) : List UInt8 := x.toList.drop at_.toNat ++ left.toList
/-- a method of the reader: what it takes, what it gives; at the end of the octets it refuses -/
def RCx (w : World) (dp un : Nat) (f : Addr) (as : List Value) (wd ls ns : Int) (ok : List UInt8 → Prop) (bad : Prop) (post : Array UInt8 → Int → Prop) (e : List UInt8) (res : Tok → Value) : Prop :=
  ∀ (base : Heap) (l : List Env) (p : Program) (loose : List Str) (mean : ExcName → Option Value) (mg mb : Str → Option Value) (s : Shared) (Q E : Value → Shared → Prop)
    (rd rdd hd : Addr) (x left nm : Array UInt8) (at_ given step : Int) (mv : Value) (oh : Obj) (tx ta k1 k2 k3 k4 k5 k6 k7 k8 k9 v3 v4 v5 v6 v7 v9 : Tok) (rest : List UInt8),
    Std base (At dp un l) l s.heap → (KF w.params).In base → Top p loose mean mg mb base →
    Own base l s.heap rd (instObj 213 rdd) → Own base l s.heap rdd (dictOf (rdD w x tx at_ ta mv wd ls ns nm k1 k2 k3 k4 k5 k6 k7 k8 k9 v3 v4 v5 v6 v7 v9) 9) → Own base l s.heap hd oh → HDi w oh left given →
    rd ≠ rdd → rd ≠ hd → rdd ≠ hd → RX w base l s.heap rd rdd hd mv step → RS x at_ left given mv nm step → ((ok (rem x at_ left) ∧ rem x at_ left = e ++ rest) ∨ (rem x at_ left = [] ∧ bad)) →
    (∀ h' tk' x' tx' at' ta' left' oh' given' t, post x' at' → rem x at_ left = e ++ rest → RS x' at' left' given' mv nm step → rem x' at' left' = rest → given' - (x'.size : Int) + at' = given - (x.size : Int) + at_ + (e.length : Int) → KeepBut [rdd, hd] s.heap h' →
      h'.get? rdd = some (dictOf (rdD w x' tx' at' ta' mv wd ls ns nm k1 k2 k3 k4 k5 k6 k7 k8 k9 v3 v4 v5 v6 v7 v9) 9) → h'.get? hd = some oh' → HDi w oh' left' given' → Q (res t) { s with heap := h', toks := tk' }) →
    (∀ hx h' tk' e' oh', bad → rem x at_ left = [] → KeepBut [hd] s.heap hx → hx.get? hd = some oh' → HDi w oh' #[] given → (∀ b, s.heap.get? b = none → hx.get? b = none) → Thrown [] l hx h' e' → E (.ref e') { s with heap := h', toks := tk' }) →
    codeAny (model PG w) (At dp un l) (.call (.ref f) ⟨.ref rd :: as, []⟩) (RV Q E) s
theorem back2 {g h h' : Heap} {L a b : Addr} {o o' : Obj} {m : Str → Option Value} {news : List (Addr × Obj)} (F : Fr g L h m) (N : News g L h news) (hm : (a, o) ∈ news) (hm' : (b, o') ∈ news) (k : KeepBut [a, b] h h') : Fr g L h' m :=
  back F k fun c hc => by
    rcases List.mem_cons.mp hc with rfl | hc
    · exact ⟨(N _ hm).2.2, (N _ hm).2.1⟩
    · rw [List.mem_singleton.mp hc]; exact ⟨(N _ hm').2.2, (N _ hm').2.1⟩
theorem back_news2 {g h h' : Heap} {L a b : Addr} {o o1 p p1 : Obj} {news n1 n2 : List (Addr × Obj)} (N : News g L h news) (k : KeepBut [a, b] h h') (U : Upd a o o1 news n1) (U2 : Upd b p p1 n1 n2) (hab : a ≠ b) (ha : h'.get? a = some o1) (hb : h'.get? b = some p1) : News g L h' n2 := by
  have hpm : (b, p) ∈ news := by
    have q := (upd_mem U2).1
    obtain ⟨pre, post, rfl, rfl, _, _⟩ := U.split
    rcases List.mem_append.mp q with q | q
    · exact List.mem_append_left _ q
    · rcases List.mem_cons.mp q with q | q
      · exact absurd (congrArg Prod.fst q).symm hab
      · exact List.mem_append_right _ (.tail _ q)
  obtain ⟨pre, post, rfl, rfl, h1, h2⟩ := U2.split
  have hb' := N _ hpm
  obtain ⟨pre', post', e1, e2, h3, h4⟩ := U.split
  have ha' := N (a, o) (by rw [e1]; exact List.mem_append_right _ (.head _))
  have key : ∀ q ∈ pre ++ (b, p) :: post, q.1 ≠ b → h'.get? q.1 = some q.2 ∧ q.1 ≠ L ∧ g.get? q.1 = none := fun q hq hqb => by
    rw [e2] at hq
    have old : q ∈ pre' ++ (a, o) :: post' → q.1 ≠ a → h'.get? q.1 = some q.2 ∧ q.1 ≠ L ∧ g.get? q.1 = none := fun hm hqa => by
      have z := N q (by rw [e1]; exact hm)
      exact ⟨k _ _ z.1 fun w => (List.mem_cons.mp w).elim hqa fun w => hqb (List.mem_singleton.mp w), z.2⟩
    rcases List.mem_append.mp hq with hq | hq
    · exact old (List.mem_append_left _ hq) (h3 q hq)
    · rcases List.mem_cons.mp hq with rfl | hq
      · exact ⟨ha, ha'.2⟩
      · exact old (List.mem_append_right _ (.tail _ hq)) (h4 q hq)
  intro q hq
  rcases List.mem_append.mp hq with hq | hq
  · exact key q (List.mem_append_left _ hq) (h1 q hq)
  · rcases List.mem_cons.mp hq with rfl | hq
    · exact ⟨hb, hb'.2⟩
    · exact key q (List.mem_append_right _ (.tail _ hq)) (h2 q hq)
theorem RCx.here {w : World} {dp un : Nat} {f : Addr} {as : List Value} {wd ls ns : Int} {ok : List UInt8 → Prop} {bad : Prop} {post : Array UInt8 → Int → Prop} {e : List UInt8} {res : Tok → Value}
    {A A₀ : Around} {base g : Heap} {l : List Env} {env : Env} {L : Addr} {m : Str → Option Value} {news : List (Addr × Obj)} {p : Program} {loose : List Str} {mean : ExcName → Option Value} {mg mb : Str → Option Value} {s : Shared} {Q E : Value → Shared → Prop}
    {rd rdd hd : Addr} {x left nm : Array UInt8} {at_ given step : Int} {mv : Value} {oh : Obj} {tx ta k1 k2 k3 k4 k5 k6 k7 k8 k9 v3 v4 v5 v6 v7 v9 : Tok} {rest : List UInt8} {n1 : Obj → List (Addr × Obj)} {n2 : Obj → Obj → List (Addr × Obj)}
    (C : RCx w dp un f as wd ls ns ok bad post e res) (c : Cx w A A₀ base g s.heap l env L m news p loose mean mg mb) (e4 : A.depth ≤ dp) (e5 : A.units ≤ un)
    (m1 : (rd, instObj 213 rdd) ∈ news) (U : ∀ o, Upd rdd (dictOf (rdD w x tx at_ ta mv wd ls ns nm k1 k2 k3 k4 k5 k6 k7 k8 k9 v3 v4 v5 v6 v7 v9) 9) o news (n1 o)) (U2 : ∀ o o', Upd hd oh o' (n1 o) (n2 o o')) (m3 : (hd, oh) ∈ news) (hH : HDi w oh left given)
    (hne1 : rd ≠ rdd) (hne2 : rd ≠ hd) (hne3 : rdd ≠ hd) (hR : RX w base (env :: l) s.heap rd rdd hd mv step) (hS : RS x at_ left given mv nm step) (hr : (ok (rem x at_ left) ∧ rem x at_ left = e ++ rest) ∨ (rem x at_ left = [] ∧ bad))
    (hQ : ∀ h' tk' x' tx' at' ta' left' oh' given' t, HDi w oh' left' given' → post x' at' → rem x at_ left = e ++ rest → RS x' at' left' given' mv nm step → rem x' at' left' = rest → given' - (x'.size : Int) + at' = given - (x.size : Int) + at_ + (e.length : Int) → Fr g L h' m →
      News g L h' (n2 (dictOf (rdD w x' tx' at' ta' mv wd ls ns nm k1 k2 k3 k4 k5 k6 k7 k8 k9 v3 v4 v5 v6 v7 v9) 9) oh') → Q (res t) { s with heap := h', toks := tk' })
    (hE : ∀ hx h' tk' e' oh', bad → rem x at_ left = [] → KeepBut [hd] s.heap hx → hx.get? hd = some oh' → HDi w oh' #[] given → (∀ b, s.heap.get? b = none → hx.get? b = none) → Thrown [] (env :: l) hx h' e' → E (.ref e') { s with heap := h', toks := tk' }) :
    codeAny (model PG w) A (.call (.ref f) ⟨.ref rd :: as, []⟩) (RV Q E) s :=
  c.lift (C base (env :: l) p loose mean mg mb s Q E rd rdd hd x left nm at_ given step mv oh tx ta k1 k2 k3 k4 k5 k6 k7 k8 k9 v3 v4 v5 v6 v7 v9 rest c.std c.X c.T (c.own m1) (c.own (upd_mem (U (dictOf [] 0))).1) (c.own m3) hH hne1 hne2 hne3 hR hS hr
    (fun h' tk' x' tx' at' ta' left' oh' given' t p0 a0 a1 a2 a3 k hp hh hi => hQ h' tk' x' tx' at' ta' left' oh' given' t hi p0 a0 a1 a2 a3 (back2 c.F c.N (upd_mem (U (dictOf [] 0))).1 m3 k) (back_news2 c.N k (U _) (U2 _ _) hne3 hp hh)) hE) e4 e5
abbrev RC (w : World) (dp un : Nat) (f : Addr) (as : List Value) (wd ls ns : Int) (e : List UInt8) (res : Tok → Value) : Prop := RCx w dp un f as wd ls ns (fun _ => True) (e ≠ []) (fun _ _ => True) e res
/-- a raise passes, one object changed ahead of it -/
theorem thrown_pass2 {w : World} {A A₀ : Around} {s : Shared} {base h0 hx g : Heap} {l : List Env} {env : Env} {L e hd : Addr} {o o' : Obj} {small : List (Addr × Obj)} {m : Str → Option Value} {Q : Unit → Shared → Prop} {E : Value → Shared → Prop}
    (S0 : Std base A₀ l h0) (hL : h0.objs.size ≤ L) (hfr : A.frames = some (env :: l)) (hf : env.frame = some L) {h1 : Heap} (F : Fr g L h1 m) (hg : g = hideAll h0 (small.map (·.1))) (ht : Thrown [] (env :: l) hx s.heap e)
    (k0 : KeepBut [hd] h0 h1) (k : KeepBut [hd] h1 hx) (hh : hx.get? hd = some o') (ho : Own base l h0 hd o) (hn : ∀ b, h1.get? b = none → hx.get? b = none)
    (hQ : ∀ hy h', KeepBut [hd] h0 hy → hy.get? hd = some o' → (∀ b, h0.get? b = none → hy.get? b = none) → Thrown [] l hy h' e → Q () { s with heap := h' }) : wpAny (model PG w) A (leaving env (.ref e)) Q E s := by
  have hnf : o'.isFreed = false := not_freed hh
  have kk : KeepBut [hd] h0 (h0.update hd fun _ => o') := fun b ob q hb => by
    rw [Heap.get?_update_other _ _ (Ne.symm fun z => hb (List.mem_singleton.mpr z))]; exact q
  have hs : (h0.update hd fun _ => o').get? hd = some o' := Heap.get?_update_self _ ho.get hnf
  have hne : ∀ b, h0.get? b = none → (h0.update hd fun _ => o').get? b = none := fun b q => by
    rw [Heap.get?_update_other _ _ (Ne.symm fun z => by rw [z, ho.get] at q; cases q)]; exact q
  have S1 : Std base A₀ l (h0.update hd fun _ => o') := S0.keep kk fun a ha => by rw [List.mem_singleton.mp ha]; exact ⟨ho.off, ho.apart⟩
  have hLn : (h0.update hd fun _ => o').get? L = none := hne L (Heap.get?_none_of_le hL)
  refine thrown_next (S := []) (S1 := []) hfr hf hLn ?_ (fun a ha => nomatch ha) ht fun h' ht' => hQ _ _ kk hs hne ht'
  intro b ob q _
  by_cases z : b = hd
  · subst z; rw [hs] at q; cases q; exact hh
  · rw [Heap.get?_update_other _ _ (Ne.symm z)] at q
    exact k b ob (k0 b ob q fun y => z (List.mem_singleton.mp y)) fun y => z (List.mem_singleton.mp y)
structure NSt where
  P : Array Value
  n : Nat
  k : Int
  tk : Tok
  lf : Array UInt8
  gv : Int
  oh : Obj
theorem nameNews2 {P : Prop} {g h : Heap} {L a b : Addr} {o o' : Obj} {r : List (Addr × Obj)} (_N : News g L h ((a, o) :: (b, o') :: r)) (k : ∀ a' b', a' = a → b' = b → P) : P := k a b rfl rfl
theorem own_g {base g h0 : Heap} {l : List Env} {a : Addr} {o : Obj} {small : List (Addr × Obj)} (O : Own base l h0 a o) (hg : g = hideAll h0 (small.map (·.1))) (hn : a ∉ small.map (·.1)) : g.get? a = some o := by
  subst hg; exact hideAll_get _ O.get hn
theorem not3 {a b c d : Addr} {o1 o2 o3 : Obj} (n1 : a ≠ b) (n2 : a ≠ c) (n3 : a ≠ d) : a ∉ [(b, o1), (c, o2), (d, o3)].map (·.1) := fun hm => by
  rcases List.mem_cons.mp hm with z | hm
  · exact n1 z
  · rcases List.mem_cons.mp hm with z | hm
    · exact n2 z
    · exact n3 (List.mem_singleton.mp hm)
theorem more_here {w : World} {mf hd : Addr} {step : Int} {xs : List (Addr × Obj)} {A A₀ : Around} {base g : Heap} {l : List Env} {env : Env} {L : Addr} {m : Str → Option Value} {news : List (Addr × Obj)} {p : Program} {loose : List Str} {mean : ExcName → Option Value} {mg mb : Str → Option Value} {s : Shared} {Q E : Value → Shared → Prop}
    {left : Array UInt8} {given : Int} {dv : Tok} {oh : Obj} {n1 : Obj → List (Addr × Obj)} (M : MoreC w mf hd step xs) (c : Cx w A A₀ base g s.heap l env L m news p loose mean mg mb) (e4 : A.depth ≤ 380) (e5 : A.units ≤ 400)
    (hx : ∀ q ∈ xs, Own base (env :: l) s.heap q.1 q.2) (U : ∀ o, Upd hd oh o news (n1 o)) (hH : HDi w oh left given) (z : left.size ≤ 100000) (g0 : 0 ≤ given) (g1 : given ≤ 100000)
    (hQ : ∀ h' tk' piece left' tp oh', piece.toList = left.toList.take step.toNat → left'.toList = left.toList.drop step.toNat → HDi w oh' left' (given + (piece.size : Int)) → Fr g L h' m → News g L h' (n1 oh') → Q (.bytes piece tp) { s with heap := h', toks := tk' }) :
    wpAny (model PG w) A (call (.ref mf) [.int 0 dv]) Q E s :=
  wpAny_call (c.lift (M base (env :: l) p loose mean mg mb s Q E left given dv oh c.std c.X c.T hx (c.own (upd_mem (U oh)).1) hH z g0 g1
    (fun h' tk' piece left' tp oh' e1 e2 k hh hi => hQ h' tk' piece left' tp oh' e1 e2 hi (back1 c.F c.N (upd_mem (U oh)).1 k) (back_news c.N k (U oh') hh))) e4 e5)
theorem cast_add (A : Int) (a b : Nat) : A + (a : Int) + (b : Int) = A + ((a + b : Nat) : Int) := Int.add_assoc _ _ _
theorem two_steps {a b c : Int} {l1 l2 : List UInt8} (h : a = b + (l2.length : Int)) (k : b = c + (l1.length : Int)) : a = c + ((l1 ++ l2).length : Int) := by rw [h, k, List.length_append]; exact cast_add _ _ _
theorem rem_len {x left : Array UInt8} {at_ : Int} (h0 : 0 ≤ at_) (h1 : at_ ≤ (x.size : Int)) : ((rem x at_ left).length : Int) = (x.size : Int) - at_ + (left.size : Int) := by
  obtain ⟨k, rfl⟩ := Int.eq_ofNat_of_zero_le h0
  show ((x.toList.drop k ++ left.toList).length : Int) = _
  rw [List.length_append, List.length_drop, Array.length_toList (xs := x), Int.natCast_add, Int.ofNat_sub (Int.ofNat_le.mp h1)]; rfl
theorem rem_nil {x left : Array UInt8} {at_ : Int} (h : rem x at_ left = []) (h1 : at_ ≤ (x.size : Int)) (h0 : 0 ≤ at_) : at_ = (x.size : Int) ∧ left = #[] := by
  obtain ⟨e1, e2⟩ := List.append_eq_nil_iff.mp h
  have z := congrArg List.length e1
  rw [List.length_drop, Array.length_toList] at z
  exact ⟨by exact Int.le_antisymm h1 ((Int.le_toNat h0).mp (Nat.le_of_sub_eq_zero z)), Array.toList_inj.mp e2⟩
theorem take_rem {x left : Array UInt8} {at_ : Int} {e rest : List UInt8} (h : rem x at_ left = e ++ rest) (h0 : 0 ≤ at_) (h1 : at_ + (e.length : Int) ≤ (x.size : Int)) :
    (x.toList.drop at_.toNat).take e.length = e ∧ rem x (at_ + (e.length : Int)) left = rest := by
  obtain ⟨k, rfl⟩ := Int.eq_ofNat_of_zero_le h0
  have hl : e.length ≤ (x.toList.drop k).length := by rw [List.length_drop, Array.length_toList (xs := x)]; exact Nat.le_sub_of_add_le' (Int.ofNat_le.mp h1)
  change x.toList.drop k ++ left.toList = e ++ rest at h
  have a := congrArg (List.take e.length) h
  have b := congrArg (List.drop e.length) h
  rw [List.take_append_of_le_length hl, List.take_left] at a
  rw [List.drop_append_of_le_length hl, List.drop_left, List.drop_drop] at b
  refine ⟨a, ?_⟩
  exact b
theorem block_fin {x left : Array UInt8} {at_ size : Int} {e rest R : List UInt8} (he : (e.length : Int) = size) (hR : rem x at_ left = R) (hr : (True ∧ R = e ++ rest) ∨ (R = [] ∧ e ≠ [])) (h0 : 0 ≤ at_) (h1 : at_ + size ≤ (x.size : Int)) (h2 : at_ ≤ (x.size : Int)) :
    R = e ++ rest ∧ (x.toList.drop at_.toNat).take (at_ + size - at_).toNat = e ∧ rem x (at_ + size) left = rest := by
  subst hR
  have h : rem x at_ left = e ++ rest := hr.elim (fun z => z.2) fun z => by
    have := (rem_nil z.1 h2 h0).1
    exact absurd (List.eq_nil_of_length_eq_zero (by omega)) z.2
  rw [show (at_ + size - at_).toNat = e.length by rw [Int.add_comm, Int.add_sub_cancel, ← he]; rfl, ← he]
  exact ⟨h, take_rem h h0 (by omega)⟩
def decI : List UInt8 → Int
  | [] => 0
  | b :: r => (b.toNat : Int) + 256 * decI r
example : True := by
  k_with "binaryOp Add bytes bytes" => (k_here; (with_reducible show wpAny _ _ (binaryOp Operator.Add (Value.bytes _ _) (Value.bytes _ _)) _ _ _); k_dflt (refine' KBa.add_K rfl rfl ?z ?_; (case z => (rw [KBw.ints_length, KBw.ints_length]; first | omega | (simp only [Array.size_append, List.size_toArray, List.length_cons, List.length_nil]; omega)))); intro t9 k9 _)
  trivial
theorem fail_ctr {w : World} {base : Heap} {l : List Env} {p : Program} {loose : List Str} {mean : ExcName → Option Value} {mg mb : Str → Option Value} {s : Shared} {Q E : Value → Shared → Prop} {rd rdd : Addr} {x nm : Array UInt8} {at_ wd ls ns : Int} {mv : Value} {tx ta k1 k2 k3 k4 k5 k6 k7 k8 k9 v3 v4 v5 v6 v7 v9 : Tok} {why : Array UInt8} {tw : Tok}
    (S : Std base (At 380 400 l) l s.heap) (X : (KF w.params).In base) (T : Top p loose mean mg mb base) (h1 : Own base l s.heap rd (instObj 213 rdd)) (h2 : Own base l s.heap rdd (dictOf (rdD w x tx at_ ta mv wd ls ns nm k1 k2 k3 k4 k5 k6 k7 k8 k9 v3 v4 v5 v6 v7 v9) 9)) (hne1 : rd ≠ rdd) (hn : nm.size ≤ 100) (hw : why.size ≤ 100)
    (hE : ∀ h' tk' e, Thrown [] l s.heap h' e → E (.ref e) { s with heap := h', toks := tk' }) :
    codeAny (model PG w) (At 380 400 l) (.call (.ref 119) ⟨[.ref rd, .bytes why tw], []⟩) (RV Q E) s := by
  refine' enter [(rd, instObj 213 rdd), (rdd, dictOf (rdD w x tx at_ ta mv wd ls ns nm k1 k2 k3 k4 k5 k6 k7 k8 k9 v3 v4 v5 v6 v7 v9) 9)] S X T ?k1 ?k6 ?k7 ?k8 ?k9 ?kB ?_ ?c2 ?c3 ?c4 ?c5
  case k6 => k_is
  case k7 => k_is
  case k9 => exact BindsTo.of_eq rfl
  case kB => exact locs rfl
  case c5 => decide
  case c2 => exact rfl
  case c3 => exact rfl
  case c4 => exact rfl
  case k8 => exact Nat.le_of_ble_eq_true rfl
  case k1 => exact List.forall_mem_cons.mpr ⟨h1, List.forall_mem_cons.mpr ⟨h2, List.forall_mem_nil _⟩⟩
  intro g L' h₁ F' N' B' X' T' hg hL
  have S0 := S
  clear S
  (try dsimp only [RV])
  (try k_fold)
  refine absE3 (by passes_own) fun E9 hP9 hE9 => ?_
  have hne1 := neN hne1
  k_steps
  repeat (any_goals ((first
    | ((with_reducible show Parked (wpAny _ _ (call (Value.ref 38) _ _) _ _ _)); refine Parked.get ?_; k_dflt (refine' exc_here ?C ?e4 ?e5 ?_; (case C => (refine' ⟨?X, ?T, ?B, ?F, ?N, ?e2, ?hf, ?hke, ?e1, ?e3⟩; (case F => k_asm); (case N => k_asm); (case e2 => exact rfl); (case B => k_asm); (case X => k_asm); (case T => k_asm); (case hf => exact rfl); (case hke => exact rfl); (case e1 => exact rfl); (case e3 => exact rfl))); (case e4 => exact Nat.le_of_ble_eq_true rfl); (case e5 => exact Nat.le_of_ble_eq_true rfl); k_whole; intro h' tk' e' o' ta' F' N' kk' he' hc' hd' hn'))); all_goals k_steps))
  all_goals (refine hE9 _ _ ?_; refine thrown_end S0 hL (by assumption) rfl rfl rfl ?_ (by assumption) (by assumption) (by assumption) (by assumption) (by assumption) (fun h' ht => hE _ _ _ ht))
  exact ((keepBut_of (by assumption) hg).drop h1.get (News.get (by assumption) (by k_mem))).drop h2.get (News.get (by assumption) (by k_mem))
theorem fail_here {w : World} {base : Heap} {l : List Env} {p : Program} {loose : List Str} {mean : ExcName → Option Value} {mg mb : Str → Option Value} {s : Shared} {Q E : Value → Shared → Prop} {rd rdd : Addr} {x nm : Array UInt8} {at_ wd ls ns : Int} {mv : Value} {tx ta k1 k2 k3 k4 k5 k6 k7 k8 k9 v3 v4 v5 v6 v7 v9 : Tok} {why : Array UInt8} {tw : Tok} {A A₀ : Around} {g : Heap} {env : Env} {L : Addr} {m : Str → Option Value} {news : List (Addr × Obj)}
    (c : Cx w A A₀ base g s.heap l env L m news p loose mean mg mb) (e4 : A.depth ≤ 380) (e5 : A.units ≤ 400) (m1 : (rd, instObj 213 rdd) ∈ news) (m2 : (rdd, dictOf (rdD w x tx at_ ta mv wd ls ns nm k1 k2 k3 k4 k5 k6 k7 k8 k9 v3 v4 v5 v6 v7 v9) 9) ∈ news) (hne1 : rd ≠ rdd) (hn : nm.size ≤ 100) (hw : why.size ≤ 100)
    (hE : ∀ h' tk' e, Thrown [] (env :: l) s.heap h' e → E (.ref e) { s with heap := h', toks := tk' }) :
    wpAny (model PG w) A (call (.ref 119) [.ref rd, .bytes why tw]) Q E s :=
  wpAny_call (c.lift (fail_ctr c.std c.X c.T (c.own m1) (c.own m2) hne1 hn hw hE) e4 e5)
theorem rneed {w : World} {wd ls ns : Int} {size : Int} {ts : Tok} (hz0 : 0 ≤ size) (hz1 : size ≤ 100000) : RCx w 370 350 126 [.int size ts] wd ls ns (fun R => size ≤ (R.length : Int)) (1 ≤ size) (fun x' at' => at' = 0 ∧ size ≤ (x'.size : Int)) [] (fun _ => .none) := by
  intro base l p loose mean mg mb s Q E rd rdd hd x left nm at_ given step mv oh tx ta k1 k2 k3 k4 k5 k6 k7 k8 k9 v3 v4 v5 v6 v7 v9 rest S X T h1 h2 h3 hH hne1 hne2 hne3 hRX hS hr hQ hE
  refine' enter [(rd, instObj 213 rdd), (rdd, dictOf (rdD w x tx at_ ta mv wd ls ns nm k1 k2 k3 k4 k5 k6 k7 k8 k9 v3 v4 v5 v6 v7 v9) 9), (hd, oh)] S X T ?k1 ?k6 ?k7 ?k8 ?k9 ?kB ?_ ?c2 ?c3 ?c4 ?c5
  case k6 => k_is
  case k7 => k_is
  case k9 => exact BindsTo.of_eq rfl
  case kB => exact locs rfl
  case c5 => decide
  case c2 => exact rfl
  case c3 => exact rfl
  case c4 => exact rfl
  case k8 => exact Nat.le_of_ble_eq_true rfl
  case k1 => exact List.forall_mem_cons.mpr ⟨h1, List.forall_mem_cons.mpr ⟨h2, List.forall_mem_cons.mpr ⟨h3, List.forall_mem_nil _⟩⟩⟩
  intro g L' h₁ F' N' B' X' T' hg hL
  have S0 := S
  clear S
  (try dsimp only [RV])
  (try k_fold)
  refine absE3 (by passes_own) fun E9 hP9 hE9 => ?_
  have hne1 := neN hne1
  have hne2 := neN hne2
  have hne3 := neN hne3
  have hA0 := hS.a0
  have hA1 := hS.a1
  have hAz := hS.z
  have hG0 := hS.g0
  have hG1 := hS.g1
  have hG2 := hS.g2
  have hT0 := hS.s0
  have hT1 := hS.s1
  have hrl : ((rem x at_ left).length : Int) = (x.size : Int) - at_ + (left.size : Int) := by
    simp only [rem, List.length_append, List.length_drop, Array.length_toList]; omega
  k_steps
  refine Parked.get ?_
  rename News _ _ _ _ => N9
  refine nameNews2 N9 fun D9 pl9 e1 e2 => ?_
  subst e1 e2
  k_dflt (refine' loop_while (σ := NSt) (a1 := pl9) (a2 := hd) (fun st => listOf st.P st.n) (fun st => st.oh) (Str.ofString "many") (fun st => .int st.k st.tk) [Str.ofString "piece"] (fun st => ∃ b, PA st.P b ∧ (b.length : Int) = st.k ∧ b ++ st.lf.toList = rem x at_ left ∧ st.gv - st.k = given - (x.size : Int) + at_ ∧ st.P.size ≤ b.length + 1 ∧ (mv = .none → st.lf = #[]) ∧ HDi w st.oh st.lf st.gv) (fun st => (size - st.k).toNat) ⟨#[.bytes x9 t9'], 0, (x9.size : Int), _, left, given, oh⟩ ?F N9 ?U1 ?U2 ?hn ?hm ?hj ?_; (case F => k_asm); (case U1 => intro st9; k_upd); (case U2 => intro st9; k_upd); (case hn => exact rfl); (case hm => exact rfl))
  case hj => exact ⟨x9.toList, PAcast (PA_push PA_nil x9 t9') (List.nil_append _), (by rw [Array.length_toList]), (by rw [bs9]), (by show given - (x9.size : Int) = _; rw [bz9]; omega), (Nat.succ_le_succ (Nat.zero_le _)), hS.no, hH⟩
  rintro ⟨P9, n9, k9, tk9, lf9, gv9, oh9⟩ u9 h9 tk9' ⟨b9, j1, j2, j3, j4, j5, j6, j7⟩ F9 N9
  dsimp only at *
  have hb9 := congrArg List.length j3
  rw [List.length_append, Array.length_toList (xs := lf9)] at hb9
  k_steps
  · have hkn : k9 < size := by assumption
    have hbad : 1 ≤ size := by omega
    have hend : lf9 = #[] → rem x at_ left = [] ∧ given = gv9 := fun e => by
      subst e
      have hR : rem x at_ left = [] := hr.elim (fun z => absurd z.1 (by have : (#[] : Array UInt8).size = 0 := rfl; omega)) (fun z => z.1)
      obtain ⟨e1, rfl⟩ := rem_nil hR hA1 hA0
      have z : b9.length = 0 := by rw [hR] at hb9; have : ([] : List UInt8).length = 0 := rfl; omega
      exact ⟨hR, by omega⟩
    rcases hRX with rfl | ⟨mf, xs, oc, od, fd, sl, rfl, hxm, hxt, hxs, hM⟩
    · k_steps
      rename Fr _ _ _ _ => F8
      rename News _ _ _ _ => N8
      have hlf := j6 rfl
      obtain ⟨hR, hgv⟩ := hend hlf
      have hi0 : HDi w oh9 #[] given := by rw [hgv, ← hlf]; exact j7
      (refine Parked.get ?_; k_dflt (refine' fail_here ?C ?e4 ?e5 ?m1 ?m2 ?n1 ?hn ?hw ?_; (case C => (refine' ⟨?X, ?T, ?B, ?F, ?N, ?e2, ?hf, ?hke, ?e1, ?e3⟩; (case F => k_asm); (case N => k_asm); (case e2 => exact rfl); (case B => k_asm); (case X => k_asm); (case T => k_asm); (case hf => exact rfl); (case hke => exact rfl); (case e1 => exact rfl); (case e3 => exact rfl))); (case e4 => exact Nat.le_of_ble_eq_true rfl); (case e5 => exact Nat.le_of_ble_eq_true rfl); (case m1 => k_mem); (case m2 => k_mem); (case n1 => k_ne); (case hn => exact hS.n1); (case hw => exact Nat.le_of_ble_eq_true rfl)); intro h' tk' e' th')
      k_steps
      refine hE9 _ _ ?_
      refine thrown_pass2 S0 hL rfl rfl F8 hg th' (((keepBut_of F8 hg).drop h1.get (News.get N8 (by k_mem))).drop h2.get (News.get N8 (by k_mem))) (KeepBut.refl _ _) (News.get N8 (by k_mem)) h3 (fun _ z => z) (fun hy h' q1 q2 q3 q4 => hE hy h' _ _ _ hbad hR q1 q2 hi0 q3 q4)
    · k_steps
      dsimp only
      rename Fr _ _ _ _ => F8
      have hgm := own_g (hxs _ hxm).1 hg (not3 (hxs _ hxm).2.1 (hxs _ hxm).2.2.1 (hxs _ hxm).2.2.2)
      k_dflt (refine' callWith_F (q := mf) ?fa ?_; (case fa => exact ⟨_, _, _, _, F8.keep _ _ hgm⟩))
      k_steps
      · exact ⟨_, _, _, _, F8.keep _ _ hgm⟩
      · refine Parked.get ?_
        rename News _ _ _ _ => N8
        k_dflt (refine' more_here hM ?C ?e4 ?e5 ?hx ?U j7 ?z ?g0 ?g1 ?_; (case C => (refine' ⟨?X, ?T, ?B, ?F, ?N, ?e2, ?hf, ?hke, ?e1, ?e3⟩; (case F => k_asm); (case N => k_asm); (case e2 => exact rfl); (case B => k_asm); (case X => k_asm); (case T => k_asm); (case hf => exact rfl); (case hke => exact rfl); (case e1 => exact rfl); (case e3 => exact rfl))); (case e4 => exact Nat.le_of_ble_eq_true rfl); (case e5 => exact Nat.le_of_ble_eq_true rfl); (case hx => exact fun q hq => own_deep (hxs q hq).1 F8 hg hL rfl (not3 (hxs q hq).2.1 (hxs q hq).2.2.1 (hxs q hq).2.2.2)); (case U => intro o9; k_upd); (case z => omega); (case g0 => omega); (case g1 => omega))
        intro h' tk' pc9 lf8 tp9 oh8 hp9 hl9 hi9 F7 N7
        have hpz : pc9.size = min step.toNat lf9.size := by rw [← Array.length_toList, hp9, List.length_take, Array.length_toList]
        have hlz : lf8.size = lf9.size - step.toNat := by rw [← Array.length_toList, hl9, List.length_drop, Array.length_toList]
        k_steps
        · rename Fr _ _ _ _ => F6
          rename News _ _ _ _ => N6
          have hlf : lf9 = #[] := Array.eq_empty_of_size_eq_zero (by omega)
          obtain ⟨hR, hgv⟩ := hend hlf
          have hlf8 : lf8 = #[] := Array.eq_empty_of_size_eq_zero (by omega)
          have hi0 : HDi w oh8 #[] given := by
            have e : gv9 + (pc9.size : Int) = given := by omega
            rw [e, hlf8] at hi9; exact hi9
          (refine Parked.get ?_; k_dflt (refine' fail_here ?C ?e4 ?e5 ?m1 ?m2 ?n1 ?hn ?hw ?_; (case C => (refine' ⟨?X, ?T, ?B, ?F, ?N, ?e2, ?hf, ?hke, ?e1, ?e3⟩; (case F => k_asm); (case N => k_asm); (case e2 => exact rfl); (case B => k_asm); (case X => k_asm); (case T => k_asm); (case hf => exact rfl); (case hke => exact rfl); (case e1 => exact rfl); (case e3 => exact rfl))); (case e4 => exact Nat.le_of_ble_eq_true rfl); (case e5 => exact Nat.le_of_ble_eq_true rfl); (case m1 => k_mem); (case m2 => k_mem); (case n1 => k_ne); (case hn => exact hS.n1); (case hw => exact Nat.le_of_ble_eq_true rfl)); intro h' tk' e' th')
          k_steps
          refine hE9 _ _ ?_
          refine thrown_pass2 S0 hL rfl rfl F6 hg th' (((keepBut_of F6 hg).drop h1.get (News.get N6 (by k_mem))).drop h2.get (News.get N6 (by k_mem))) (KeepBut.refl _ _) (News.get N6 (by k_mem)) h3 (fun _ z => z) (fun hy h' q1 q2 q3 q4 => hE hy h' _ _ _ hbad hR q1 q2 hi0 q3 q4)
        · rename Fr _ _ _ _ => F6
          rename News _ _ _ _ => N6
          refine ⟨_, _, _, ⟨_, _, k9 + (pc9.size : Int), _, lf8, gv9 + (pc9.size : Int), oh8⟩, rfl, F6, N6, rfl, fun z q1 q2 => ?_, ⟨b9 ++ pc9.toList, PA_push j1 _ _, ?_, ?_, ?_, ?_, fun z => (nomatch z), hi9⟩, ?_⟩
          · have q3 : z ≠ Str.ofString "piece" := fun e => by rw [e] at q2; exact absurd q2 (by decide)
            simp only [mmOf, if_neg q1, if_neg q3, q2, Bool.false_eq_true, if_false]
          · rw [List.length_append, Array.length_toList (xs := pc9)]; show ((b9.length + pc9.size : Nat) : Int) = k9 + _; omega
          · show (b9 ++ pc9.toList) ++ lf8.toList = _
            rw [List.append_assoc, hp9, hl9, List.take_append_drop, j3]
          · show gv9 + (pc9.size : Int) - (k9 + (pc9.size : Int)) = _; omega
          · show (P9.push _).size ≤ _
            rw [Array.size_push, List.length_append, Array.length_toList (xs := pc9)]; omega
          · show (size - (k9 + (pc9.size : Int))).toNat < (size - k9).toNat; omega
  · have hk9 : size ≤ k9 := by omega
    have hr9 : r'.size = b9.length := by rw [← hr', Array.length_toList]
    refine hQ _ _ r' _ 0 _ lf9 oh9 gv9 0 ⟨rfl, by omega⟩ ?_ ⟨by omega, by omega, by omega, by omega, by omega, by omega, j6, hS.n1, hT0, hT1⟩ ?_ ?_ ((keepBut_of (by assumption) hg).drop h1.get (News.get (by assumption) (by k_mem))) (News.get (by assumption) (by k_mem)) (News.get (by assumption) (by k_mem)) j7
    · exact hr.elim (fun z => z.2) (fun z => absurd z.2 (by rw [z.1] at hb9; have : ([] : List UInt8).length = 0 := rfl; omega))
    · show r'.toList.drop 0 ++ _ = rest
      rw [List.drop_zero, hr', j3]
      exact hr.elim (fun z => z.2) (fun z => absurd z.2 (by rw [z.1] at hb9; have : ([] : List UInt8).length = 0 := rfl; omega))
    · have : ([] : List UInt8).length = 0 := rfl
      omega
theorem rblock {w : World} {wd ls ns : Int} {e : List UInt8} {size : Int} {ts : Tok} (he : (e.length : Int) = size) (hz1 : size ≤ 100000) : RCx w 360 300 133 [.int size ts] wd ls ns (fun _ => True) (e ≠ []) (fun _ _ => True) e (fun t => .bytes e.toArray t) := by
  intro base l p loose mean mg mb s Q E rd rdd hd x left nm at_ given step mv oh tx ta k1 k2 k3 k4 k5 k6 k7 k8 k9 v3 v4 v5 v6 v7 v9 rest S X T h1 h2 h3 hH hne1 hne2 hne3 hRX hS hr hQ hE
  refine' enter [(rd, instObj 213 rdd), (rdd, dictOf (rdD w x tx at_ ta mv wd ls ns nm k1 k2 k3 k4 k5 k6 k7 k8 k9 v3 v4 v5 v6 v7 v9) 9), (hd, oh)] S X T ?k1 ?k6 ?k7 ?k8 ?k9 ?kB ?_ ?c2 ?c3 ?c4 ?c5
  case k6 => k_is
  case k7 => k_is
  case k9 => exact BindsTo.of_eq rfl
  case kB => exact locs rfl
  case c5 => decide
  case c2 => exact rfl
  case c3 => exact rfl
  case c4 => exact rfl
  case k8 => exact Nat.le_of_ble_eq_true rfl
  case k1 => exact List.forall_mem_cons.mpr ⟨h1, List.forall_mem_cons.mpr ⟨h2, List.forall_mem_cons.mpr ⟨h3, List.forall_mem_nil _⟩⟩⟩
  intro g L' h₁ F' N' B' X' T' hg hL
  have S0 := S
  clear S
  (try dsimp only [RV])
  (try k_fold)
  refine absE3 (by passes_own) fun E9 hP9 hE9 => ?_
  have hne1 := neN hne1
  have hne2 := neN hne2
  have hne3 := neN hne3
  have hA0 := hS.a0
  have hA1 := hS.a1
  have hAz := hS.z
  have hG0 := hS.g0
  have hG1 := hS.g1
  have hG2 := hS.g2
  have hT0 := hS.s0
  have hT1 := hS.s1
  k_steps
  · ((with_reducible show Parked (wpAny _ _ (call (Value.ref 126) _ _) _ _ _)); refine Parked.get ?_; k_dflt (refine' wpAny_call (RCx.here (rneed ?s0 ?s1) ?C ?e4 ?e5 ?m1 ?U ?U2 ?m3 ?hH ?n1 ?n2 ?n3 ?hR ?hS ?hr ?_ ?_); (case C => (refine' ⟨?X, ?T, ?B, ?F, ?N, ?e2, ?hf, ?hke, ?e1, ?e3⟩; (case F => k_asm); (case N => k_asm); (case e2 => exact rfl); (case B => k_asm); (case X => k_asm); (case T => k_asm); (case hf => exact rfl); (case hke => exact rfl); (case e1 => exact rfl); (case e3 => exact rfl))); (case e4 => exact Nat.le_of_ble_eq_true rfl); (case e5 => exact Nat.le_of_ble_eq_true rfl); (case hR => exact hRX.deep (by k_asm) hg hL rfl); (case hH => assumption); (case m1 => k_mem); (case U => intro o9; k_upd); (case U2 => intro o9 o9'; k_upd); (case m3 => k_mem); (case n1 => k_ne); (case n2 => k_ne); (case n3 => k_ne); (case hS => assumption); (case hr => exact hr.elim (fun z => Or.inl ⟨by rw [z.2, List.length_append]; omega, (List.nil_append _).symm⟩) (fun z => Or.inr ⟨z.1, by have := List.length_pos_iff.mpr z.2; omega⟩)); (case s0 => first | assumption | omega | decide); (case s1 => first | assumption | omega | decide); k_whole); (any_goals (with_reducible intro h' tk' x' tx' at' ta' left' oh' given' t9' hi' po' r1' S' r2' g' F' N')); (any_goals (with_reducible intro hx' h' tk' e' oh' bd' rn' kb' gh' hi' fr' th')))
    · obtain ⟨rfl, hz9⟩ := po'
      have hz8 := S'.z
      simp only [List.length_nil] at g'
      k_steps
      obtain ⟨f1, f2, f3⟩ := block_fin he r2' hr (Int.le_refl 0) (by omega) (by omega)
      have hx9 : x9 = e.toArray := Array.toList_inj.mp (bs9.trans f2)
      rw [hx9]
      refine hQ _ _ x' _ _ _ left' oh' given' _ trivial f1 ⟨by omega, by omega, S'.z, S'.g0, S'.g1, ?_, S'.no, S'.n1, S'.s0, S'.s1⟩ f3 (by omega) ((keepBut_of (by assumption) hg).drop h1.get (News.get (by assumption) (by k_mem))) (News.get (by assumption) (by k_mem)) (News.get (by assumption) (by k_mem)) hi'
      have := S'.g2; omega
    · rename Fr _ _ _ _ => F8
      rename News _ _ _ _ => N8
      refine hE9 _ _ ?_
      refine thrown_pass2 S0 hL rfl rfl F8 hg th' (((keepBut_of F8 hg).drop h1.get (News.get N8 (by k_mem))).drop h2.get (News.get N8 (by k_mem))) kb' gh' h3 fr' (fun hy h' q1 q2 q3 q4 => hE hy h' _ _ _ ?_ rn' q1 q2 hi' q3 q4)
      intro z; rw [z] at he; have : ([] : List UInt8).length = 0 := rfl; omega
  · have hsz : at_ + size ≤ (x.size : Int) := by omega
    obtain ⟨f1, f2, f3⟩ := block_fin he rfl hr hA0 hsz hA1
    have hx9 : x9 = e.toArray := Array.toList_inj.mp (bs9.trans f2)
    rw [hx9]
    exact hQ _ _ x _ _ _ left oh given _ trivial f1 ⟨by omega, by omega, hS.z, hS.g0, hS.g1, by omega, hS.no, hS.n1, hS.s0, hS.s1⟩ f3 (by omega) ((keepBut_of (by assumption) hg).drop h1.get (News.get (by assumption) (by k_mem))) (News.get (by assumption) (by k_mem)) (News.get (by assumption) (by k_mem)) hH
example : True := by
  k_with "binaryOp LShift int int" => (k_here; refine Parked.mk ?_)
  trivial
theorem decI_next : ∀ {e : List UInt8} {i : Nat}, i < e.length → decI (e.take i) + ((e.getD ((i : Int)).toNat 0).toNat : Int) * 2 ^ (8 * (i : Int)).toNat = decI (e.take (i + 1))
  | [], i, h => by simp at h
  | b :: r, 0, _ => by
    show decI [] + (((b :: r).getD 0 0).toNat : Int) * 2 ^ 0 = decI [b]
    simp [decI]
  | b :: r, i + 1, h => by
    have ih := decI_next (e := r) (i := i) (by simpa using h)
    rw [Int.toNat_natCast] at ih
    rw [Int.toNat_natCast, List.take_succ_cons, List.take_succ_cons]
    show ((b.toNat : Int) + 256 * decI (r.take i)) + ((r.getD i 0).toNat : Int) * 2 ^ (8 * ((i + 1 : Nat) : Int)).toNat = (b.toNat : Int) + 256 * decI (r.take (i + 1))
    rw [← ih, show (8 * ((i + 1 : Nat) : Int)).toNat = 8 + (8 * (i : Int)).toNat from (Nat.mul_succ 8 i).trans (Nat.add_comm _ _), Int.pow_add, Int.mul_add]
    have : (2 : Int) ^ 8 = 256 := by decide
    rw [this, ← Int.mul_assoc, ← Int.mul_assoc, Int.mul_comm _ 256]
    omega
theorem idx_of {e : List UInt8} {size : Int} {i : Nat} (he : (e.length : Int) = size) (h : i < size.toNat) : i < e.length := by rw [← he] at h; exact h
theorem rwhole {w : World} {wd ls ns : Int} {e : List UInt8} {size : Int} {ts : Tok} (he : (e.length : Int) = size) (hz0 : 1 ≤ size) (hz1 : size ≤ 8) : RCx w 350 250 140 [.int size ts] wd ls ns (fun _ => True) (e ≠ []) (fun _ _ => True) e (fun t => .int (decI e) t) := by
  intro base l p loose mean mg mb s Q E rd rdd hd x left nm at_ given step mv oh tx ta k1 k2 k3 k4 k5 k6 k7 k8 k9 v3 v4 v5 v6 v7 v9 rest S X T h1 h2 h3 hH hne1 hne2 hne3 hRX hS hr hQ hE
  refine' enter [(rd, instObj 213 rdd), (rdd, dictOf (rdD w x tx at_ ta mv wd ls ns nm k1 k2 k3 k4 k5 k6 k7 k8 k9 v3 v4 v5 v6 v7 v9) 9), (hd, oh)] S X T ?k1 ?k6 ?k7 ?k8 ?k9 ?kB ?_ ?c2 ?c3 ?c4 ?c5
  case k6 => k_is
  case k7 => k_is
  case k9 => exact BindsTo.of_eq rfl
  case kB => exact locs rfl
  case c5 => decide
  case c2 => exact rfl
  case c3 => exact rfl
  case c4 => exact rfl
  case k8 => exact Nat.le_of_ble_eq_true rfl
  case k1 => exact List.forall_mem_cons.mpr ⟨h1, List.forall_mem_cons.mpr ⟨h2, List.forall_mem_cons.mpr ⟨h3, List.forall_mem_nil _⟩⟩⟩
  intro g L' h₁ F' N' B' X' T' hg hL
  have S0 := S
  clear S
  (try dsimp only [RV])
  (try k_fold)
  refine absE3 (by passes_own) fun E9 hP9 hE9 => ?_
  have hne1 := neN hne1
  have hne2 := neN hne2
  have hne3 := neN hne3
  have hA0 := hS.a0
  have hA1 := hS.a1
  have hAz := hS.z
  have hG0 := hS.g0
  have hG1 := hS.g1
  have hG2 := hS.g2
  have hT0 := hS.s0
  have hT1 := hS.s1
  k_steps
  ((with_reducible show Parked (wpAny _ _ (call (Value.ref 133) _ _) _ _ _)); refine Parked.get ?_; k_dflt (refine' wpAny_call (RCx.here (rblock (e := e) ?s0 ?s1) ?C ?e4 ?e5 ?m1 ?U ?U2 ?m3 ?hH ?n1 ?n2 ?n3 ?hR ?hS ?hr ?_ ?_); (case C => (refine' ⟨?X, ?T, ?B, ?F, ?N, ?e2, ?hf, ?hke, ?e1, ?e3⟩; (case F => k_asm); (case N => k_asm); (case e2 => exact rfl); (case B => k_asm); (case X => k_asm); (case T => k_asm); (case hf => exact rfl); (case hke => exact rfl); (case e1 => exact rfl); (case e3 => exact rfl))); (case e4 => exact Nat.le_of_ble_eq_true rfl); (case e5 => exact Nat.le_of_ble_eq_true rfl); (case hR => exact hRX.deep (by k_asm) hg hL rfl); (case hH => assumption); (case m1 => k_mem); (case U => intro o9; k_upd); (case U2 => intro o9 o9'; k_upd); (case m3 => k_mem); (case n1 => k_ne); (case n2 => k_ne); (case n3 => k_ne); (case hS => assumption); (case hr => exact hr); (case s0 => first | assumption | omega | decide); (case s1 => first | assumption | omega | decide); k_whole); (any_goals (with_reducible intro h' tk' x' tx' at' ta' left' oh' given' t9' hi' po' r1' S' r2' g' F' N')); (any_goals (with_reducible intro hx' h' tk' e' oh' bd' rn' kb' gh' hi' fr' th')))
  · k_steps
    refine Parked.get ?_
    k_dflt (refine' loopFC_range (σ := Int × Tok) (n := size.toNat) (Str.ofString "found") (fun st => .int st.1 st.2) [] (0, _) (fun i st => st.1 = decI (e.take i)) ?F ?N ?hh ?hr ?hb ?hb1 ?hm ?hj ?_ ?_; (case F => k_asm); (case N => k_asm); (case hh => exact rfl); (case hr => assumption); (case hb => omega); (case hb1 => omega); (case hm => exact rfl))
    case hj => exact rfl
    · rintro i9 t9 ⟨f9, tf9⟩ u9 I9 oI9 h9 tk9 hi9 he9 off9 F9 N9
      dsimp only at *
      simp only [LCg.Off1, and_true] at off9
      have hi8 := idx_of he hi9
      have hi7 := Int.ofNat_lt.mpr hi8
      k_steps
      refine Parked.get ?_
      have hb9 := (e.getD ((i9 : Int)).toNat 0).toNat_lt
      k_dflt (refine' lshift_int_small ?a ?b ?c ?_; (case a => omega); (case b => omega); (case c => (rw [Int.natAbs_natCast]; omega)))
      k_steps
      rename Fr _ _ _ _ => F8
      rename News _ _ _ _ => N8
      refine ⟨_, _, _, (f9 + _, _), rfl, F8, N8, (by simp only [LCg.Off1, and_true]; exact off9), rfl, fun z q1 q2 q3 => ?_, ?_⟩
      · simp only [frF, mmOf, if_neg q1, if_neg q2, q3, Bool.false_eq_true, if_false]
      · show f9 + _ = _
        rw [he9]; exact decI_next hi8
    · rintro u9 ux9 ⟨f9, tf9⟩ h9 tk9 he9 F9 N9
      dsimp only at *
      k_steps
      dsimp only
      have hf9 : f9 = decI e := by rw [he9, List.take_of_length_le (by rw [← he]; exact Nat.le_refl _)]
      rw [hf9]
      exact hQ _ _ x' _ at' _ left' oh' given' _ trivial r1' S' r2' g' ((keepBut_of (by assumption) hg).drop h1.get (News.get (by assumption) (by k_mem))) (News.get (by assumption) (by k_mem)) (News.get (by assumption) (by k_mem)) hi'
  · rename Fr _ _ _ _ => F8
    rename News _ _ _ _ => N8
    k_steps
    refine hE9 _ _ ?_
    exact thrown_pass2 S0 hL rfl rfl F8 hg th' (((keepBut_of F8 hg).drop h1.get (News.get N8 (by k_mem))).drop h2.get (News.get N8 (by k_mem))) kb' gh' h3 fr' (fun hy h' q1 q2 q3 q4 => hE hy h' _ _ _ bd' rn' q1 q2 hi' q3 q4)
theorem roctet {w : World} {wd ls ns : Int} {e : List UInt8} (he : (e.length : Int) = 1) : RCx w 340 200 147 [] wd ls ns (fun _ => True) (e ≠ []) (fun _ _ => True) e (fun t => .int (decI e) t) := by
  intro base l p loose mean mg mb s Q E rd rdd hd x left nm at_ given step mv oh tx ta k1 k2 k3 k4 k5 k6 k7 k8 k9 v3 v4 v5 v6 v7 v9 rest S X T h1 h2 h3 hH hne1 hne2 hne3 hRX hS hr hQ hE
  refine' enter [(rd, instObj 213 rdd), (rdd, dictOf (rdD w x tx at_ ta mv wd ls ns nm k1 k2 k3 k4 k5 k6 k7 k8 k9 v3 v4 v5 v6 v7 v9) 9), (hd, oh)] S X T ?k1 ?k6 ?k7 ?k8 ?k9 ?kB ?_ ?c2 ?c3 ?c4 ?c5
  case k6 => k_is
  case k7 => k_is
  case k9 => exact BindsTo.of_eq rfl
  case kB => exact locs rfl
  case c5 => decide
  case c2 => exact rfl
  case c3 => exact rfl
  case c4 => exact rfl
  case k8 => exact Nat.le_of_ble_eq_true rfl
  case k1 => exact List.forall_mem_cons.mpr ⟨h1, List.forall_mem_cons.mpr ⟨h2, List.forall_mem_cons.mpr ⟨h3, List.forall_mem_nil _⟩⟩⟩
  intro g L' h₁ F' N' B' X' T' hg hL
  have S0 := S
  clear S
  (try dsimp only [RV])
  (try k_fold)
  refine absE3 (by passes_own) fun E9 hP9 hE9 => ?_
  have hne1 := neN hne1
  have hne2 := neN hne2
  have hne3 := neN hne3
  have hA0 := hS.a0
  have hA1 := hS.a1
  have hAz := hS.z
  have hG0 := hS.g0
  have hG1 := hS.g1
  have hG2 := hS.g2
  have hT0 := hS.s0
  have hT1 := hS.s1
  k_steps
  ((with_reducible show Parked (wpAny _ _ (call (Value.ref 140) _ _) _ _ _)); refine Parked.get ?_; k_dflt (refine' wpAny_call (RCx.here (rwhole (e := e) ?s0 ?s1 ?s2) ?C ?e4 ?e5 ?m1 ?U ?U2 ?m3 ?hH ?n1 ?n2 ?n3 ?hR ?hS ?hr ?_ ?_); (case C => (refine' ⟨?X, ?T, ?B, ?F, ?N, ?e2, ?hf, ?hke, ?e1, ?e3⟩; (case F => k_asm); (case N => k_asm); (case e2 => exact rfl); (case B => k_asm); (case X => k_asm); (case T => k_asm); (case hf => exact rfl); (case hke => exact rfl); (case e1 => exact rfl); (case e3 => exact rfl))); (case e4 => exact Nat.le_of_ble_eq_true rfl); (case e5 => exact Nat.le_of_ble_eq_true rfl); (case hR => exact hRX.deep (by k_asm) hg hL rfl); (case hH => assumption); (case m1 => k_mem); (case U => intro o9; k_upd); (case U2 => intro o9 o9'; k_upd); (case m3 => k_mem); (case n1 => k_ne); (case n2 => k_ne); (case n3 => k_ne); (case hS => assumption); (case hr => exact hr); (case s0 => first | assumption | omega | decide); (case s1 => first | assumption | omega | decide); (case s2 => first | assumption | omega | decide); k_whole); (any_goals (with_reducible intro h' tk' x' tx' at' ta' left' oh' given' t9' hi' po' r1' S' r2' g' F' N')); (any_goals (with_reducible intro hx' h' tk' e' oh' bd' rn' kb' gh' hi' fr' th')))
  · k_steps
    exact hQ _ _ x' _ at' _ left' oh' given' _ trivial r1' S' r2' g' ((keepBut_of (by assumption) hg).drop h1.get (News.get (by assumption) (by k_mem))) (News.get (by assumption) (by k_mem)) (News.get (by assumption) (by k_mem)) hi'
  · ((rename Fr _ _ _ _ => F8); (rename News _ _ _ _ => N8); k_steps; refine hE9 _ _ ?_; exact thrown_pass2 S0 hL rfl rfl F8 hg th' (((keepBut_of F8 hg).drop h1.get (News.get N8 (by k_mem))).drop h2.get (News.get N8 (by k_mem))) kb' gh' h3 fr' (fun hy h' q1 q2 q3 q4 => hE hy h' _ _ _ bd' rn' q1 q2 hi' q3 q4))
theorem rinteger {w : World} {wd ls ns : Int} {e : List UInt8} (he : (e.length : Int) = 4) (hv : decI e < 2147483648) : RCx w 330 150 154 [] wd ls ns (fun _ => True) (e ≠ []) (fun _ _ => True) e (fun t => .int (decI e) t) := by
  intro base l p loose mean mg mb s Q E rd rdd hd x left nm at_ given step mv oh tx ta k1 k2 k3 k4 k5 k6 k7 k8 k9 v3 v4 v5 v6 v7 v9 rest S X T h1 h2 h3 hH hne1 hne2 hne3 hRX hS hr hQ hE
  refine' enter [(rd, instObj 213 rdd), (rdd, dictOf (rdD w x tx at_ ta mv wd ls ns nm k1 k2 k3 k4 k5 k6 k7 k8 k9 v3 v4 v5 v6 v7 v9) 9), (hd, oh)] S X T ?k1 ?k6 ?k7 ?k8 ?k9 ?kB ?_ ?c2 ?c3 ?c4 ?c5
  case k6 => k_is
  case k7 => k_is
  case k9 => exact BindsTo.of_eq rfl
  case kB => exact locs rfl
  case c5 => decide
  case c2 => exact rfl
  case c3 => exact rfl
  case c4 => exact rfl
  case k8 => exact Nat.le_of_ble_eq_true rfl
  case k1 => exact List.forall_mem_cons.mpr ⟨h1, List.forall_mem_cons.mpr ⟨h2, List.forall_mem_cons.mpr ⟨h3, List.forall_mem_nil _⟩⟩⟩
  intro g L' h₁ F' N' B' X' T' hg hL
  have S0 := S
  clear S
  (try dsimp only [RV])
  (try k_fold)
  refine absE3 (by passes_own) fun E9 hP9 hE9 => ?_
  have hne1 := neN hne1
  have hne2 := neN hne2
  have hne3 := neN hne3
  have hA0 := hS.a0
  have hA1 := hS.a1
  have hAz := hS.z
  have hG0 := hS.g0
  have hG1 := hS.g1
  have hG2 := hS.g2
  have hT0 := hS.s0
  have hT1 := hS.s1
  k_steps
  ((with_reducible show Parked (wpAny _ _ (call (Value.ref 140) _ _) _ _ _)); refine Parked.get ?_; k_dflt (refine' wpAny_call (RCx.here (rwhole (e := e) ?s0 ?s1 ?s2) ?C ?e4 ?e5 ?m1 ?U ?U2 ?m3 ?hH ?n1 ?n2 ?n3 ?hR ?hS ?hr ?_ ?_); (case C => (refine' ⟨?X, ?T, ?B, ?F, ?N, ?e2, ?hf, ?hke, ?e1, ?e3⟩; (case F => k_asm); (case N => k_asm); (case e2 => exact rfl); (case B => k_asm); (case X => k_asm); (case T => k_asm); (case hf => exact rfl); (case hke => exact rfl); (case e1 => exact rfl); (case e3 => exact rfl))); (case e4 => exact Nat.le_of_ble_eq_true rfl); (case e5 => exact Nat.le_of_ble_eq_true rfl); (case hR => exact hRX.deep (by k_asm) hg hL rfl); (case hH => assumption); (case m1 => k_mem); (case U => intro o9; k_upd); (case U2 => intro o9 o9'; k_upd); (case m3 => k_mem); (case n1 => k_ne); (case n2 => k_ne); (case n3 => k_ne); (case hS => assumption); (case hr => exact hr); (case s0 => first | assumption | omega | decide); (case s1 => first | assumption | omega | decide); (case s2 => first | assumption | omega | decide); k_whole); (any_goals (with_reducible intro h' tk' x' tx' at' ta' left' oh' given' t9' hi' po' r1' S' r2' g' F' N')); (any_goals (with_reducible intro hx' h' tk' e' oh' bd' rn' kb' gh' hi' fr' th')))
  · k_steps
    exact hQ _ _ x' _ at' _ left' oh' given' _ trivial r1' S' r2' g' ((keepBut_of (by assumption) hg).drop h1.get (News.get (by assumption) (by k_mem))) (News.get (by assumption) (by k_mem)) (News.get (by assumption) (by k_mem)) hi'
  · ((rename Fr _ _ _ _ => F8); (rename News _ _ _ _ => N8); k_steps; refine hE9 _ _ ?_; exact thrown_pass2 S0 hL rfl rfl F8 hg th' (((keepBut_of F8 hg).drop h1.get (News.get N8 (by k_mem))).drop h2.get (News.get N8 (by k_mem))) kb' gh' h3 fr' (fun hy h' q1 q2 q3 q4 => hE hy h' _ _ _ bd' rn' q1 q2 hi' q3 q4))
theorem decI_bounds : ∀ (e : List UInt8), 0 ≤ decI e ∧ decI e < 256 ^ e.length
  | [] => by simp [decI]
  | b :: r => by
    have ih := decI_bounds r
    have hb := b.toNat_lt
    show 0 ≤ (b.toNat : Int) + 256 * decI r ∧ (b.toNat : Int) + 256 * decI r < 256 ^ (r.length + 1)
    rw [Int.pow_succ]
    omega
theorem pow_hi {ns : Int} (h0 : 1 ≤ ns) (h1 : ns ≤ 8) : (256 : Int) ^ ns.toNat ≤ 2 ^ 64 := by
  have e : ((256 ^ ns.toNat : Nat) : Int) = (256 : Int) ^ ns.toNat := Int.natCast_pow 256 _
  rw [← e]
  exact Int.ofNat_le.mpr (Nat.le_trans (Nat.pow_le_pow_right (by decide) (Int.toNat_le.mpr h1 : ns.toNat ≤ 8)) (Nat.le_of_ble_eq_true rfl : 256 ^ 8 ≤ 2 ^ 64))
def signI (e : List UInt8) (ns : Int) : Int := if ((256 : Int) ^ ns.toNat).fdiv 2 ≤ decI e then decI e - 256 ^ ns.toNat else decI e
theorem rnumber {w : World} {wd ls ns : Int} {e : List UInt8} (he : (e.length : Int) = ns) (hn0 : 1 ≤ ns) (hn1 : ns ≤ 8) (hw0 : 1 ≤ wd) (hw1 : wd ≤ 64) : RCx w 330 150 168 [] wd ls ns (fun _ => True) (e ≠ []) (fun _ _ => True) e (fun t => .int (wrapI (signI e ns) wd) t) := by
  intro base l p loose mean mg mb s Q E rd rdd hd x left nm at_ given step mv oh tx ta k1 k2 k3 k4 k5 k6 k7 k8 k9 v3 v4 v5 v6 v7 v9 rest S X T h1 h2 h3 hH hne1 hne2 hne3 hRX hS hr hQ hE
  refine' enter [(rd, instObj 213 rdd), (rdd, dictOf (rdD w x tx at_ ta mv wd ls ns nm k1 k2 k3 k4 k5 k6 k7 k8 k9 v3 v4 v5 v6 v7 v9) 9), (hd, oh)] S X T ?k1 ?k6 ?k7 ?k8 ?k9 ?kB ?_ ?c2 ?c3 ?c4 ?c5
  case k6 => k_is
  case k7 => k_is
  case k9 => exact BindsTo.of_eq rfl
  case kB => exact locs rfl
  case c5 => decide
  case c2 => exact rfl
  case c3 => exact rfl
  case c4 => exact rfl
  case k8 => exact Nat.le_of_ble_eq_true rfl
  case k1 => exact List.forall_mem_cons.mpr ⟨h1, List.forall_mem_cons.mpr ⟨h2, List.forall_mem_cons.mpr ⟨h3, List.forall_mem_nil _⟩⟩⟩
  intro g L' h₁ F' N' B' X' T' hg hL
  have S0 := S
  clear S
  (try dsimp only [RV])
  (try k_fold)
  refine absE3 (by passes_own) fun E9 hP9 hE9 => ?_
  have hne1 := neN hne1
  have hne2 := neN hne2
  have hne3 := neN hne3
  have hA0 := hS.a0
  have hA1 := hS.a1
  have hAz := hS.z
  have hG0 := hS.g0
  have hG1 := hS.g1
  have hG2 := hS.g2
  have hT0 := hS.s0
  have hT1 := hS.s1
  have hb9 := decI_bounds e
  rw [show e.length = ns.toNat by omega] at hb9
  have hp9 := pow_hi hn0 hn1
  obtain ⟨hM, hpos⟩ := half_facts hn0
  k_steps
  ((with_reducible show Parked (wpAny _ _ (call (Value.ref 140) _ _) _ _ _)); refine Parked.get ?_; k_dflt (refine' wpAny_call (RCx.here (rwhole (e := e) ?s0 ?s1 ?s2) ?C ?e4 ?e5 ?m1 ?U ?U2 ?m3 ?hH ?n1 ?n2 ?n3 ?hR ?hS ?hr ?_ ?_); (case C => (refine' ⟨?X, ?T, ?B, ?F, ?N, ?e2, ?hf, ?hke, ?e1, ?e3⟩; (case F => k_asm); (case N => k_asm); (case e2 => exact rfl); (case B => k_asm); (case X => k_asm); (case T => k_asm); (case hf => exact rfl); (case hke => exact rfl); (case e1 => exact rfl); (case e3 => exact rfl))); (case e4 => exact Nat.le_of_ble_eq_true rfl); (case e5 => exact Nat.le_of_ble_eq_true rfl); (case hR => exact hRX.deep (by k_asm) hg hL rfl); (case hH => assumption); (case m1 => k_mem); (case U => intro o9; k_upd); (case U2 => intro o9 o9'; k_upd); (case m3 => k_mem); (case n1 => k_ne); (case n2 => k_ne); (case n3 => k_ne); (case hS => assumption); (case hr => exact hr); (case s0 => first | assumption | omega | decide); (case s1 => first | assumption | omega | decide); (case s2 => first | assumption | omega | decide); k_whole); (any_goals (with_reducible intro h' tk' x' tx' at' ta' left' oh' given' t9' hi' po' r1' S' r2' g' F' N')); (any_goals (with_reducible intro hx' h' tk' e' oh' bd' rn' kb' gh' hi' fr' th')))
  · k_steps
    all_goals
      ((with_reducible show Parked (wpAny _ _ (call (Value.ref 97) _ _) _ _ _)); refine Parked.get ?_; k_dflt (refine' wrap_here ?C ?e4 ?e5 ?w0 ?w1 ?v ?_; (case C => (refine' ⟨?X, ?T, ?B, ?F, ?N, ?e2, ?hf, ?hke, ?e1, ?e3⟩; (case F => k_asm); (case N => k_asm); (case e2 => exact rfl); (case B => k_asm); (case X => k_asm); (case T => k_asm); (case hf => exact rfl); (case hke => exact rfl); (case e1 => exact rfl); (case e3 => exact rfl))); (case e4 => exact Nat.le_of_ble_eq_true rfl); (case e5 => exact Nat.le_of_ble_eq_true rfl); (case w0 => omega); (case w1 => omega); (case v => exact ⟨by omega, by omega⟩)); intro h' tk' t9 F' N')
      k_steps
    · have hs9 : signI e ns = decI e - 256 ^ ns.toNat := if_pos (by assumption)
      rw [hs9] at hQ
      exact hQ _ _ x' _ at' _ left' oh' given' _ trivial r1' S' r2' g' ((keepBut_of (by assumption) hg).drop h1.get (News.get (by assumption) (by k_mem))) (News.get (by assumption) (by k_mem)) (News.get (by assumption) (by k_mem)) hi'
    · have hs9 : signI e ns = decI e := if_neg (by assumption)
      rw [hs9] at hQ
      exact hQ _ _ x' _ at' _ left' oh' given' _ trivial r1' S' r2' g' ((keepBut_of (by assumption) hg).drop h1.get (News.get (by assumption) (by k_mem))) (News.get (by assumption) (by k_mem)) (News.get (by assumption) (by k_mem)) hi'
  · ((rename Fr _ _ _ _ => F8); (rename News _ _ _ _ => N8); k_steps; refine hE9 _ _ ?_; exact thrown_pass2 S0 hL rfl rfl F8 hg th' (((keepBut_of F8 hg).drop h1.get (News.get N8 (by k_mem))).drop h2.get (News.get N8 (by k_mem))) kb' gh' h3 fr' (fun hy h' q1 q2 q3 q4 => hE hy h' _ _ _ bd' rn' q1 q2 hi' q3 q4))
theorem bb_look : typeLookup (.type "bytes") "__bytes__" = pure (some (.builtin "bytes.__bytes__")) := by rw [typeLookup_type, builtinLookup_eq_fast]; kernel_rfl
section
variable {prog : Program} {w : World} {A : Around} {E : Value → Shared → Prop} {s : Shared}
theorem bb_new {b : Array UInt8} {t : Tok} {Q : Value → Shared → Prop} (hQ : Q (.bytes b t) s) :
    codeAny (model prog w) A (.call (.builtin "bytes.__new__") ⟨[.type "bytes", .bytes b t], []⟩) (wants Q E) s := by
  refine codeAny_of_tree ?_
  show wpAny _ A.in1 (do checkBuiltinCall "bytes.__new__" ⟨[.type "bytes", .bytes b t], []⟩; again (.builtin "bytes.__new__" ⟨[.type "bytes", .bytes b t], []⟩)) _ _ s
  refine wpAny_bind (wpAny_of_eq (F.bm_newCall _) (wpAny_pure ⟨plainId_quiet F.bm_plain _, codeAny_builtin F.bm_entry ?_⟩))
  rw [Around.under_plainId F.bm_plain _]
  have hT : s.TypeIs (.bytes b t) "bytes" := PySem.W.typeIs_bytes _ _ _
  unfold Builtin.«bytes.__new__»
  refine wpAny_bind (wpAny_of_eq (a := true) rfl ?_)
  refine bm_if_false rfl ?_
  refine wpAny_bind (wpAny_of_eq F.bm_sub ?_)
  refine bm_if_false rfl ?_
  refine wpAny_bind (wpAny_of_eq (F.bm_bind _) ?_)
  refine wpAny_bind (wpAny_of_eq (a := ()) rfl ?_)
  refine wpAny_bind (wpAny_of_eq (a := ()) rfl ?_)
  refine bm_if_false rfl ?_
  refine wpAny_bind (wpAny_specialOf hT bb_look ?_)
  dsimp only
  refine wpAny_bind (wpAny_rule ?_)
  refine wpAny_bind (wpAny_typeOf hT ?_)
  refine bm_if_true (by decide) ?_
  show wpAny _ _ (if (Value.type "bytes" == Value.type "bytes") = true then _ else _) _ _ _
  refine bm_if_true (by decide) ?_
  first
    | exact wpAny_pure hQ
    | exact wpAny_bind (wpAny_pure (wpAny_pure hQ))
theorem bb_call {b : Array UInt8} {t : Tok} {Q : Value → Shared → Prop} (hQ : Q (.bytes b t) s) : wpAny (model prog w) A (call (.type "bytes") [.bytes b t]) Q E s := by
  refine callType_codes (Q₁ := fun obj s₁ => s₁.TypeIs obj "bytes" ∧ Q obj s₁) F.bm_called (F.bm_typeCall _) F.entry_object_init
    (bb_new ⟨PySem.W.typeIs_bytes _ _ _, hQ⟩) fun obj s₁ h₁ => ?_
  exact ⟨h₁.1, F.args_object_init_2 obj _, object_init_meets F.bm_called.init.lookup F.bm_called.made (by decide) prog w A.in1 _ s₁ ⟨h₁.1, rfl, h₁.2⟩⟩
end
example : True := by
  k_with "call type:bytes" => (k_here; (with_reducible show wpAny _ _ (call (Value.type "bytes") [Value.bytes _ _]) _ _ _); with_reducible refine bb_call ?_)
  trivial
theorem rtextn {w : World} {wd ls ns : Int} {e : List UInt8} (he : (e.length : Int) = ls) (hl0 : 1 ≤ ls) (hl1 : ls ≤ 8) (hv : decI e = 0) : RCx w 330 150 175 [] wd ls ns (fun _ => True) (e ≠ []) (fun _ _ => True) e (fun _ => .none) := by
  intro base l p loose mean mg mb s Q E rd rdd hd x left nm at_ given step mv oh tx ta k1 k2 k3 k4 k5 k6 k7 k8 k9 v3 v4 v5 v6 v7 v9 rest S X T h1 h2 h3 hH hne1 hne2 hne3 hRX hS hr hQ hE
  refine' enter [(rd, instObj 213 rdd), (rdd, dictOf (rdD w x tx at_ ta mv wd ls ns nm k1 k2 k3 k4 k5 k6 k7 k8 k9 v3 v4 v5 v6 v7 v9) 9), (hd, oh)] S X T ?k1 ?k6 ?k7 ?k8 ?k9 ?kB ?_ ?c2 ?c3 ?c4 ?c5
  case k6 => k_is
  case k7 => k_is
  case k9 => exact BindsTo.of_eq rfl
  case kB => exact locs rfl
  case c5 => decide
  case c2 => exact rfl
  case c3 => exact rfl
  case c4 => exact rfl
  case k8 => exact Nat.le_of_ble_eq_true rfl
  case k1 => exact List.forall_mem_cons.mpr ⟨h1, List.forall_mem_cons.mpr ⟨h2, List.forall_mem_cons.mpr ⟨h3, List.forall_mem_nil _⟩⟩⟩
  intro g L' h₁ F' N' B' X' T' hg hL
  have S0 := S
  clear S
  (try dsimp only [RV])
  (try k_fold)
  refine absE3 (by passes_own) fun E9 hP9 hE9 => ?_
  have hne1 := neN hne1
  have hne2 := neN hne2
  have hne3 := neN hne3
  have hA0 := hS.a0
  have hA1 := hS.a1
  have hAz := hS.z
  have hG0 := hS.g0
  have hG1 := hS.g1
  have hG2 := hS.g2
  have hT0 := hS.s0
  have hT1 := hS.s1
  k_steps
  ((with_reducible show Parked (wpAny _ _ (call (Value.ref 140) _ _) _ _ _)); refine Parked.get ?_; k_dflt (refine' wpAny_call (RCx.here (rwhole (e := e) ?s0 ?s1 ?s2) ?C ?e4 ?e5 ?m1 ?U ?U2 ?m3 ?hH ?n1 ?n2 ?n3 ?hR ?hS ?hr ?_ ?_); (case C => (refine' ⟨?X, ?T, ?B, ?F, ?N, ?e2, ?hf, ?hke, ?e1, ?e3⟩; (case F => k_asm); (case N => k_asm); (case e2 => exact rfl); (case B => k_asm); (case X => k_asm); (case T => k_asm); (case hf => exact rfl); (case hke => exact rfl); (case e1 => exact rfl); (case e3 => exact rfl))); (case e4 => exact Nat.le_of_ble_eq_true rfl); (case e5 => exact Nat.le_of_ble_eq_true rfl); (case hR => exact hRX.deep (by k_asm) hg hL rfl); (case hH => assumption); (case m1 => k_mem); (case U => intro o9; k_upd); (case U2 => intro o9 o9'; k_upd); (case m3 => k_mem); (case n1 => k_ne); (case n2 => k_ne); (case n3 => k_ne); (case hS => assumption); (case hr => exact hr); (case s0 => first | assumption | omega | decide); (case s1 => first | assumption | omega | decide); (case s2 => first | assumption | omega | decide); k_whole); (any_goals (with_reducible intro h' tk' x' tx' at' ta' left' oh' given' t9' hi' po' r1' S' r2' g' F' N')); (any_goals (with_reducible intro hx' h' tk' e' oh' bd' rn' kb' gh' hi' fr' th')))
  · rw [hv]
    k_steps
    exact hQ _ _ x' _ at' _ left' oh' given' 0 trivial r1' S' r2' g' ((keepBut_of (by assumption) hg).drop h1.get (News.get (by assumption) (by k_mem))) (News.get (by assumption) (by k_mem)) (News.get (by assumption) (by k_mem)) hi'
  · ((rename Fr _ _ _ _ => F8); (rename News _ _ _ _ => N8); k_steps; refine hE9 _ _ ?_; exact thrown_pass2 S0 hL rfl rfl F8 hg th' (((keepBut_of F8 hg).drop h1.get (News.get N8 (by k_mem))).drop h2.get (News.get N8 (by k_mem))) kb' gh' h3 fr' (fun hy h' q1 q2 q3 q4 => hE hy h' _ _ _ bd' rn' q1 q2 hi' q3 q4))
theorem rtext {w : World} {wd ls ns : Int} {e1 e2 : List UInt8} (he : (e1.length : Int) = ls) (hl0 : 1 ≤ ls) (hl1 : ls ≤ 8) (hv : (e2.length : Int) = decI e1) (hv0 : 1 ≤ e2.length) (hv1 : e2.length ≤ 1000) : RCx w 330 150 175 [] wd ls ns (fun _ => True) (e1 ++ e2 ≠ []) (fun _ _ => True) (e1 ++ e2) (fun t => .bytes (e2.take (e2.length - 1)).toArray t) := by
  intro base l p loose mean mg mb s Q E rd rdd hd x left nm at_ given step mv oh tx ta k1 k2 k3 k4 k5 k6 k7 k8 k9 v3 v4 v5 v6 v7 v9 rest S X T h1 h2 h3 hH hne1 hne2 hne3 hRX hS hr hQ hE
  refine' enter [(rd, instObj 213 rdd), (rdd, dictOf (rdD w x tx at_ ta mv wd ls ns nm k1 k2 k3 k4 k5 k6 k7 k8 k9 v3 v4 v5 v6 v7 v9) 9), (hd, oh)] S X T ?k1 ?k6 ?k7 ?k8 ?k9 ?kB ?_ ?c2 ?c3 ?c4 ?c5
  case k6 => k_is
  case k7 => k_is
  case k9 => exact BindsTo.of_eq rfl
  case kB => exact locs rfl
  case c5 => decide
  case c2 => exact rfl
  case c3 => exact rfl
  case c4 => exact rfl
  case k8 => exact Nat.le_of_ble_eq_true rfl
  case k1 => exact List.forall_mem_cons.mpr ⟨h1, List.forall_mem_cons.mpr ⟨h2, List.forall_mem_cons.mpr ⟨h3, List.forall_mem_nil _⟩⟩⟩
  intro g L' h₁ F' N' B' X' T' hg hL
  have S0 := S
  clear S
  (try dsimp only [RV])
  (try k_fold)
  refine absE3 (by passes_own) fun E9 hP9 hE9 => ?_
  have hne1 := neN hne1
  have hne2 := neN hne2
  have hne3 := neN hne3
  have hA0 := hS.a0
  have hA1 := hS.a1
  have hAz := hS.z
  have hG0 := hS.g0
  have hG1 := hS.g1
  have hG2 := hS.g2
  have hT0 := hS.s0
  have hT1 := hS.s1
  have ne1 : e1 ≠ [] := fun z => by rw [z] at he; simp only [List.length_nil] at he; omega
  have hr1 : (True ∧ rem x at_ left = e1 ++ (e2 ++ rest)) ∨ (rem x at_ left = [] ∧ e1 ≠ []) := hr.elim (fun z => Or.inl ⟨trivial, z.2.trans (List.append_assoc _ _ _)⟩) (fun z => Or.inr ⟨z.1, ne1⟩)
  k_steps
  ((with_reducible show Parked (wpAny _ _ (call (Value.ref 140) _ _) _ _ _)); refine Parked.get ?_; k_dflt (refine' wpAny_call (RCx.here (rwhole (e := e1) ?s0 ?s1 ?s2) ?C ?e4 ?e5 ?m1 ?U ?U2 ?m3 ?hH ?n1 ?n2 ?n3 ?hR ?hS ?hr ?_ ?_); (case C => (refine' ⟨?X, ?T, ?B, ?F, ?N, ?e2, ?hf, ?hke, ?e1, ?e3⟩; (case F => k_asm); (case N => k_asm); (case e2 => exact rfl); (case B => k_asm); (case X => k_asm); (case T => k_asm); (case hf => exact rfl); (case hke => exact rfl); (case e1 => exact rfl); (case e3 => exact rfl))); (case e4 => exact Nat.le_of_ble_eq_true rfl); (case e5 => exact Nat.le_of_ble_eq_true rfl); (case hR => exact hRX.deep (by k_asm) hg hL rfl); (case hH => assumption); (case m1 => k_mem); (case U => intro o9; k_upd); (case U2 => intro o9 o9'; k_upd); (case m3 => k_mem); (case n1 => k_ne); (case n2 => k_ne); (case n3 => k_ne); (case hS => assumption); (case hr => exact hr1); (case s0 => first | assumption | omega | decide); (case s1 => first | assumption | omega | decide); (case s2 => first | assumption | omega | decide); k_whole); (any_goals (with_reducible intro h' tk' x' tx' at' ta' left' oh' given' t9' hi' po' r1' S' r2' g' F' N')); (any_goals (with_reducible intro hx' h' tk' e' oh' bd' rn' kb' gh' hi' fr' th')))
  · have g8 := g'
    have r8 := r1'
    have hsz9 : e2.toArray.size = e2.length := List.size_toArray
    rw [← hv]
    k_steps
    · exfalso; omega
    · ((with_reducible show Parked (wpAny _ _ (call (Value.ref 133) _ _) _ _ _)); refine Parked.get ?_; k_dflt (refine' wpAny_call (RCx.here (rblock (e := e2) ?s0 ?s1) ?C ?e4 ?e5 ?m1 ?U ?U2 ?m3 ?hH ?n1 ?n2 ?n3 ?hR ?hS ?hr ?_ ?_); (case C => (refine' ⟨?X, ?T, ?B, ?F, ?N, ?e2, ?hf, ?hke, ?e1, ?e3⟩; (case F => k_asm); (case N => k_asm); (case e2 => exact rfl); (case B => k_asm); (case X => k_asm); (case T => k_asm); (case hf => exact rfl); (case hke => exact rfl); (case e1 => exact rfl); (case e3 => exact rfl))); (case e4 => exact Nat.le_of_ble_eq_true rfl); (case e5 => exact Nat.le_of_ble_eq_true rfl); (case hR => exact hRX.deep (by k_asm) hg hL rfl); (case hH => assumption); (case m1 => k_mem); (case U => intro o9; k_upd); (case U2 => intro o9 o9'; k_upd); (case m3 => k_mem); (case n1 => k_ne); (case n2 => k_ne); (case n3 => k_ne); (case hS => assumption); (case hr => exact Or.inl ⟨trivial, r2'⟩); (case s0 => first | assumption | omega | decide); (case s1 => first | assumption | omega | decide); k_whole); (any_goals (with_reducible intro h' tk' x' tx' at' ta' left' oh' given' t9' hi' po' r1' S' r2' g' F' N')); (any_goals (with_reducible intro hx' h' tk' e' oh' bd' rn' kb' gh' hi' fr' th')))
      · k_steps
        have hx9 : x9 = (e2.take (e2.length - 1)).toArray := Array.toList_inj.mp (by rw [bs9]; show e2.take _ = e2.take _; congr 1; exact Int.toNat_sub _ 1)
        rw [hx9]
        exact hQ _ _ x' _ at' _ left' oh' given' _ trivial (r8.trans (List.append_assoc _ _ _).symm) S' r2' (two_steps g' g8) ((keepBut_of (by assumption) hg).drop h1.get (News.get (by assumption) (by k_mem))) (News.get (by assumption) (by k_mem)) (News.get (by assumption) (by k_mem)) hi'
      · (exfalso; rw [r2'] at rn'; exact bd' (List.append_eq_nil_iff.mp rn').1)
  · ((rename Fr _ _ _ _ => F8); (rename News _ _ _ _ => N8); k_steps; refine hE9 _ _ ?_; exact thrown_pass2 S0 hL rfl rfl F8 hg th' (((keepBut_of F8 hg).drop h1.get (News.get N8 (by k_mem))).drop h2.get (News.get N8 (by k_mem))) kb' gh' h3 fr' (fun hy h' q1 q2 q3 q4 => hE hy h' _ _ _ (fun z => bd' (List.append_eq_nil_iff.mp z).1) rn' q1 q2 hi' q3 q4))
theorem rconstn {w : World} {wd ls ns : Int} {e : List UInt8} (he : (e.length : Int) = 1) (hv : decI e = 0) : RCx w 325 125 182 [] wd ls ns (fun _ => True) (e ≠ []) (fun _ _ => True) e (fun _ => .none) := by
  intro base l p loose mean mg mb s Q E rd rdd hd x left nm at_ given step mv oh tx ta k1 k2 k3 k4 k5 k6 k7 k8 k9 v3 v4 v5 v6 v7 v9 rest S X T h1 h2 h3 hH hne1 hne2 hne3 hRX hS hr hQ hE
  refine' enter [(rd, instObj 213 rdd), (rdd, dictOf (rdD w x tx at_ ta mv wd ls ns nm k1 k2 k3 k4 k5 k6 k7 k8 k9 v3 v4 v5 v6 v7 v9) 9), (hd, oh)] S X T ?k1 ?k6 ?k7 ?k8 ?k9 ?kB ?_ ?c2 ?c3 ?c4 ?c5
  case k6 => k_is
  case k7 => k_is
  case k9 => exact BindsTo.of_eq rfl
  case kB => exact locs rfl
  case c5 => decide
  case c2 => exact rfl
  case c3 => exact rfl
  case c4 => exact rfl
  case k8 => exact Nat.le_of_ble_eq_true rfl
  case k1 => exact List.forall_mem_cons.mpr ⟨h1, List.forall_mem_cons.mpr ⟨h2, List.forall_mem_cons.mpr ⟨h3, List.forall_mem_nil _⟩⟩⟩
  intro g L' h₁ F' N' B' X' T' hg hL
  have S0 := S
  clear S
  (try dsimp only [RV])
  (try k_fold)
  refine absE3 (by passes_own) fun E9 hP9 hE9 => ?_
  have hne1 := neN hne1
  have hne2 := neN hne2
  have hne3 := neN hne3
  have hA0 := hS.a0
  have hA1 := hS.a1
  have hAz := hS.z
  have hG0 := hS.g0
  have hG1 := hS.g1
  have hG2 := hS.g2
  have hT0 := hS.s0
  have hT1 := hS.s1
  k_steps
  ((with_reducible show Parked (wpAny _ _ (call (Value.ref 147) _ _) _ _ _)); refine Parked.get ?_; k_dflt (refine' wpAny_call (RCx.here (roctet (e := e) ?s0) ?C ?e4 ?e5 ?m1 ?U ?U2 ?m3 ?hH ?n1 ?n2 ?n3 ?hR ?hS ?hr ?_ ?_); (case C => (refine' ⟨?X, ?T, ?B, ?F, ?N, ?e2, ?hf, ?hke, ?e1, ?e3⟩; (case F => k_asm); (case N => k_asm); (case e2 => exact rfl); (case B => k_asm); (case X => k_asm); (case T => k_asm); (case hf => exact rfl); (case hke => exact rfl); (case e1 => exact rfl); (case e3 => exact rfl))); (case e4 => exact Nat.le_of_ble_eq_true rfl); (case e5 => exact Nat.le_of_ble_eq_true rfl); (case hR => exact hRX.deep (by k_asm) hg hL rfl); (case hH => assumption); (case m1 => k_mem); (case U => intro o9; k_upd); (case U2 => intro o9 o9'; k_upd); (case m3 => k_mem); (case n1 => k_ne); (case n2 => k_ne); (case n3 => k_ne); (case hS => assumption); (case hr => exact hr); (case s0 => first | assumption | omega | decide); k_whole); (any_goals (with_reducible intro h' tk' x' tx' at' ta' left' oh' given' t9' hi' po' r1' S' r2' g' F' N')); (any_goals (with_reducible intro hx' h' tk' e' oh' bd' rn' kb' gh' hi' fr' th')))
  · have g8 := g'
    have r8 := r1'
    rw [hv]
    k_steps
    exact hQ _ _ x' _ at' _ left' oh' given' 0 trivial r1' S' r2' g' ((keepBut_of (by assumption) hg).drop h1.get (News.get (by assumption) (by k_mem))) (News.get (by assumption) (by k_mem)) (News.get (by assumption) (by k_mem)) hi'
  · ((rename Fr _ _ _ _ => F8); (rename News _ _ _ _ => N8); k_steps; refine hE9 _ _ ?_; exact thrown_pass2 S0 hL rfl rfl F8 hg th' (((keepBut_of F8 hg).drop h1.get (News.get N8 (by k_mem))).drop h2.get (News.get N8 (by k_mem))) kb' gh' h3 fr' (fun hy h' q1 q2 q3 q4 => hE hy h' _ _ _ bd' rn' q1 q2 hi' q3 q4))
theorem rconstb {w : World} {wd ls ns : Int} {e1 e2 : List UInt8} {b : Bool} (he : (e1.length : Int) = 1) (hv : decI e1 = 1) (he2 : (e2.length : Int) = 1) (hv2 : decI e2 = if b then 1 else 0) : RCx w 325 125 182 [] wd ls ns (fun _ => True) (e1 ++ e2 ≠ []) (fun _ _ => True) (e1 ++ e2) (fun _ => .bool b) := by
  intro base l p loose mean mg mb s Q E rd rdd hd x left nm at_ given step mv oh tx ta k1 k2 k3 k4 k5 k6 k7 k8 k9 v3 v4 v5 v6 v7 v9 rest S X T h1 h2 h3 hH hne1 hne2 hne3 hRX hS hr hQ hE
  refine' enter [(rd, instObj 213 rdd), (rdd, dictOf (rdD w x tx at_ ta mv wd ls ns nm k1 k2 k3 k4 k5 k6 k7 k8 k9 v3 v4 v5 v6 v7 v9) 9), (hd, oh)] S X T ?k1 ?k6 ?k7 ?k8 ?k9 ?kB ?_ ?c2 ?c3 ?c4 ?c5
  case k6 => k_is
  case k7 => k_is
  case k9 => exact BindsTo.of_eq rfl
  case kB => exact locs rfl
  case c5 => decide
  case c2 => exact rfl
  case c3 => exact rfl
  case c4 => exact rfl
  case k8 => exact Nat.le_of_ble_eq_true rfl
  case k1 => exact List.forall_mem_cons.mpr ⟨h1, List.forall_mem_cons.mpr ⟨h2, List.forall_mem_cons.mpr ⟨h3, List.forall_mem_nil _⟩⟩⟩
  intro g L' h₁ F' N' B' X' T' hg hL
  have S0 := S
  clear S
  (try dsimp only [RV])
  (try k_fold)
  refine absE3 (by passes_own) fun E9 hP9 hE9 => ?_
  have hne1 := neN hne1
  have hne2 := neN hne2
  have hne3 := neN hne3
  have hA0 := hS.a0
  have hA1 := hS.a1
  have hAz := hS.z
  have hG0 := hS.g0
  have hG1 := hS.g1
  have hG2 := hS.g2
  have hT0 := hS.s0
  have hT1 := hS.s1
  have ne1 : e1 ≠ [] := fun z => by rw [z] at he; simp only [List.length_nil] at he; omega
  have hr1 : (True ∧ rem x at_ left = e1 ++ (e2 ++ rest)) ∨ (rem x at_ left = [] ∧ e1 ≠ []) := hr.elim (fun z => Or.inl ⟨trivial, z.2.trans (List.append_assoc _ _ _)⟩) (fun z => Or.inr ⟨z.1, ne1⟩)
  k_steps
  ((with_reducible show Parked (wpAny _ _ (call (Value.ref 147) _ _) _ _ _)); refine Parked.get ?_; k_dflt (refine' wpAny_call (RCx.here (roctet (e := e1) ?s0) ?C ?e4 ?e5 ?m1 ?U ?U2 ?m3 ?hH ?n1 ?n2 ?n3 ?hR ?hS ?hr ?_ ?_); (case C => (refine' ⟨?X, ?T, ?B, ?F, ?N, ?e2, ?hf, ?hke, ?e1, ?e3⟩; (case F => k_asm); (case N => k_asm); (case e2 => exact rfl); (case B => k_asm); (case X => k_asm); (case T => k_asm); (case hf => exact rfl); (case hke => exact rfl); (case e1 => exact rfl); (case e3 => exact rfl))); (case e4 => exact Nat.le_of_ble_eq_true rfl); (case e5 => exact Nat.le_of_ble_eq_true rfl); (case hR => exact hRX.deep (by k_asm) hg hL rfl); (case hH => assumption); (case m1 => k_mem); (case U => intro o9; k_upd); (case U2 => intro o9 o9'; k_upd); (case m3 => k_mem); (case n1 => k_ne); (case n2 => k_ne); (case n3 => k_ne); (case hS => assumption); (case hr => exact hr1); (case s0 => first | assumption | omega | decide); k_whole); (any_goals (with_reducible intro h' tk' x' tx' at' ta' left' oh' given' t9' hi' po' r1' S' r2' g' F' N')); (any_goals (with_reducible intro hx' h' tk' e' oh' bd' rn' kb' gh' hi' fr' th')))
  · have g8 := g'
    have r8 := r1'
    rw [hv]
    k_steps
    ((with_reducible show Parked (wpAny _ _ (call (Value.ref 147) _ _) _ _ _)); refine Parked.get ?_; k_dflt (refine' wpAny_call (RCx.here (roctet (e := e2) ?s0) ?C ?e4 ?e5 ?m1 ?U ?U2 ?m3 ?hH ?n1 ?n2 ?n3 ?hR ?hS ?hr ?_ ?_); (case C => (refine' ⟨?X, ?T, ?B, ?F, ?N, ?e2, ?hf, ?hke, ?e1, ?e3⟩; (case F => k_asm); (case N => k_asm); (case e2 => exact rfl); (case B => k_asm); (case X => k_asm); (case T => k_asm); (case hf => exact rfl); (case hke => exact rfl); (case e1 => exact rfl); (case e3 => exact rfl))); (case e4 => exact Nat.le_of_ble_eq_true rfl); (case e5 => exact Nat.le_of_ble_eq_true rfl); (case hR => exact hRX.deep (by k_asm) hg hL rfl); (case hH => assumption); (case m1 => k_mem); (case U => intro o9; k_upd); (case U2 => intro o9 o9'; k_upd); (case m3 => k_mem); (case n1 => k_ne); (case n2 => k_ne); (case n3 => k_ne); (case hS => assumption); (case hr => exact Or.inl ⟨trivial, r2'⟩); (case s0 => first | assumption | omega | decide); k_whole); (any_goals (with_reducible intro h' tk' x' tx' at' ta' left' oh' given' t9' hi' po' r1' S' r2' g' F' N')); (any_goals (with_reducible intro hx' h' tk' e' oh' bd' rn' kb' gh' hi' fr' th')))
    · (rw [hv2]; cases b <;> (k_steps; exact hQ _ _ x' _ at' _ left' oh' given' 0 trivial (r8.trans (List.append_assoc _ _ _).symm) S' r2' (two_steps g' g8) ((keepBut_of (by assumption) hg).drop h1.get (News.get (by assumption) (by k_mem))) (News.get (by assumption) (by k_mem)) (News.get (by assumption) (by k_mem)) hi'))
    · (exfalso; rw [r2'] at rn'; exact bd' (List.append_eq_nil_iff.mp rn').1)
  · ((rename Fr _ _ _ _ => F8); (rename News _ _ _ _ => N8); k_steps; refine hE9 _ _ ?_; exact thrown_pass2 S0 hL rfl rfl F8 hg th' (((keepBut_of F8 hg).drop h1.get (News.get N8 (by k_mem))).drop h2.get (News.get N8 (by k_mem))) kb' gh' h3 fr' (fun hy h' q1 q2 q3 q4 => hE hy h' _ _ _ (fun z => bd' (List.append_eq_nil_iff.mp z).1) rn' q1 q2 hi' q3 q4))
theorem rconsti {w : World} {wd ls ns : Int} {e1 e2 : List UInt8}  (he : (e1.length : Int) = 1) (hv : decI e1 = 3) (he2 : (e2.length : Int) = ns) (hn0 : 1 ≤ ns) (hn1 : ns ≤ 8) (hw0 : 1 ≤ wd) (hw1 : wd ≤ 64) : RCx w 325 125 182 [] wd ls ns (fun _ => True) (e1 ++ e2 ≠ []) (fun _ _ => True) (e1 ++ e2) (fun t => .int (wrapI (signI e2 ns) wd) t) := by
  intro base l p loose mean mg mb s Q E rd rdd hd x left nm at_ given step mv oh tx ta k1 k2 k3 k4 k5 k6 k7 k8 k9 v3 v4 v5 v6 v7 v9 rest S X T h1 h2 h3 hH hne1 hne2 hne3 hRX hS hr hQ hE
  refine' enter [(rd, instObj 213 rdd), (rdd, dictOf (rdD w x tx at_ ta mv wd ls ns nm k1 k2 k3 k4 k5 k6 k7 k8 k9 v3 v4 v5 v6 v7 v9) 9), (hd, oh)] S X T ?k1 ?k6 ?k7 ?k8 ?k9 ?kB ?_ ?c2 ?c3 ?c4 ?c5
  case k6 => k_is
  case k7 => k_is
  case k9 => exact BindsTo.of_eq rfl
  case kB => exact locs rfl
  case c5 => decide
  case c2 => exact rfl
  case c3 => exact rfl
  case c4 => exact rfl
  case k8 => exact Nat.le_of_ble_eq_true rfl
  case k1 => exact List.forall_mem_cons.mpr ⟨h1, List.forall_mem_cons.mpr ⟨h2, List.forall_mem_cons.mpr ⟨h3, List.forall_mem_nil _⟩⟩⟩
  intro g L' h₁ F' N' B' X' T' hg hL
  have S0 := S
  clear S
  (try dsimp only [RV])
  (try k_fold)
  refine absE3 (by passes_own) fun E9 hP9 hE9 => ?_
  have hne1 := neN hne1
  have hne2 := neN hne2
  have hne3 := neN hne3
  have hA0 := hS.a0
  have hA1 := hS.a1
  have hAz := hS.z
  have hG0 := hS.g0
  have hG1 := hS.g1
  have hG2 := hS.g2
  have hT0 := hS.s0
  have hT1 := hS.s1
  have ne1 : e1 ≠ [] := fun z => by rw [z] at he; simp only [List.length_nil] at he; omega
  have hr1 : (True ∧ rem x at_ left = e1 ++ (e2 ++ rest)) ∨ (rem x at_ left = [] ∧ e1 ≠ []) := hr.elim (fun z => Or.inl ⟨trivial, z.2.trans (List.append_assoc _ _ _)⟩) (fun z => Or.inr ⟨z.1, ne1⟩)
  k_steps
  ((with_reducible show Parked (wpAny _ _ (call (Value.ref 147) _ _) _ _ _)); refine Parked.get ?_; k_dflt (refine' wpAny_call (RCx.here (roctet (e := e1) ?s0) ?C ?e4 ?e5 ?m1 ?U ?U2 ?m3 ?hH ?n1 ?n2 ?n3 ?hR ?hS ?hr ?_ ?_); (case C => (refine' ⟨?X, ?T, ?B, ?F, ?N, ?e2, ?hf, ?hke, ?e1, ?e3⟩; (case F => k_asm); (case N => k_asm); (case e2 => exact rfl); (case B => k_asm); (case X => k_asm); (case T => k_asm); (case hf => exact rfl); (case hke => exact rfl); (case e1 => exact rfl); (case e3 => exact rfl))); (case e4 => exact Nat.le_of_ble_eq_true rfl); (case e5 => exact Nat.le_of_ble_eq_true rfl); (case hR => exact hRX.deep (by k_asm) hg hL rfl); (case hH => assumption); (case m1 => k_mem); (case U => intro o9; k_upd); (case U2 => intro o9 o9'; k_upd); (case m3 => k_mem); (case n1 => k_ne); (case n2 => k_ne); (case n3 => k_ne); (case hS => assumption); (case hr => exact hr1); (case s0 => first | assumption | omega | decide); k_whole); (any_goals (with_reducible intro h' tk' x' tx' at' ta' left' oh' given' t9' hi' po' r1' S' r2' g' F' N')); (any_goals (with_reducible intro hx' h' tk' e' oh' bd' rn' kb' gh' hi' fr' th')))
  · have g8 := g'
    have r8 := r1'
    rw [hv]
    k_steps
    ((with_reducible show Parked (wpAny _ _ (call (Value.ref 168) _ _) _ _ _)); refine Parked.get ?_; k_dflt (refine' wpAny_call (RCx.here (rnumber (e := e2) ?s0 ?s1 ?s2 ?s3 ?s4) ?C ?e4 ?e5 ?m1 ?U ?U2 ?m3 ?hH ?n1 ?n2 ?n3 ?hR ?hS ?hr ?_ ?_); (case C => (refine' ⟨?X, ?T, ?B, ?F, ?N, ?e2, ?hf, ?hke, ?e1, ?e3⟩; (case F => k_asm); (case N => k_asm); (case e2 => exact rfl); (case B => k_asm); (case X => k_asm); (case T => k_asm); (case hf => exact rfl); (case hke => exact rfl); (case e1 => exact rfl); (case e3 => exact rfl))); (case e4 => exact Nat.le_of_ble_eq_true rfl); (case e5 => exact Nat.le_of_ble_eq_true rfl); (case hR => exact hRX.deep (by k_asm) hg hL rfl); (case hH => assumption); (case m1 => k_mem); (case U => intro o9; k_upd); (case U2 => intro o9 o9'; k_upd); (case m3 => k_mem); (case n1 => k_ne); (case n2 => k_ne); (case n3 => k_ne); (case hS => assumption); (case hr => exact Or.inl ⟨trivial, r2'⟩); (case s0 => first | assumption | omega | decide); (case s1 => first | assumption | omega | decide); (case s2 => first | assumption | omega | decide); (case s3 => first | assumption | omega | decide); (case s4 => first | assumption | omega | decide); k_whole); (any_goals (with_reducible intro h' tk' x' tx' at' ta' left' oh' given' t9' hi' po' r1' S' r2' g' F' N')); (any_goals (with_reducible intro hx' h' tk' e' oh' bd' rn' kb' gh' hi' fr' th')))
    · (k_steps; exact hQ _ _ x' _ at' _ left' oh' given' _ trivial (r8.trans (List.append_assoc _ _ _).symm) S' r2' (two_steps g' g8) ((keepBut_of (by assumption) hg).drop h1.get (News.get (by assumption) (by k_mem))) (News.get (by assumption) (by k_mem)) (News.get (by assumption) (by k_mem)) hi')
    · (exfalso; rw [r2'] at rn'; exact bd' (List.append_eq_nil_iff.mp rn').1)
  · ((rename Fr _ _ _ _ => F8); (rename News _ _ _ _ => N8); k_steps; refine hE9 _ _ ?_; exact thrown_pass2 S0 hL rfl rfl F8 hg th' (((keepBut_of F8 hg).drop h1.get (News.get N8 (by k_mem))).drop h2.get (News.get N8 (by k_mem))) kb' gh' h3 fr' (fun hy h' q1 q2 q3 q4 => hE hy h' _ _ _ (fun z => bd' (List.append_eq_nil_iff.mp z).1) rn' q1 q2 hi' q3 q4))
theorem rconst {w : World} {wd ls ns : Int} {e1 e2 e3 : List UInt8} (he : (e1.length : Int) = 1) (hv : decI e1 = 4) (he2 : (e2.length : Int) = ls) (hl0 : 1 ≤ ls) (hl1 : ls ≤ 8) (hv2 : (e3.length : Int) = decI e2) (hv0 : 1 ≤ e3.length) (hv1 : e3.length ≤ 1000) : RCx w 325 125 182 [] wd ls ns (fun _ => True) (e1 ++ (e2 ++ e3) ≠ []) (fun _ _ => True) (e1 ++ (e2 ++ e3)) (fun t => .bytes (e3.take (e3.length - 1)).toArray t) := by
  intro base l p loose mean mg mb s Q E rd rdd hd x left nm at_ given step mv oh tx ta k1 k2 k3 k4 k5 k6 k7 k8 k9 v3 v4 v5 v6 v7 v9 rest S X T h1 h2 h3 hH hne1 hne2 hne3 hRX hS hr hQ hE
  refine' enter [(rd, instObj 213 rdd), (rdd, dictOf (rdD w x tx at_ ta mv wd ls ns nm k1 k2 k3 k4 k5 k6 k7 k8 k9 v3 v4 v5 v6 v7 v9) 9), (hd, oh)] S X T ?k1 ?k6 ?k7 ?k8 ?k9 ?kB ?_ ?c2 ?c3 ?c4 ?c5
  case k6 => k_is
  case k7 => k_is
  case k9 => exact BindsTo.of_eq rfl
  case kB => exact locs rfl
  case c5 => decide
  case c2 => exact rfl
  case c3 => exact rfl
  case c4 => exact rfl
  case k8 => exact Nat.le_of_ble_eq_true rfl
  case k1 => exact List.forall_mem_cons.mpr ⟨h1, List.forall_mem_cons.mpr ⟨h2, List.forall_mem_cons.mpr ⟨h3, List.forall_mem_nil _⟩⟩⟩
  intro g L' h₁ F' N' B' X' T' hg hL
  have S0 := S
  clear S
  (try dsimp only [RV])
  (try k_fold)
  refine absE3 (by passes_own) fun E9 hP9 hE9 => ?_
  have hne1 := neN hne1
  have hne2 := neN hne2
  have hne3 := neN hne3
  have hA0 := hS.a0
  have hA1 := hS.a1
  have hAz := hS.z
  have hG0 := hS.g0
  have hG1 := hS.g1
  have hG2 := hS.g2
  have hT0 := hS.s0
  have hT1 := hS.s1
  have ne1 : e1 ≠ [] := fun z => by rw [z] at he; simp only [List.length_nil] at he; omega
  have hr1 : (True ∧ rem x at_ left = e1 ++ ((e2 ++ e3) ++ rest)) ∨ (rem x at_ left = [] ∧ e1 ≠ []) := hr.elim (fun z => Or.inl ⟨trivial, z.2.trans (List.append_assoc _ _ _)⟩) (fun z => Or.inr ⟨z.1, ne1⟩)
  k_steps
  ((with_reducible show Parked (wpAny _ _ (call (Value.ref 147) _ _) _ _ _)); refine Parked.get ?_; k_dflt (refine' wpAny_call (RCx.here (roctet (e := e1) ?s0) ?C ?e4 ?e5 ?m1 ?U ?U2 ?m3 ?hH ?n1 ?n2 ?n3 ?hR ?hS ?hr ?_ ?_); (case C => (refine' ⟨?X, ?T, ?B, ?F, ?N, ?e2, ?hf, ?hke, ?e1, ?e3⟩; (case F => k_asm); (case N => k_asm); (case e2 => exact rfl); (case B => k_asm); (case X => k_asm); (case T => k_asm); (case hf => exact rfl); (case hke => exact rfl); (case e1 => exact rfl); (case e3 => exact rfl))); (case e4 => exact Nat.le_of_ble_eq_true rfl); (case e5 => exact Nat.le_of_ble_eq_true rfl); (case hR => exact hRX.deep (by k_asm) hg hL rfl); (case hH => assumption); (case m1 => k_mem); (case U => intro o9; k_upd); (case U2 => intro o9 o9'; k_upd); (case m3 => k_mem); (case n1 => k_ne); (case n2 => k_ne); (case n3 => k_ne); (case hS => assumption); (case hr => exact hr1); (case s0 => first | assumption | omega | decide); k_whole); (any_goals (with_reducible intro h' tk' x' tx' at' ta' left' oh' given' t9' hi' po' r1' S' r2' g' F' N')); (any_goals (with_reducible intro hx' h' tk' e' oh' bd' rn' kb' gh' hi' fr' th')))
  · have g8 := g'
    have r8 := r1'
    rw [hv]
    k_steps
    ((with_reducible show Parked (wpAny _ _ (call (Value.ref 175) _ _) _ _ _)); refine Parked.get ?_; k_dflt (refine' wpAny_call (RCx.here (rtext (e1 := e2) (e2 := e3) ?s0 ?s1 ?s2 ?s3 ?s4 ?s5) ?C ?e4 ?e5 ?m1 ?U ?U2 ?m3 ?hH ?n1 ?n2 ?n3 ?hR ?hS ?hr ?_ ?_); (case C => (refine' ⟨?X, ?T, ?B, ?F, ?N, ?e2, ?hf, ?hke, ?e1, ?e3⟩; (case F => k_asm); (case N => k_asm); (case e2 => exact rfl); (case B => k_asm); (case X => k_asm); (case T => k_asm); (case hf => exact rfl); (case hke => exact rfl); (case e1 => exact rfl); (case e3 => exact rfl))); (case e4 => exact Nat.le_of_ble_eq_true rfl); (case e5 => exact Nat.le_of_ble_eq_true rfl); (case hR => exact hRX.deep (by k_asm) hg hL rfl); (case hH => assumption); (case m1 => k_mem); (case U => intro o9; k_upd); (case U2 => intro o9 o9'; k_upd); (case m3 => k_mem); (case n1 => k_ne); (case n2 => k_ne); (case n3 => k_ne); (case hS => assumption); (case hr => exact Or.inl ⟨trivial, r2'⟩); (case s0 => first | assumption | omega | decide); (case s1 => first | assumption | omega | decide); (case s2 => first | assumption | omega | decide); (case s3 => first | assumption | omega | decide); (case s4 => first | assumption | omega | decide); (case s5 => first | assumption | omega | decide); k_whole); (any_goals (with_reducible intro h' tk' x' tx' at' ta' left' oh' given' t9' hi' po' r1' S' r2' g' F' N')); (any_goals (with_reducible intro hx' h' tk' e' oh' bd' rn' kb' gh' hi' fr' th')))
    · k_steps
      exact hQ _ _ x' _ at' _ left' oh' given' _ trivial (r8.trans (List.append_assoc _ _ _).symm) S' r2' (two_steps g' g8) ((keepBut_of (by assumption) hg).drop h1.get (News.get (by assumption) (by k_mem))) (News.get (by assumption) (by k_mem)) (News.get (by assumption) (by k_mem)) hi'
    · (exfalso; rw [r2'] at rn'; exact bd' (List.append_eq_nil_iff.mp rn').1)
  · ((rename Fr _ _ _ _ => F8); (rename News _ _ _ _ => N8); k_steps; refine hE9 _ _ ?_; exact thrown_pass2 S0 hL rfl rfl F8 hg th' (((keepBut_of F8 hg).drop h1.get (News.get N8 (by k_mem))).drop h2.get (News.get N8 (by k_mem))) kb' gh' h3 fr' (fun hy h' q1 q2 q3 q4 => hE hy h' _ _ _ (fun z => bd' (List.append_eq_nil_iff.mp z).1) rn' q1 q2 hi' q3 q4))
theorem rcount {w : World} {wd ls ns : Int} {e : List UInt8} {size : Int} {ts : Tok} (he : (e.length : Int) = 4) (hv0 : 0 ≤ decI e) (hv : decI e ≤ 1000) (hz0 : 1 ≤ size) (hz1 : size ≤ 8) : RCx w 320 100 161 [.int size ts] wd ls ns (fun R => 4 + decI e * size ≤ (R.length : Int)) (e ≠ []) (fun _ _ => True) e (fun t => .int (decI e) t) := by
  intro base l p loose mean mg mb s Q E rd rdd hd x left nm at_ given step mv oh tx ta k1 k2 k3 k4 k5 k6 k7 k8 k9 v3 v4 v5 v6 v7 v9 rest S X T h1 h2 h3 hH hne1 hne2 hne3 hRX hS hr hQ hE
  refine' enter [(rd, instObj 213 rdd), (rdd, dictOf (rdD w x tx at_ ta mv wd ls ns nm k1 k2 k3 k4 k5 k6 k7 k8 k9 v3 v4 v5 v6 v7 v9) 9), (hd, oh)] S X T ?k1 ?k6 ?k7 ?k8 ?k9 ?kB ?_ ?c2 ?c3 ?c4 ?c5
  case k6 => k_is
  case k7 => k_is
  case k9 => exact BindsTo.of_eq rfl
  case kB => exact locs rfl
  case c5 => decide
  case c2 => exact rfl
  case c3 => exact rfl
  case c4 => exact rfl
  case k8 => exact Nat.le_of_ble_eq_true rfl
  case k1 => exact List.forall_mem_cons.mpr ⟨h1, List.forall_mem_cons.mpr ⟨h2, List.forall_mem_cons.mpr ⟨h3, List.forall_mem_nil _⟩⟩⟩
  intro g L' h₁ F' N' B' X' T' hg hL
  have S0 := S
  clear S
  (try dsimp only [RV])
  (try k_fold)
  refine absE3 (by passes_own) fun E9 hP9 hE9 => ?_
  have hne1 := neN hne1
  have hne2 := neN hne2
  have hne3 := neN hne3
  have hA0 := hS.a0
  have hA1 := hS.a1
  have hAz := hS.z
  have hG0 := hS.g0
  have hG1 := hS.g1
  have hG2 := hS.g2
  have hT0 := hS.s0
  have hT1 := hS.s1
  have hr1 : (True ∧ rem x at_ left = e ++ rest) ∨ (rem x at_ left = [] ∧ e ≠ []) := hr.imp (fun z => ⟨trivial, z.2⟩) id
  have hpr : 0 ≤ decI e * size ∧ decI e * size ≤ 8000 := ⟨Int.mul_nonneg hv0 (by omega), by have := Int.mul_le_mul hv hz1 (by omega) (by omega : (0 : Int) ≤ 1000); omega⟩
  k_steps
  ((with_reducible show Parked (wpAny _ _ (call (Value.ref 154) _ _) _ _ _)); refine Parked.get ?_; k_dflt (refine' wpAny_call (RCx.here (rinteger (e := e) ?s0 ?s1) ?C ?e4 ?e5 ?m1 ?U ?U2 ?m3 ?hH ?n1 ?n2 ?n3 ?hR ?hS ?hr ?_ ?_); (case C => (refine' ⟨?X, ?T, ?B, ?F, ?N, ?e2, ?hf, ?hke, ?e1, ?e3⟩; (case F => k_asm); (case N => k_asm); (case e2 => exact rfl); (case B => k_asm); (case X => k_asm); (case T => k_asm); (case hf => exact rfl); (case hke => exact rfl); (case e1 => exact rfl); (case e3 => exact rfl))); (case e4 => exact Nat.le_of_ble_eq_true rfl); (case e5 => exact Nat.le_of_ble_eq_true rfl); (case hR => exact hRX.deep (by k_asm) hg hL rfl); (case hH => assumption); (case m1 => k_mem); (case U => intro o9; k_upd); (case U2 => intro o9 o9'; k_upd); (case m3 => k_mem); (case n1 => k_ne); (case n2 => k_ne); (case n3 => k_ne); (case hS => assumption); (case hr => exact hr1); (case s0 => first | assumption | omega | decide); (case s1 => first | assumption | omega | decide); k_whole); (any_goals (with_reducible intro h' tk' x' tx' at' ta' left' oh' given' t9' hi' po' r1' S' r2' g' F' N')); (any_goals (with_reducible intro hx' h' tk' e' oh' bd' rn' kb' gh' hi' fr' th')))
  · have g8 := g'
    have r8 := r1'
    have hz8 := S'.z
    have ha8 := S'.a0
    have hrl : decI e * size ≤ (rest.length : Int) := hr.elim (fun z => by have := z.1; rw [z.2, List.length_append] at this; omega) (fun z => by rw [z.1] at r8; exact absurd (List.append_eq_nil_iff.mp r8.symm).1 z.2)
    k_steps
    · ((with_reducible show Parked (wpAny _ _ (call (Value.ref 126) _ _) _ _ _)); refine Parked.get ?_; k_dflt (refine' wpAny_call (RCx.here (rneed ?s0 ?s1) ?C ?e4 ?e5 ?m1 ?U ?U2 ?m3 ?hH ?n1 ?n2 ?n3 ?hR ?hS ?hr ?_ ?_); (case C => (refine' ⟨?X, ?T, ?B, ?F, ?N, ?e2, ?hf, ?hke, ?e1, ?e3⟩; (case F => k_asm); (case N => k_asm); (case e2 => exact rfl); (case B => k_asm); (case X => k_asm); (case T => k_asm); (case hf => exact rfl); (case hke => exact rfl); (case e1 => exact rfl); (case e3 => exact rfl))); (case e4 => exact Nat.le_of_ble_eq_true rfl); (case e5 => exact Nat.le_of_ble_eq_true rfl); (case hR => exact hRX.deep (by k_asm) hg hL rfl); (case hH => assumption); (case m1 => k_mem); (case U => intro o9; k_upd); (case U2 => intro o9 o9'; k_upd); (case m3 => k_mem); (case n1 => k_ne); (case n2 => k_ne); (case n3 => k_ne); (case hS => assumption); (case hr => exact Or.inl ⟨by rw [r2']; exact hrl, r2'⟩); (case s0 => first | assumption | omega | decide); (case s1 => first | assumption | omega | decide); k_whole); (any_goals (with_reducible intro h' tk' x' tx' at' ta' left' oh' given' t9' hi' po' r1' S' r2' g' F' N')); (any_goals (with_reducible intro hx' h' tk' e' oh' bd' rn' kb' gh' hi' fr' th')))
      · k_steps
        exact hQ _ _ x' _ at' _ left' oh' given' _ trivial r8 S' r2' (g'.trans (by rw [g8]; exact Int.add_zero _)) ((keepBut_of (by assumption) hg).drop h1.get (News.get (by assumption) (by k_mem))) (News.get (by assumption) (by k_mem)) (News.get (by assumption) (by k_mem)) hi'
      · exfalso; rw [rn'] at r2'; rw [← r2'] at hrl; simp only [List.length_nil] at hrl; omega
    · exact hQ _ _ x' _ at' _ left' oh' given' _ trivial r8 S' r2' g8 ((keepBut_of (by assumption) hg).drop h1.get (News.get (by assumption) (by k_mem))) (News.get (by assumption) (by k_mem)) (News.get (by assumption) (by k_mem)) hi'
  · ((rename Fr _ _ _ _ => F8); (rename News _ _ _ _ => N8); k_steps; refine hE9 _ _ ?_; exact thrown_pass2 S0 hL rfl rfl F8 hg th' (((keepBut_of F8 hg).drop h1.get (News.get N8 (by k_mem))).drop h2.get (News.get N8 (by k_mem))) kb' gh' h3 fr' (fun hy h' q1 q2 q3 q4 => hE hy h' _ _ _ bd' rn' q1 q2 hi' q3 q4))
theorem keep4 {a b c d : Addr} {o o' : Obj} {h h' : Heap} (k : KeepBut [a, b, c, d] h h') (e1 : h.get? a = some o) (e2 : h'.get? a = some o) (e3 : h.get? d = some o') (e4 : h'.get? d = some o') : KeepBut [b, c] h h' := fun y oy q n => by
  by_cases z : y = a
  · subst z; rw [e1] at q; cases q; exact e2
  · by_cases z2 : y = d
    · subst z2; rw [e3] at q; cases q; exact e4
    · refine k y oy q fun hm => ?_
      rcases List.mem_cons.mp hm with w | hm
      · exact z w
      · rcases List.mem_cons.mp hm with w | hm
        · exact n (w ▸ List.mem_cons_self)
        · rcases List.mem_cons.mp hm with w | hm
          · exact n (w ▸ List.mem_cons_of_mem _ List.mem_cons_self)
          · exact z2 (List.mem_singleton.mp hm)
theorem RCx.low {w : World} {dp un dp' un' : Nat} {f : Addr} {as : List Value} {wd ls ns : Int} {ok : List UInt8 → Prop} {bad : Prop} {post : Array UInt8 → Int → Prop} {e : List UInt8} {res : Tok → Value} (C : RCx w dp un f as wd ls ns ok bad post e res)
    (h1 : dp' ≤ dp) (h2 : un' ≤ un) : RCx w dp' un' f as wd ls ns ok bad post e res := by
  intro base l p loose mean mg mb s Q E rd rdd hd x left nm at_ given step mv oh tx ta k1 k2 k3 k4 k5 k6 k7 k8 k9 v3 v4 v5 v6 v7 v9 rest S X T o1 o2 o3 hH n1 n2 n3 hRX hS hr hQ hE
  exact liftC (C base l p loose mean mg mb s Q E rd rdd hd x left nm at_ given step mv oh tx ta k1 k2 k3 k4 k5 k6 k7 k8 k9 v3 v4 v5 v6 v7 v9 rest (S.at_ rfl) X T o1 o2 o3 hH n1 n2 n3 hRX hS hr hQ hE) rfl rfl rfl h1 h2
theorem got_meth {w : World} {base : Heap} {l : List Env} {p : Program} {loose : List Str} {mean : ExcName → Option Value} {mg mb : Str → Option Value} {s : Shared} {Q E : Value → Shared → Prop} {rd rdd hd : Addr} {x left nm : Array UInt8} {at_ given step wd ls ns : Int} {mv : Value} {oh : Obj} {tx ta k1 k2 k3 k4 k5 k6 k7 k8 k9 v3 v4 v5 v6 v7 v9 : Tok} {th : Addr} {v : Value} {t5 t7 t8 : Tok} {wide sz : Int} {ok : Bool} {kind : Str} {M : Addr} {e : List UInt8} {res : Tok → Value} {rest : List UInt8}
    (hM : RC w 325 125 M [] wd ls ns e res) (hfn : fnIn (KF w.params) M = true) (hkw : kind ≠ Str.ofString "whole") (hkr : kind ≠ Str.ofString "row") (hk : Kind5 147 154 168 175 182 kind M) (S : Std base (At 310 50 l) l s.heap) (X : (KF w.params).In base) (T : Top p loose mean mg mb base) (h1 : Own base l s.heap rd (instObj 213 rdd)) (h2 : Own base l s.heap rdd (dictOf (rdD w x tx at_ ta mv wd ls ns nm k1 k2 k3 k4 k5 k6 k7 k8 k9 v3 v4 v5 v6 v7 v9) 9)) (h3 : Own base l s.heap hd (oh)) (h4 : Own base l s.heap th (tupO [.str kind t5, v, .int wide t7, .bool ok, .int sz t8])) (hH : HDi w oh left given)
    (hne1 : rd ≠ rdd) (hne2 : rd ≠ hd) (hne3 : rdd ≠ hd) (hne4 : th ≠ rd) (hne5 : th ≠ rdd) (hne6 : th ≠ hd) (hRX : RX w base l s.heap rd rdd hd mv step) (hS : RS x at_ left given mv nm step) (hr : rem x at_ left = e ++ rest)
    (hQ : ∀ h' tk' x' tx' at' ta' left' oh' given' t, RS x' at' left' given' mv nm step → rem x' at' left' = rest → given' - (x'.size : Int) + at' = given - (x.size : Int) + at_ + (e.length : Int) → KeepBut [rdd, hd] s.heap h' →
      h'.get? rdd = some (dictOf (rdD w x' tx' at' ta' mv wd ls ns nm k1 k2 k3 k4 k5 k6 k7 k8 k9 v3 v4 v5 v6 v7 v9) 9) → h'.get? hd = some oh' → HDi w oh' left' given' → Q (res t) { s with heap := h', toks := tk' }) :
    codeAny (model PG w) (At 310 50 l) (.call (.ref 335) ⟨[.ref rd, .ref th], []⟩) (RV Q E) s := by
  refine' enterC [(rd, instObj 213 rdd), (rdd, dictOf (rdD w x tx at_ ta mv wd ls ns nm k1 k2 k3 k4 k5 k6 k7 k8 k9 v3 v4 v5 v6 v7 v9) 9), (hd, oh), (th, tupO [.str kind t5, v, .int wide t7, .bool ok, .int sz t8])] S X T ?k1 ?k6 ?k7 ?k8 ?k9 ?kB ?kD ?_ ?c2 ?c3 ?c4
  case k6 => k_is
  case k7 => k_is
  case k9 => exact BindsTo.of_eq rfl
  case kB => exact rfl
  case kD => decide +kernel
  case c2 => exact rfl
  case c3 => exact rfl
  case c4 => exact rfl
  case k8 => exact Nat.le_of_ble_eq_true rfl
  case k1 => exact List.forall_mem_cons.mpr ⟨h1, List.forall_mem_cons.mpr ⟨h2, List.forall_mem_cons.mpr ⟨h3, List.forall_mem_cons.mpr ⟨h4, List.forall_mem_nil _⟩⟩⟩⟩
  intro g L' h₁ tk' cells' F' N' Y' B' X' T' hg hL l1
  k_lt l1
  k_cells Y'
  (try simp only [List.cons_append, List.nil_append] at N')
  have S0 := S
  clear S
  (try dsimp only [RV])
  (try k_fold)
  refine absE3 (by passes_own) fun E9 hP9 hE9 => ?_
  have hne1 := neN hne1
  have hne2 := neN hne2
  have hne3 := neN hne3
  have hA0 := hS.a0
  have hA1 := hS.a1
  have hAz := hS.z
  have hG0 := hS.g0
  have hG1 := hS.g1
  have hG2 := hS.g2
  have hT0 := hS.s0
  have hT1 := hS.s1
  have hne4 := neN hne4
  have hne5 := neN hne5
  have hne6 := neN hne6
  k_steps
  repeat (any_goals ((first
    | ((with_reducible show Parked (wpAny _ _ (subscriptTail _ _ (Value.ref _) (Value.str _ _)) _ _ _)); refine Parked.get ?_; k_dflt (refine' item_kind ?N ?hp ?hd ?c1 ?c2 ?c3 ?c4 ?c5 ?hk ?_ ?hs ?hg; (case N => k_asm); (case hp => k_mem); (case hd => assumption); (case c1 => k_mem); (case c2 => k_mem); (case c3 => k_mem); (case c4 => k_mem); (case c5 => k_mem); (case hk => assumption); (case hs => with_unfolding_all rfl); (case hg => intro _; with_unfolding_all rfl)); with_reducible intro q9 hq9)
    | ((with_reducible show wpAny _ _ (callWith _ (Value.ref _) _ (backTo _ (starEach [] _)) []) _ _ _); k_dflt (refine' callWith_M0 ?k1 hfn ?_; (case k1 => exact methP (by k_asm) hq9 (by k_in)); k_whole); try dsimp only [List.nil_append, List.cons_append])
    | ((with_reducible show Parked (wpAny _ _ (call (Value.ref _) [] _) _ _ _)); refine Parked.get ?_; k_dflt (refine' call_meth ?N9 hq9 (RCx.here hM ?C ?e4 ?e5 ?m1 ?U ?U2 ?m3 ?hH ?n1 ?n2 ?n3 ?hR ?hS ?hr ?_ ?_); (case N9 => k_asm); (case C => (refine' ⟨?X, ?T, ?B, ?F, ?N, ?e2, ?hf, ?hke, ?e1, ?e3⟩; (case F => k_asm); (case N => k_asm); (case e2 => exact rfl); (case B => k_asm); (case X => k_asm); (case T => k_asm); (case hf => exact rfl); (case hke => exact rfl); (case e1 => exact rfl); (case e3 => exact rfl))); (case e4 => exact Nat.le_of_ble_eq_true rfl); (case e5 => exact Nat.le_of_ble_eq_true rfl); (case hR => exact hRX.deep4 h4 rfl (by k_asm) hg hL rfl); (case hH => assumption); (case m1 => k_mem); (case U => intro o9; k_upd); (case U2 => intro o9 o9'; k_upd); (case m3 => k_mem); (case n1 => k_ne); (case n2 => k_ne); (case n3 => k_ne); (case hS => assumption); (case hr => exact Or.inl ⟨trivial, hr⟩); k_whole); (any_goals (with_reducible intro h' tk' x' tx' at' ta' left' oh' given' t9' hi' po' r1' S' r2' g' F' N')); (any_goals (with_reducible intro hx' h' tk' e' oh' bd' rn' kb' gh' hi' fr' th')))); all_goals k_steps))
  · rename Fr _ _ _ _ => F9
    rename News _ _ _ _ => N9
    exact hQ _ _ x' _ at' _ left' oh' given' _ S' r2' g' (keep4 (keepBut_of F9 hg) h1.get (News.get N9 (by k_mem)) h4.get (News.get N9 (by k_mem))) (News.get N9 (by k_mem)) (News.get N9 (by k_mem)) hi'
  · exfalso; rw [hr] at rn'; exact bd' (List.append_eq_nil_iff.mp rn').1
theorem got_whole {w : World} {base : Heap} {l : List Env} {p : Program} {loose : List Str} {mean : ExcName → Option Value} {mg mb : Str → Option Value} {s : Shared} {Q E : Value → Shared → Prop} {rd rdd hd : Addr} {x left nm : Array UInt8} {at_ given step wd ls ns : Int} {mv : Value} {oh : Obj} {tx ta k1 k2 k3 k4 k5 k6 k7 k8 k9 v3 v4 v5 v6 v7 v9 : Tok} {th : Addr} {v : Value} {t5 t7 t8 : Tok} {wide sz : Int} {ok : Bool} {e : List UInt8} {rest : List UInt8}
    (he : (e.length : Int) = wide) (hw0 : 1 ≤ wide) (hw1 : wide ≤ 8) (S : Std base (At 310 50 l) l s.heap) (X : (KF w.params).In base) (T : Top p loose mean mg mb base) (h1 : Own base l s.heap rd (instObj 213 rdd)) (h2 : Own base l s.heap rdd (dictOf (rdD w x tx at_ ta mv wd ls ns nm k1 k2 k3 k4 k5 k6 k7 k8 k9 v3 v4 v5 v6 v7 v9) 9)) (h3 : Own base l s.heap hd (oh)) (h4 : Own base l s.heap th (tupO [.str (Str.ofString "whole") t5, v, .int wide t7, .bool ok, .int sz t8])) (hH : HDi w oh left given)
    (hne1 : rd ≠ rdd) (hne2 : rd ≠ hd) (hne3 : rdd ≠ hd) (hne4 : th ≠ rd) (hne5 : th ≠ rdd) (hne6 : th ≠ hd) (hRX : RX w base l s.heap rd rdd hd mv step) (hS : RS x at_ left given mv nm step) (hr : rem x at_ left = e ++ rest)
    (hQ : ∀ h' tk' x' tx' at' ta' left' oh' given' t, RS x' at' left' given' mv nm step → rem x' at' left' = rest → given' - (x'.size : Int) + at' = given - (x.size : Int) + at_ + (e.length : Int) → KeepBut [rdd, hd] s.heap h' →
      h'.get? rdd = some (dictOf (rdD w x' tx' at' ta' mv wd ls ns nm k1 k2 k3 k4 k5 k6 k7 k8 k9 v3 v4 v5 v6 v7 v9) 9) → h'.get? hd = some oh' → HDi w oh' left' given' → Q (.int (decI e) t) { s with heap := h', toks := tk' }) :
    codeAny (model PG w) (At 310 50 l) (.call (.ref 335) ⟨[.ref rd, .ref th], []⟩) (RV Q E) s := by
  refine' enterC [(rd, instObj 213 rdd), (rdd, dictOf (rdD w x tx at_ ta mv wd ls ns nm k1 k2 k3 k4 k5 k6 k7 k8 k9 v3 v4 v5 v6 v7 v9) 9), (hd, oh), (th, tupO [.str (Str.ofString "whole") t5, v, .int wide t7, .bool ok, .int sz t8])] S X T ?k1 ?k6 ?k7 ?k8 ?k9 ?kB ?kD ?_ ?c2 ?c3 ?c4
  case k6 => k_is
  case k7 => k_is
  case k9 => exact BindsTo.of_eq rfl
  case kB => exact rfl
  case kD => decide +kernel
  case c2 => exact rfl
  case c3 => exact rfl
  case c4 => exact rfl
  case k8 => exact Nat.le_of_ble_eq_true rfl
  case k1 => exact List.forall_mem_cons.mpr ⟨h1, List.forall_mem_cons.mpr ⟨h2, List.forall_mem_cons.mpr ⟨h3, List.forall_mem_cons.mpr ⟨h4, List.forall_mem_nil _⟩⟩⟩⟩
  intro g L' h₁ tk' cells' F' N' Y' B' X' T' hg hL l1
  k_lt l1
  k_cells Y'
  (try simp only [List.cons_append, List.nil_append] at N')
  have S0 := S
  clear S
  (try dsimp only [RV])
  (try k_fold)
  refine absE3 (by passes_own) fun E9 hP9 hE9 => ?_
  have hne1 := neN hne1
  have hne2 := neN hne2
  have hne3 := neN hne3
  have hA0 := hS.a0
  have hA1 := hS.a1
  have hAz := hS.z
  have hG0 := hS.g0
  have hG1 := hS.g1
  have hG2 := hS.g2
  have hT0 := hS.s0
  have hT1 := hS.s1
  have hne4 := neN hne4
  have hne5 := neN hne5
  have hne6 := neN hne6
  k_steps
  ((with_reducible show Parked (wpAny _ _ (call (Value.ref 140) _ _) _ _ _)); refine Parked.get ?_; k_dflt (refine' wpAny_call (RCx.here (rwhole (e := e) ?s0 ?s1 ?s2) ?C ?e4 ?e5 ?m1 ?U ?U2 ?m3 ?hH ?n1 ?n2 ?n3 ?hR ?hS ?hr ?_ ?_); (case C => (refine' ⟨?X, ?T, ?B, ?F, ?N, ?e2, ?hf, ?hke, ?e1, ?e3⟩; (case F => k_asm); (case N => k_asm); (case e2 => exact rfl); (case B => k_asm); (case X => k_asm); (case T => k_asm); (case hf => exact rfl); (case hke => exact rfl); (case e1 => exact rfl); (case e3 => exact rfl))); (case e4 => exact Nat.le_of_ble_eq_true rfl); (case e5 => exact Nat.le_of_ble_eq_true rfl); (case hR => exact hRX.deep4 h4 rfl (by k_asm) hg hL rfl); (case hH => assumption); (case m1 => k_mem); (case U => intro o9; k_upd); (case U2 => intro o9 o9'; k_upd); (case m3 => k_mem); (case n1 => k_ne); (case n2 => k_ne); (case n3 => k_ne); (case hS => assumption); (case hr => exact Or.inl ⟨trivial, hr⟩); (case s0 => first | assumption | omega | decide); (case s1 => first | assumption | omega | decide); (case s2 => first | assumption | omega | decide); k_whole); (any_goals (with_reducible intro h' tk' x' tx' at' ta' left' oh' given' t9' hi' po' r1' S' r2' g' F' N')); (any_goals (with_reducible intro hx' h' tk' e' oh' bd' rn' kb' gh' hi' fr' th')))
  · k_steps
    rename Fr _ _ _ _ => F9
    rename News _ _ _ _ => N9
    exact hQ _ _ x' _ at' _ left' oh' given' _ S' r2' g' (keep4 (keepBut_of F9 hg) h1.get (News.get N9 (by k_mem)) h4.get (News.get N9 (by k_mem))) (News.get N9 (by k_mem)) (News.get N9 (by k_mem)) hi'
  · exfalso; rw [hr] at rn'; exact bd' (List.append_eq_nil_iff.mp rn').1
theorem flat_len {wide : Int} : ∀ {es : List (List UInt8)}, (∀ e ∈ es, (e.length : Int) = wide) → (es.flatten.length : Int) = (es.length : Int) * wide
  | [], _ => by simp
  | e :: r, h => by
    have h1 := h e List.mem_cons_self
    have h2 := flat_len (es := r) fun y hy => h y (List.mem_cons_of_mem _ hy)
    rw [List.flatten_cons, List.length_append, List.length_cons]
    push_cast
    rw [h2, h1, Int.add_mul]; omega
theorem idx_lt {i n : Nat} (h : i < ((n : Int) - 0).toNat) : i < n := by omega
theorem cl_lem {a f r : Nat} {p : Int} (h1 : (a : Int) = 4) (h2 : (f : Int) = p) : 4 + p ≤ ((a + (f + r) : Nat) : Int) := by omega
structure CSt where
  x : Array UInt8
  tx : Tok
  at_ : Int
  ta : Tok
  left : Array UInt8
  given : Int
  oh : Obj
theorem got_row {w : World} {base : Heap} {l : List Env} {p : Program} {loose : List Str} {mean : ExcName → Option Value} {mg mb : Str → Option Value} {s : Shared} {Q E : Value → Shared → Prop} {rd rdd hd : Addr} {x left nm : Array UInt8} {at_ given step wd ls ns : Int} {mv : Value} {oh : Obj} {tx ta k1 k2 k3 k4 k5 k6 k7 k8 k9 v3 v4 v5 v6 v7 v9 : Tok} {th : Addr} {v : Value} {t5 t7 t8 : Tok} {wide sz : Int} {ok : Bool} {e1 : List UInt8} {es : List (List UInt8)} {rest : List UInt8}
    (he : (e1.length : Int) = 4) (hv : decI e1 = (es.length : Int)) (hes : ∀ e ∈ es, (e.length : Int) = wide) (hn : es.length ≤ 3) (hw0 : 1 ≤ wide) (hw1 : wide ≤ 8) (S : Std base (At 310 50 l) l s.heap) (X : (KF w.params).In base) (T : Top p loose mean mg mb base) (h1 : Own base l s.heap rd (instObj 213 rdd)) (h2 : Own base l s.heap rdd (dictOf (rdD w x tx at_ ta mv wd ls ns nm k1 k2 k3 k4 k5 k6 k7 k8 k9 v3 v4 v5 v6 v7 v9) 9)) (h3 : Own base l s.heap hd (oh)) (h4 : Own base l s.heap th (tupO [.str (Str.ofString "row") t5, v, .int wide t7, .bool ok, .int sz t8])) (hH : HDi w oh left given)
    (hne1 : rd ≠ rdd) (hne2 : rd ≠ hd) (hne3 : rdd ≠ hd) (hne4 : th ≠ rd) (hne5 : th ≠ rdd) (hne6 : th ≠ hd) (hRX : RX w base l s.heap rd rdd hd mv step) (hS : RS x at_ left given mv nm step) (hr : rem x at_ left = (e1 ++ es.flatten) ++ rest)
    (hQ : ∀ h' tk' x' tx' at' ta' left' oh' given' r (lq : List (Int × Tok)) nr, RS x' at' left' given' mv nm step → rem x' at' left' = rest → given' - (x'.size : Int) + at' = given - (x.size : Int) + at_ + ((e1 ++ es.flatten).length : Int) → KeepBut [rdd, hd] s.heap h' →
      h'.get? rdd = some (dictOf (rdD w x' tx' at' ta' mv wd ls ns nm k1 k2 k3 k4 k5 k6 k7 k8 k9 v3 v4 v5 v6 v7 v9) 9) → h'.get? hd = some oh' → HDi w oh' left' given' → h'.get? r = some (listOf (lq.map fun p => Value.int p.1 p.2).toArray nr) → s.heap.get? r = none → lq.map (·.1) = es.map decI → Q (.ref r) { s with heap := h', toks := tk' }) :
    codeAny (model PG w) (At 310 50 l) (.call (.ref 335) ⟨[.ref rd, .ref th], []⟩) (RV Q E) s := by
  refine' enterC [(rd, instObj 213 rdd), (rdd, dictOf (rdD w x tx at_ ta mv wd ls ns nm k1 k2 k3 k4 k5 k6 k7 k8 k9 v3 v4 v5 v6 v7 v9) 9), (hd, oh), (th, tupO [.str (Str.ofString "row") t5, v, .int wide t7, .bool ok, .int sz t8])] S X T ?k1 ?k6 ?k7 ?k8 ?k9 ?kB ?kD ?_ ?c2 ?c3 ?c4
  case k6 => k_is
  case k7 => k_is
  case k9 => exact BindsTo.of_eq rfl
  case kB => exact rfl
  case kD => decide +kernel
  case c2 => exact rfl
  case c3 => exact rfl
  case c4 => exact rfl
  case k8 => exact Nat.le_of_ble_eq_true rfl
  case k1 => exact List.forall_mem_cons.mpr ⟨h1, List.forall_mem_cons.mpr ⟨h2, List.forall_mem_cons.mpr ⟨h3, List.forall_mem_cons.mpr ⟨h4, List.forall_mem_nil _⟩⟩⟩⟩
  intro g L' h₁ tk' cells' F' N' Y' B' X' T' hg hL l1
  k_lt l1
  k_cells Y'
  (try simp only [List.cons_append, List.nil_append] at N')
  have S0 := S
  clear S
  (try dsimp only [RV])
  (try k_fold)
  refine absE3 (by passes_own) fun E9 hP9 hE9 => ?_
  have hne1 := neN hne1
  have hne2 := neN hne2
  have hne3 := neN hne3
  have hne4 := neN hne4
  have hne5 := neN hne5
  have hne6 := neN hne6
  have hfl := flat_len hes
  have hr1 : rem x at_ left = e1 ++ (es.flatten ++ rest) := hr.trans (List.append_assoc _ _ _)
  have hcl : 4 + decI e1 * wide ≤ ((rem x at_ left).length : Int) := by
    rw [hr1, List.length_append, List.length_append, hv]; exact cl_lem he hfl
  k_steps
  ((with_reducible show Parked (wpAny _ _ (call (Value.ref 161) _ _) _ _ _)); refine Parked.get ?_; k_dflt (refine' wpAny_call (RCx.here (rcount (e := e1) ?s0 ?s1 ?s2 ?s3 ?s4) ?C ?e4 ?e5 ?m1 ?U ?U2 ?m3 ?hH ?n1 ?n2 ?n3 ?hR ?hS ?hr ?_ ?_); (case C => (refine' ⟨?X, ?T, ?B, ?F, ?N, ?e2, ?hf, ?hke, ?e1, ?e3⟩; (case F => k_asm); (case N => k_asm); (case e2 => exact rfl); (case B => k_asm); (case X => k_asm); (case T => k_asm); (case hf => exact rfl); (case hke => exact rfl); (case e1 => exact rfl); (case e3 => exact rfl))); (case e4 => exact Nat.le_of_ble_eq_true rfl); (case e5 => exact Nat.le_of_ble_eq_true rfl); (case hR => exact hRX.deep4 h4 rfl (by k_asm) hg hL rfl); (case hH => assumption); (case m1 => k_mem); (case U => intro o9; k_upd); (case U2 => intro o9 o9'; k_upd); (case m3 => k_mem); (case n1 => k_ne); (case n2 => k_ne); (case n3 => k_ne); (case hS => assumption); (case hr => exact Or.inl ⟨hcl, hr1⟩); (case s0 => first | assumption | omega | decide); (case s1 => first | assumption | omega | decide); (case s2 => first | assumption | omega | decide); (case s3 => first | assumption | omega | decide); (case s4 => first | assumption | omega | decide); k_whole); (any_goals (with_reducible intro h' tk' x' tx' at' ta' left' oh' given' t9' hi' po' r1' S' r2' g' F' N')); (any_goals (with_reducible intro hx' h' tk' e' oh' bd' rn' kb' gh' hi' fr' th')))
  · rw [hv]
    clear hcl hfl
    k_steps
    refine Parked.get ?_
    k_dflt (refine' LCg.CompSrc.range ?k1 ?k2 ?k3 ?k4 ?k5 ?k6 ?k7 ?_; (case k1 => exact rfl); (case k2 => k_asm); (case k3 => k_asm); (case k4 => assumption); (case k5 => exact small_one (by omega) (by omega) (by omega) (by omega)); (case k6 => exact rangeSize_nat _ _); (case k7 => rw [PySem.sizeLine_eq]; omega))
    intro g9
    refine' comp_st2 (σ := CSt) (a := rdd) (b := hd) (fun st => dictOf (rdD w st.x st.tx st.at_ st.ta mv wd ls ns nm k1 k2 k3 k4 k5 k6 k7 k8 k9 v3 v4 v5 v6 v7 v9) 9) (fun st => st.oh) ?U ?U2 ⟨x', tx', at', ta', left', given', oh'⟩ (fun i ys st => RS st.x st.at_ st.left st.given mv nm step ∧ HDi w st.oh st.left st.given ∧ rem st.x st.at_ st.left = (es.drop i).flatten ++ rest ∧ st.given - (st.x.size : Int) + st.at_ = given - (x.size : Int) + at_ + (e1.length : Int) + ((es.take i).flatten.length : Int) ∧ ∃ lq : List (Int × Tok), ys = lq.map (fun p => Value.int p.1 p.2) ∧ lq.map (·.1) = (es.take i).map decI) ?hn ?h0 ?_ ?_
    case U => intro st9; k_upd
    case U2 => intro st9; k_upd
    case hn => exact rfl
    case h0 => exact ⟨S', hi', r2', by rw [g']; exact (Int.add_zero _).symm, [], rfl, rfl⟩
    · rintro i9 ys9 ⟨x8, tx8, at8, ta8, left8, given8, oh8⟩ v9 I9 oI9 C9 oC9 D9 m9 h9 tk9 E9 hi9 ⟨S8, hi8, r8, g8, lq8, rfl, hl8⟩ ⟨_, rfl⟩ hC9 hx9 F9 N9 off9 ne9
      dsimp only at *
      simp only [LCg.Off3, and_true] at off9
      have qI0 : @Ne Nat rdd I9 := by first | exact off9.1.1 | exact off9.2.1.1 | exact off9.2.2.1.1 | exact off9.2.2.2.1.1 | exact off9.2.2.2.2.1.1 | exact off9.2.2.2.2.2.1.1 | exact off9.2.2.2.2.2.2.1.1 | exact off9.2.2.2.2.2.2.2.1.1 | exact off9.2.2.2.2.2.2.2.2.1.1 | exact off9.2.2.2.2.2.2.2.2.2.1.1 | exact off9.2.2.2.2.2.2.2.2.2.2.1.1 | exact off9.2.2.2.2.2.2.2.2.2.2.2.1.1
      have qC0 : @Ne Nat rdd C9 := by first | exact off9.1.2.1 | exact off9.2.1.2.1 | exact off9.2.2.1.2.1 | exact off9.2.2.2.1.2.1 | exact off9.2.2.2.2.1.2.1 | exact off9.2.2.2.2.2.1.2.1 | exact off9.2.2.2.2.2.2.1.2.1 | exact off9.2.2.2.2.2.2.2.1.2.1 | exact off9.2.2.2.2.2.2.2.2.1.2.1 | exact off9.2.2.2.2.2.2.2.2.2.1.2.1 | exact off9.2.2.2.2.2.2.2.2.2.2.1.2.1 | exact off9.2.2.2.2.2.2.2.2.2.2.2.1.2.1
      have qD0 : @Ne Nat rdd D9 := by first | exact off9.1.2.2 | exact off9.2.1.2.2 | exact off9.2.2.1.2.2 | exact off9.2.2.2.1.2.2 | exact off9.2.2.2.2.1.2.2 | exact off9.2.2.2.2.2.1.2.2 | exact off9.2.2.2.2.2.2.1.2.2 | exact off9.2.2.2.2.2.2.2.1.2.2 | exact off9.2.2.2.2.2.2.2.2.1.2.2 | exact off9.2.2.2.2.2.2.2.2.2.1.2.2 | exact off9.2.2.2.2.2.2.2.2.2.2.1.2.2 | exact off9.2.2.2.2.2.2.2.2.2.2.2.1.2.2
      have qI1 : @Ne Nat hd I9 := by first | exact off9.1.1 | exact off9.2.1.1 | exact off9.2.2.1.1 | exact off9.2.2.2.1.1 | exact off9.2.2.2.2.1.1 | exact off9.2.2.2.2.2.1.1 | exact off9.2.2.2.2.2.2.1.1 | exact off9.2.2.2.2.2.2.2.1.1 | exact off9.2.2.2.2.2.2.2.2.1.1 | exact off9.2.2.2.2.2.2.2.2.2.1.1 | exact off9.2.2.2.2.2.2.2.2.2.2.1.1 | exact off9.2.2.2.2.2.2.2.2.2.2.2.1.1
      have qC1 : @Ne Nat hd C9 := by first | exact off9.1.2.1 | exact off9.2.1.2.1 | exact off9.2.2.1.2.1 | exact off9.2.2.2.1.2.1 | exact off9.2.2.2.2.1.2.1 | exact off9.2.2.2.2.2.1.2.1 | exact off9.2.2.2.2.2.2.1.2.1 | exact off9.2.2.2.2.2.2.2.1.2.1 | exact off9.2.2.2.2.2.2.2.2.1.2.1 | exact off9.2.2.2.2.2.2.2.2.2.1.2.1 | exact off9.2.2.2.2.2.2.2.2.2.2.1.2.1 | exact off9.2.2.2.2.2.2.2.2.2.2.2.1.2.1
      have qD1 : @Ne Nat hd D9 := by first | exact off9.1.2.2 | exact off9.2.1.2.2 | exact off9.2.2.1.2.2 | exact off9.2.2.2.1.2.2 | exact off9.2.2.2.2.1.2.2 | exact off9.2.2.2.2.2.1.2.2 | exact off9.2.2.2.2.2.2.1.2.2 | exact off9.2.2.2.2.2.2.2.1.2.2 | exact off9.2.2.2.2.2.2.2.2.1.2.2 | exact off9.2.2.2.2.2.2.2.2.2.1.2.2 | exact off9.2.2.2.2.2.2.2.2.2.2.1.2.2 | exact off9.2.2.2.2.2.2.2.2.2.2.2.1.2.2
      have hlt9 : i9 < es.length := idx_lt hi9
      obtain ⟨e9, he9⟩ : ∃ e, es[i9]? = some e := ⟨es[i9], List.getElem?_eq_getElem hlt9⟩
      have hem : e9 ∈ es := List.mem_of_getElem? he9
      have hd8 : es.drop i9 = e9 :: es.drop (i9 + 1) := by
        have := List.drop_eq_getElem_cons hlt9
        rw [List.getElem?_eq_getElem hlt9] at he9
        rw [this, Option.some.inj he9]
      have ht8 : es.take (i9 + 1) = es.take i9 ++ [e9] := by rw [List.take_add_one, he9]; rfl
      have hd9 : rem x8 at8 left8 = e9 ++ ((es.drop (i9 + 1)).flatten ++ rest) := by rw [r8, hd8, List.flatten_cons, List.append_assoc]
      have he8 := hes e9 hem
      k_steps
      ((with_reducible show Parked (wpAny _ _ (call (Value.ref 140) _ _) _ _ _)); refine Parked.get ?_; k_dflt (refine' wpAny_call (RCx.here (rwhole (e := e9) ?s0 ?s1 ?s2) ?C ?e4 ?e5 ?m1 ?U ?U2 ?m3 ?hH ?n1 ?n2 ?n3 ?hR ?hS ?hr ?_ ?_); (case C => (refine' ⟨?X, ?T, ?B, ?F, ?N, ?e2, ?hf, ?hke, ?e1, ?e3⟩; (case F => k_asm); (case N => k_asm); (case e2 => exact rfl); (case B => k_asm); (case X => k_asm); (case T => k_asm); (case hf => exact rfl); (case hke => exact rfl); (case e1 => exact rfl); (case e3 => exact rfl))); (case e4 => exact Nat.le_of_ble_eq_true rfl); (case e5 => exact Nat.le_of_ble_eq_true rfl); (case hR => exact hRX.deep4 h4 rfl (by k_asm) hg hL rfl); (case hH => assumption); (case m1 => k_mem); (case U => intro o9; k_upd); (case U2 => intro o9 o9'; k_upd); (case m3 => k_mem); (case n1 => k_ne); (case n2 => k_ne); (case n3 => k_ne); (case hS => assumption); (case hr => exact Or.inl ⟨trivial, hd9⟩); (case s0 => first | assumption | omega | decide); (case s1 => first | assumption | omega | decide); (case s2 => first | assumption | omega | decide); k_whole); (any_goals (with_reducible intro h' tk' x' tx' at' ta' left' oh' given' t9' hi' po' r1' S' r2' g' F' N')); (any_goals (with_reducible intro hx' h' tk' e' oh' bd' rn' kb' gh' hi' fr' th')))
      · k_steps
        refine Parked.get ?_
        rename News _ _ _ _ => N8
        refine' LCg.CompEnd.intro ?F8 N8 _ ?sub ?off trivial ⟨⟨x', tx', at', ta', left', given', oh'⟩, rfl, S', hi', r2', ?_, lq8 ++ [(decI e9, t9')], ?_, ?_⟩
        case F8 => k_asm
        case sub => kcf_all
        case off => simp only [LCg.Off3, and_true]; exact off9
        · rw [g', ht8, List.flatten_append, List.length_append, g8]; simp only [List.flatten_cons, List.flatten_nil, List.append_nil]; exact cast_add _ _ _
        · rw [List.map_append]; rfl
        · rw [ht8, List.map_append, List.map_append, hl8]; rfl
      · exfalso; rw [hd9] at rn'; exact bd' (List.append_eq_nil_iff.mp rn').1
    · rintro ys9 ⟨x8, tx8, at8, ta8, left8, given8, oh8⟩ ⟨S8, hi8, r8, g8, lq8, rfl, hl8⟩
      dsimp only at *
      have hn9 : ((es.length : Int) - 0).toNat = es.length := by rw [Int.sub_zero]; exact Int.toNat_natCast _
      rw [hn9, List.drop_length] at r8
      rw [hn9, List.take_length] at g8 hl8
      k_steps
      rename Fr _ _ _ _ => F9
      rename News _ _ _ _ => N9
      exact hQ _ _ x8 _ at8 _ left8 oh8 given8 _ lq8 _ S8 r8 (g8.trans (by rw [List.length_append]; exact cast_add _ _ _)) (keep4 (keepBut_of F9 hg) h1.get (News.get N9 (by k_mem)) h4.get (News.get N9 (by k_mem))) (News.get N9 (by k_mem)) (News.get N9 (by k_mem)) hi8 (News.get N9 (by k_mem)) (fresh_of (small := [(rd, instObj 213 rdd), (rdd, dictOf (rdD w x tx at_ ta mv wd ls ns nm k1 k2 k3 k4 k5 k6 k7 k8 k9 v3 v4 v5 v6 v7 v9) 9), (hd, oh), (th, tupO [.str (Str.ofString "row") t5, v, .int wide t7, .bool ok, .int sz t8])]) (News.get_none N9 (by k_mem)) hg (by simp only [List.forall_mem_cons]; exact ⟨by k_ne, by k_ne, by k_ne, by k_ne, fun _ z => nomatch z⟩)) hl8
  · exfalso; rw [hr1] at rn'; exact bd' (List.append_eq_nil_iff.mp rn').1
theorem ne_str_ne {prog : Program} {w : World} {A : Around} {E : Value → Shared → Prop} {s : Shared} {x y : Str} {t u : Tok} {Q : Value → Shared → Prop} (hn : x ≠ y) (h : Q (.bool true) s) :
    wpAny (model prog w) A (compareOp .NotEq (.str x t) (.str y u)) Q E s := PyProof.Rows.ne_str (by rw [show (x != y) = true from bne_iff_ne.mpr hn]; exact h)
example : True := by
  k_with "compareOp NotEq str str" => (k_here; (with_reducible show wpAny _ _ (compareOp CmpOp.NotEq (Value.str _ _) (Value.str (PySem.Str.ofString _) _)) _ _ _); with_reducible refine ne_str_ne (by assumption) ?_)
  trivial
theorem br_same {w : World} {base : Heap} {l : List Env} {p : Program} {loose : List Str} {mean : ExcName → Option Value} {mg mb : Str → Option Value} {s : Shared} {Q E : Value → Shared → Prop} {kind : Str} {v : Value} {th : Addr} {t5 t7 t8 tw : Tok} {wide sz wd : Int} {ok : Bool}
    (hkn : kind ≠ Str.ofString "number") (hkc : kind ≠ Str.ofString "constant") (S : Std base (At 310 50 l) l s.heap) (X : (KF w.params).In base) (T : Top p loose mean mg mb base) (h1 : Own base l s.heap th (tupO [.str kind t5, v, .int wide t7, .bool ok, .int sz t8]))
    (hQ : ∀ h' tk' (t : Tok), KeepBut [] s.heap h' → Q v { s with heap := h', toks := tk' }) :
    codeAny (model PG w) (At 310 50 l) (.call (.ref 342) ⟨[.ref th, .int wd tw], []⟩) (RV Q E) s := by
  refine' enter [(th, tupO [.str kind t5, v, .int wide t7, .bool ok, .int sz t8])] S X T ?k1 ?k6 ?k7 ?k8 ?k9 ?kB ?_ ?c2 ?c3 ?c4 ?c5
  case k6 => k_is
  case k7 => k_is
  case k9 => exact BindsTo.of_eq rfl
  case kB => exact locs rfl
  case c5 => decide
  case c2 => exact rfl
  case c3 => exact rfl
  case c4 => exact rfl
  case k8 => exact Nat.le_of_ble_eq_true rfl
  case k1 => exact List.forall_mem_cons.mpr ⟨h1, List.forall_mem_nil _⟩
  intro g L' h₁ F' N' B' X' T' hg hL
  have S0 := S
  clear S
  (try dsimp only [RV])
  (try k_fold)
  refine absE3 (by passes_own) fun E9 hP9 hE9 => ?_
  k_steps
  all_goals (rename Fr _ _ _ _ => F9)
  all_goals (rename News _ _ _ _ => N9)
  all_goals exact hQ _ _ 0 ((keepBut_of F9 hg).drop h1.get (News.get N9 (by k_mem)))
theorem br_none {w : World} {base : Heap} {l : List Env} {p : Program} {loose : List Str} {mean : ExcName → Option Value} {mg mb : Str → Option Value} {s : Shared} {Q E : Value → Shared → Prop}  {th : Addr} {t5 t7 t8 tw : Tok} {wide sz wd : Int} {ok : Bool}
     (S : Std base (At 310 50 l) l s.heap) (X : (KF w.params).In base) (T : Top p loose mean mg mb base) (h1 : Own base l s.heap th (tupO [.str (Str.ofString "constant") t5, .none, .int wide t7, .bool ok, .int sz t8]))
    (hQ : ∀ h' tk' (t : Tok), KeepBut [] s.heap h' → Q .none { s with heap := h', toks := tk' }) :
    codeAny (model PG w) (At 310 50 l) (.call (.ref 342) ⟨[.ref th, .int wd tw], []⟩) (RV Q E) s := by
  refine' enter [(th, tupO [.str (Str.ofString "constant") t5, .none, .int wide t7, .bool ok, .int sz t8])] S X T ?k1 ?k6 ?k7 ?k8 ?k9 ?kB ?_ ?c2 ?c3 ?c4 ?c5
  case k6 => k_is
  case k7 => k_is
  case k9 => exact BindsTo.of_eq rfl
  case kB => exact locs rfl
  case c5 => decide
  case c2 => exact rfl
  case c3 => exact rfl
  case c4 => exact rfl
  case k8 => exact Nat.le_of_ble_eq_true rfl
  case k1 => exact List.forall_mem_cons.mpr ⟨h1, List.forall_mem_nil _⟩
  intro g L' h₁ F' N' B' X' T' hg hL
  have S0 := S
  clear S
  (try dsimp only [RV])
  (try k_fold)
  refine absE3 (by passes_own) fun E9 hP9 hE9 => ?_
  k_steps
  all_goals (rename Fr _ _ _ _ => F9)
  all_goals (rename News _ _ _ _ => N9)
  all_goals exact hQ _ _ 0 ((keepBut_of F9 hg).drop h1.get (News.get N9 (by k_mem)))
theorem br_bool {w : World} {base : Heap} {l : List Env} {p : Program} {loose : List Str} {mean : ExcName → Option Value} {mg mb : Str → Option Value} {s : Shared} {Q E : Value → Shared → Prop} {b : Bool} {th : Addr} {t5 t7 t8 tw : Tok} {wide sz wd : Int} {ok : Bool}
     (S : Std base (At 310 50 l) l s.heap) (X : (KF w.params).In base) (T : Top p loose mean mg mb base) (h1 : Own base l s.heap th (tupO [.str (Str.ofString "constant") t5, (.bool b), .int wide t7, .bool ok, .int sz t8]))
    (hQ : ∀ h' tk' (t : Tok), KeepBut [] s.heap h' → Q (.bool b) { s with heap := h', toks := tk' }) :
    codeAny (model PG w) (At 310 50 l) (.call (.ref 342) ⟨[.ref th, .int wd tw], []⟩) (RV Q E) s := by
  refine' enter [(th, tupO [.str (Str.ofString "constant") t5, (.bool b), .int wide t7, .bool ok, .int sz t8])] S X T ?k1 ?k6 ?k7 ?k8 ?k9 ?kB ?_ ?c2 ?c3 ?c4 ?c5
  case k6 => k_is
  case k7 => k_is
  case k9 => exact BindsTo.of_eq rfl
  case kB => exact locs rfl
  case c5 => decide
  case c2 => exact rfl
  case c3 => exact rfl
  case c4 => exact rfl
  case k8 => exact Nat.le_of_ble_eq_true rfl
  case k1 => exact List.forall_mem_cons.mpr ⟨h1, List.forall_mem_nil _⟩
  intro g L' h₁ F' N' B' X' T' hg hL
  have S0 := S
  clear S
  (try dsimp only [RV])
  (try k_fold)
  refine absE3 (by passes_own) fun E9 hP9 hE9 => ?_
  k_steps
  all_goals (rename Fr _ _ _ _ => F9)
  all_goals (rename News _ _ _ _ => N9)
  all_goals exact hQ _ _ 0 ((keepBut_of F9 hg).drop h1.get (News.get N9 (by k_mem)))
theorem br_bytes {w : World} {base : Heap} {l : List Env} {p : Program} {loose : List Str} {mean : ExcName → Option Value} {mg mb : Str → Option Value} {s : Shared} {Q E : Value → Shared → Prop} {a : Array UInt8} {ta : Tok} {th : Addr} {t5 t7 t8 tw : Tok} {wide sz wd : Int} {ok : Bool}
     (S : Std base (At 310 50 l) l s.heap) (X : (KF w.params).In base) (T : Top p loose mean mg mb base) (h1 : Own base l s.heap th (tupO [.str (Str.ofString "constant") t5, (.bytes a ta), .int wide t7, .bool ok, .int sz t8]))
    (hQ : ∀ h' tk' (t : Tok), KeepBut [] s.heap h' → Q (.bytes a ta) { s with heap := h', toks := tk' }) :
    codeAny (model PG w) (At 310 50 l) (.call (.ref 342) ⟨[.ref th, .int wd tw], []⟩) (RV Q E) s := by
  refine' enter [(th, tupO [.str (Str.ofString "constant") t5, (.bytes a ta), .int wide t7, .bool ok, .int sz t8])] S X T ?k1 ?k6 ?k7 ?k8 ?k9 ?kB ?_ ?c2 ?c3 ?c4 ?c5
  case k6 => k_is
  case k7 => k_is
  case k9 => exact BindsTo.of_eq rfl
  case kB => exact locs rfl
  case c5 => decide
  case c2 => exact rfl
  case c3 => exact rfl
  case c4 => exact rfl
  case k8 => exact Nat.le_of_ble_eq_true rfl
  case k1 => exact List.forall_mem_cons.mpr ⟨h1, List.forall_mem_nil _⟩
  intro g L' h₁ F' N' B' X' T' hg hL
  have S0 := S
  clear S
  (try dsimp only [RV])
  (try k_fold)
  refine absE3 (by passes_own) fun E9 hP9 hE9 => ?_
  k_steps
  all_goals (rename Fr _ _ _ _ => F9)
  all_goals (rename News _ _ _ _ => N9)
  all_goals exact hQ _ _ 0 ((keepBut_of F9 hg).drop h1.get (News.get N9 (by k_mem)))
theorem pow_wd {wd : Int} (h0 : 1 ≤ wd) (h1 : wd ≤ 64) : (0 : Int) < 2 ^ (wd - 1).toNat := Int.pow_pos (by decide)
theorem br_num {w : World} {base : Heap} {l : List Env} {p : Program} {loose : List Str} {mean : ExcName → Option Value} {mg mb : Str → Option Value} {s : Shared} {Q E : Value → Shared → Prop} {v : Int} {tv : Tok} {th : Addr} {t5 t7 t8 tw : Tok} {wide sz wd : Int} {ok : Bool}
    (hw0 : 1 ≤ wd) (hw1 : wd ≤ 64) (S : Std base (At 310 50 l) l s.heap) (X : (KF w.params).In base) (T : Top p loose mean mg mb base) (h1 : Own base l s.heap th (tupO [.str (Str.ofString "number") t5, (.int v tv), .int wide t7, .bool ok, .int sz t8]))
    (hQ : ∀ h' tk' (t : Tok), KeepBut [] s.heap h' → Q (.int (wrapI v wd) t) { s with heap := h', toks := tk' }) :
    codeAny (model PG w) (At 310 50 l) (.call (.ref 342) ⟨[.ref th, .int wd tw], []⟩) (RV Q E) s := by
  refine' enter [(th, tupO [.str (Str.ofString "number") t5, (.int v tv), .int wide t7, .bool ok, .int sz t8])] S X T ?k1 ?k6 ?k7 ?k8 ?k9 ?kB ?_ ?c2 ?c3 ?c4 ?c5
  case k6 => k_is
  case k7 => k_is
  case k9 => exact BindsTo.of_eq rfl
  case kB => exact locs rfl
  case c5 => decide
  case c2 => exact rfl
  case c3 => exact rfl
  case c4 => exact rfl
  case k8 => exact Nat.le_of_ble_eq_true rfl
  case k1 => exact List.forall_mem_cons.mpr ⟨h1, List.forall_mem_nil _⟩
  intro g L' h₁ F' N' B' X' T' hg hL
  have S0 := S
  clear S
  (try dsimp only [RV])
  (try k_fold)
  refine absE3 (by passes_own) fun E9 hP9 hE9 => ?_
  have hp := pow_wd hw0 hw1
  k_steps
  all_goals (rename Fr _ _ _ _ => F9)
  all_goals (rename News _ _ _ _ => N9)
  all_goals exact hQ _ _ _ ((keepBut_of F9 hg).drop h1.get (News.get N9 (by k_mem)))
theorem br_int {w : World} {base : Heap} {l : List Env} {p : Program} {loose : List Str} {mean : ExcName → Option Value} {mg mb : Str → Option Value} {s : Shared} {Q E : Value → Shared → Prop} {v : Int} {tv : Tok} {th : Addr} {t5 t7 t8 tw : Tok} {wide sz wd : Int} {ok : Bool}
    (hw0 : 1 ≤ wd) (hw1 : wd ≤ 64) (S : Std base (At 310 50 l) l s.heap) (X : (KF w.params).In base) (T : Top p loose mean mg mb base) (h1 : Own base l s.heap th (tupO [.str (Str.ofString "constant") t5, (.int v tv), .int wide t7, .bool ok, .int sz t8]))
    (hQ : ∀ h' tk' (t : Tok), KeepBut [] s.heap h' → Q (.int (wrapI v wd) t) { s with heap := h', toks := tk' }) :
    codeAny (model PG w) (At 310 50 l) (.call (.ref 342) ⟨[.ref th, .int wd tw], []⟩) (RV Q E) s := by
  refine' enter [(th, tupO [.str (Str.ofString "constant") t5, (.int v tv), .int wide t7, .bool ok, .int sz t8])] S X T ?k1 ?k6 ?k7 ?k8 ?k9 ?kB ?_ ?c2 ?c3 ?c4 ?c5
  case k6 => k_is
  case k7 => k_is
  case k9 => exact BindsTo.of_eq rfl
  case kB => exact locs rfl
  case c5 => decide
  case c2 => exact rfl
  case c3 => exact rfl
  case c4 => exact rfl
  case k8 => exact Nat.le_of_ble_eq_true rfl
  case k1 => exact List.forall_mem_cons.mpr ⟨h1, List.forall_mem_nil _⟩
  intro g L' h₁ F' N' B' X' T' hg hL
  have S0 := S
  clear S
  (try dsimp only [RV])
  (try k_fold)
  refine absE3 (by passes_own) fun E9 hP9 hE9 => ?_
  have hp := pow_wd hw0 hw1
  k_steps
  all_goals (rename Fr _ _ _ _ => F9)
  all_goals (rename News _ _ _ _ => N9)
  all_goals exact hQ _ _ _ ((keepBut_of F9 hg).drop h1.get (News.get N9 (by k_mem)))
section
open Builtin
theorem slot_bytes_repr : Slot "bytes" "__repr__" "bytes.__repr__" :=
  .of (owner := "bytes") (n := "__repr__") (by rw [typeLookup_type, builtinLookup_eq_fast]; kernel_rfl) (by decide +kernel) (by decide +kernel) (by decide +kernel)
    (by first | exact .inl (by decide +kernel) | exact .inr (by decide +kernel)) (by rw [isSubtype_type]; kernel_rfl)
theorem entry_bytes_repr : entryFor table "bytes.__repr__" = some Builtin.«bytes.__repr__» := entryFor_of_tree (by kernel_rfl)
theorem args_bytes_repr (a : Value) : argsOk "bytes.__repr__" ⟨[a], []⟩ := by unfold argsOk; kernel_rfl
theorem fold_len {f : UInt8 → Array Nat} (hf : ∀ c, (f c).size ≤ 4) : ∀ (l : List UInt8) (acc : Array Nat), (l.foldl (fun acc c => acc ++ f c) acc).size ≤ acc.size + 4 * l.length
  | [], acc => by simp
  | c :: r, acc => by
    have ih := fold_len hf r (acc ++ f c)
    have h1 := hf c
    rw [Array.size_append] at ih
    rw [List.foldl_cons, List.length_cons]
    omega
theorem literal_len (b : Array UInt8) : (Bytes.literal b).length ≤ 4 * b.size + 3 := by
  unfold Bytes.literal
  show (Array.push (b.foldl _ _) _).size ≤ _
  rw [Array.size_push, ← Array.foldl_toList]
  refine Nat.le_trans (Nat.succ_le_succ (fold_len ?_ b.toList _)) ?_
  rotate_left
  · rw [Array.length_toList]
    show 2 + 4 * b.size + 1 ≤ _
    omega
  · intro c
    dsimp only
    repeat' split
    all_goals exact Nat.le_of_ble_eq_true rfl
theorem gives_bytes_repr (b : Array UInt8) (t : Tok) (hz : b.size ≤ 1000) : Gives («bytes.__repr__» ⟨[.bytes b t], []⟩) (.str (Bytes.literal b)) := by
  have h : Bytes.literalAsked b = pure (Bytes.literal b) := by
    unfold Bytes.literalAsked
    have : (Bytes.tooLong (4 * b.size + 3 + 0)) = false := by
      unfold Bytes.tooLong
      exact decide_eq_false (by rw [sizeLine_eq]; omega)
    rw [this]
    rfl
  unfold «bytes.__repr__»
  show Gives (do let r ← Bytes.literalAsked b; _) _
  rw [h]
  exact .of_eq rfl
theorem repr_bytes {prog : Program} {w : World} {A : Around} {E : Value → Shared → Prop} {s : Shared} {b : Array UInt8} {t : Tok} {Q : Value → Shared → Prop} (hz : b.size ≤ 1000) (h : Q (.str (Bytes.literal b) s.toks) { s with toks := s.toks + 1 }) :
    wpAny (model prog w) A (call (.builtin "repr") [.bytes b t]) Q E s :=
  call_repr_gives (typeIs_bytes _ _ _) slot_bytes_repr entry_bytes_repr (args_bytes_repr _) (gives_bytes_repr b t hz) h rfl (Nat.le_trans (literal_len b) (by rw [sizeLine_eq]; omega))
end
/-- what is compared by its repr -/
inductive GD | n | b (x : Bool) | i (x : Int) | y (x : Array UInt8) | l (xs : List Int)
def GD.sh : GD → Str
  | .n => "None" | .b x => if x then "True" else "False" | .i x => toString x | .y x => Builtin.Bytes.literal x | .l xs => (PyData.list (xs.map .int)).shown
def GD.ok : GD → Prop
  | .i x => -(2 ^ 64) ≤ x ∧ x ≤ 2 ^ 64 | .y x => x.size ≤ 1000 | .l xs => xs.length ≤ 1000 ∧ ∀ x ∈ xs, -(2 ^ 64) ≤ x ∧ x ≤ 2 ^ 64 | _ => True
def GD.is (O : Addr → Obj → Prop) (v : Value) : GD → Prop
  | .n => v = .none | .b x => v = .bool x | .i x => ∃ t, v = .int x t | .y x => ∃ t, v = .bytes x t
  | .l xs => ∃ r n, ∃ lq : List (Int × Tok), v = .ref r ∧ O r (listOf (lq.map fun p => Value.int p.1 p.2).toArray n) ∧ lq.map (·.1) = xs
theorem small_log {x : Int} (h : -(2 ^ 64) ≤ x ∧ x ≤ 2 ^ 64) : x.natAbs.log2 < 1920 := by
  have h1 : x.natAbs ≤ 2 ^ 64 := by omega
  have h2 : x.natAbs.log2 ≤ 64 := by
    by_cases z : x.natAbs = 0
    · rw [z]; decide
    · have := Nat.log2_self_le z
      exact (Nat.pow_le_pow_iff_right (by decide : 1 < 2)).mp (Nat.le_trans this h1)
  omega
theorem reads_ints {h : Heap} : ∀ lq : List (Int × Tok), ReadsAll h (lq.map fun p => Value.int p.1 p.2) ((lq.map (·.1)).map .int) []
  | [] => .nil
  | p :: r => .cons (.int _ _) (reads_ints r)
theorem ints_show : ∀ xs : List Int, (∀ x ∈ xs, -(2 ^ 64) ≤ x ∧ x ≤ 2 ^ 64) → PyData.showableAll (xs.map .int) = true ∧ PyData.hasDictAll (xs.map .int) = false ∧ PyData.leavesShortAll 1921 (xs.map .int) = true ∧ PyData.bulkAll (xs.map .int) = xs.length ∧ PyData.depthAll (xs.map .int) = 0
  | [], _ => ⟨rfl, rfl, rfl, rfl, rfl⟩
  | x :: r, h => by
    obtain ⟨a, b, c, d, e⟩ := ints_show r fun y hy => h y (List.mem_cons_of_mem _ hy)
    have hx := small_log (h x List.mem_cons_self)
    have hl : (PyData.shown (.int x)).length ≤ 1921 := by
      have := int_text_length_le (k := 1920) (by decide) hx
      show (Str.ofString (toString x)).length ≤ _
      rw [PySem.ofString_length]; exact this
    refine ⟨?_, ?_, ?_, ?_, ?_⟩
    · simp only [List.map_cons, PyData.showableAll, PyData.showable, a, Bool.and_true, decide_eq_true hx]
    · simp only [List.map_cons, PyData.hasDictAll, PyData.hasDict, b, Bool.or_false]
    · simp only [List.map_cons, PyData.leavesShortAll, PyData.leavesShort, c, Bool.and_true, decide_eq_true hl]
    · simp only [List.map_cons, PyData.bulkAll, PyData.bulk, d, List.length_cons]; omega
    · simp only [List.map_cons, PyData.depthAll, PyData.depth, e]; rfl
theorem repr_any {w : World} {A : Around} {E : Value → Shared → Prop} {s : Shared} {v : Value} {d : GD} {Q : Value → Shared → Prop} (hv : d.is (fun a o => s.heap.get? a = some o) v) (ho : d.ok) (hg : A.guards = some []) (hu : A.units + 10 < cLine)
    (hQ : ∀ h' u tk, (∀ b o, s.heap.get? b = some o → h'.get? b = some o) → Q (.str d.sh u) { s with heap := h', toks := tk }) : wpAny (model PG w) A (call (.builtin "repr") [v]) Q E s := by
  cases d with
  | n => cases hv; exact P.repr_of_none (hQ s.heap _ _ fun _ _ e => e)
  | b x => cases hv; exact P.repr_of_bool (hQ s.heap _ _ fun _ _ e => e)
  | i x => obtain ⟨t, rfl⟩ := hv; exact P.repr_of_int (small_log ho) (hQ s.heap _ _ fun _ _ e => e)
  | y x => obtain ⟨t, rfl⟩ := hv; exact repr_bytes ho (hQ s.heap _ _ fun _ _ e => e)
  | l xs =>
    obtain ⟨r, n, lq, rfl, hr, rfl⟩ := hv
    obtain ⟨a, b, c, d, e⟩ := ints_show _ ho.2
    have hb := PyData.shown_le_bulk 1921 (by decide) (.list ((lq.map fun p : Int × Tok => p.1).map .int)) (by simp only [PyData.leavesShort]; exact c)
    simp only [PyData.bulk, d] at hb
    refine repr_of_reads' (h₀ := s.heap) (d := .list ((lq.map fun p : Int × Tok => p.1).map .int)) (.list hr rfl rfl (by simpa using reads_ints lq)) (by simp only [PyData.showable]; exact a) (PyData.noDict_hsm (by simp only [PyData.hasDict]; exact b)) hg (by simp only [PyData.depth, e]; omega) (fun _ _ q => q) hQ ?_
    have := ho.1
    rw [sizeLine_eq]; omega
theorem decI_snoc : ∀ (l : List UInt8) (b : UInt8), decI (l ++ [b]) = decI l + (b.toNat : Int) * 256 ^ l.length
  | [], b => by simp [decI]
  | a :: r, b => by
    have ih := decI_snoc r b
    show (a.toNat : Int) + 256 * decI (r ++ [b]) = (a.toNat : Int) + 256 * decI r + (b.toNat : Int) * 256 ^ (r.length + 1)
    rw [ih, Int.mul_add, Int.pow_succ, ← Int.mul_assoc, Int.mul_comm (256 ^ r.length) 256, ← Int.mul_assoc, Int.mul_comm (b.toNat : Int) 256]
    omega
theorem byte_at (v : Int) (k : Nat) : Builtin.bitAnd (v.fdiv (2 ^ (8 * (k : Int)).toNat)) 255 = v / 256 ^ k % 256 := by
  have h := mask_mod (v.fdiv (2 ^ (8 * (k : Int)).toNat)) 8
  have e : (1 * 2 ^ 8 - 1 : Int) = 255 := by decide
  rw [e] at h
  rw [h, show (8 * (k : Int)).toNat = 8 * k by omega, Int.fdiv_eq_ediv_of_nonneg _ (Int.le_of_lt (Int.pow_pos (by decide))), Int.pow_mul]
  have e2 : (2 : Int) ^ 8 = 256 := by decide
  rw [e2]
theorem encL_snoc (v : Int) (n : Nat) : encL v (n + 1) = encL v n ++ [v / 256 ^ n % 256] := by
  unfold encL rangeKs
  rw [List.range_succ, List.map_append, List.map_append]
  congr 1
  show [Builtin.bitAnd (v.fdiv (2 ^ (8 * (0 + (n : Int))).toNat)) 255] = _
  rw [Int.zero_add, byte_at]
theorem bytes_len (v : Int) (n : Nat) : ((byteArr (encL v n)).toList).length = n := by
  rw [Array.length_toList, byteArr_size]; unfold encL; rw [List.length_map, rangeKs_length]
theorem decI_bytes (v : Int) : ∀ n : Nat, decI ((byteArr (encL v n)).toList) = v % 256 ^ n
  | 0 => by
    show (0 : Int) = v % 1
    omega
  | n + 1 => by
    have ih := decI_bytes v n
    have hb : (byteArr (encL v (n + 1))).toList = (byteArr (encL v n)).toList ++ [(v / 256 ^ n % 256).toNat.toUInt8] := by
      rw [encL_snoc]; unfold byteArr; rw [List.map_append]; rfl
    rw [hb, decI_snoc, ih, bytes_len]
    have hp : (0 : Int) < 256 ^ n := Int.pow_pos (by decide)
    have h0 := Int.emod_nonneg (v / 256 ^ n) (by decide : (256 : Int) ≠ 0)
    have h1 := Int.emod_lt_of_pos (v / 256 ^ n) (by decide : (0 : Int) < 256)
    have ht : (((v / 256 ^ n % 256).toNat.toUInt8.toNat : Nat) : Int) = v / 256 ^ n % 256 := by
      rw [Nat.toUInt8_eq]
      have hz : ((v / 256 ^ n % 256).toNat) < 2 ^ 8 := by omega
      rw [UInt8.toNat_ofNat_of_lt' (by exact hz)]; omega
    rw [ht, Int.pow_succ]
    generalize (256 : Int) ^ n = M at *
    have a1 := Int.emod_add_mul_ediv v M
    have a2 := Int.emod_add_mul_ediv (v / M) 256
    have a3 := Int.emod_nonneg v (show M ≠ 0 by omega)
    have a4 := Int.emod_lt_of_pos v hp
    have hk : v = (v % M + v / M % 256 * M) + (M * 256) * (v / M / 256) := by
      have : v = v % M + M * (v / M) := by omega
      conv => lhs; rw [this, ← a2]
      rw [Int.mul_add, ← Int.mul_assoc, Int.mul_comm M (v / M % 256)]
      omega
    have hlt : v % M + v / M % 256 * M < M * 256 := by
      have : v / M % 256 * M ≤ 255 * M := Int.mul_le_mul_of_nonneg_right (by omega) (Int.le_of_lt hp)
      omega
    have hge : 0 ≤ v % M + v / M % 256 * M := by
      have : 0 ≤ v / M % 256 * M := Int.mul_nonneg h0 (Int.le_of_lt hp)
      omega
    conv => rhs; rw [hk]
    rw [Int.add_mul_emod_self_left, Int.emod_eq_of_lt hge hlt]
theorem leB_len {v n : Int} (h : 0 ≤ n) : ((leB v n).length : Int) = n := by
  unfold leB; rw [bytes_len]; omega
theorem decI_leB {v n : Int} (h0 : 0 ≤ v) (h1 : v < 256 ^ n.toNat) : decI (leB v n) = v := by
  unfold leB; rw [decI_bytes, show (n - 0).toNat = n.toNat by omega, Int.emod_eq_of_lt h0 h1]
theorem signI_leB {v ns : Int} (hn : 1 ≤ ns) (h : -(((256 : Int) ^ ns.toNat).fdiv 2) ≤ v ∧ v < ((256 : Int) ^ ns.toNat).fdiv 2) : signI (leB (v.fmod (2 * ((256 : Int) ^ ns.toNat).fdiv 2)) ns) ns = v := by
  obtain ⟨hM, hpos⟩ := half_facts hn
  unfold signI
  have hl := fm_lo v (2 * ((256 : Int) ^ ns.toNat).fdiv 2) (by omega)
  have hh := fm_hi v (2 * ((256 : Int) ^ ns.toNat).fdiv 2) (by omega)
  rw [decI_leB hl (by omega), Int.fmod_eq_emod_of_nonneg _ (by omega)] 
  rw [Int.fmod_eq_emod_of_nonneg _ (by omega)] at hl hh
  generalize ((256 : Int) ^ ns.toNat).fdiv 2 = H at *
  rw [hM]
  by_cases q : 0 ≤ v
  · rw [Int.emod_eq_of_lt q (by omega), if_neg (by omega)]
  · have e : v % (2 * H) = v + 2 * H := by
      have : v = (v + 2 * H) + 2 * H * (-1) := by omega
      rw [this, Int.add_mul_emod_self_left, Int.emod_eq_of_lt (by omega) (by omega)]; omega
    rw [e, if_pos (by omega)]; omega
/-- news = front and then cx -/
inductive Spl (cx : List (Addr × Obj)) : List (Addr × Obj) → List (Addr × Obj) → Prop
  | nil : Spl cx cx []
  | cons {p r f} : Spl cx r f → Spl cx (p :: r) (p :: f)
theorem Spl.eq {cx : List (Addr × Obj)} : ∀ {n f : List (Addr × Obj)}, Spl cx n f → n = f ++ cx
  | _, _, .nil => rfl
  | _, _, .cons s => congrArg (_ :: ·) s.eq
/-- the code table of a def that makes a def: empty, or with the one code object -/
def TBs (line col : Nat) (qual : Str) (cx : List (Addr × Obj)) (ps : Array Value) : Prop :=
  (cx = [] ∧ ps = #[]) ∨ ∃ c' oc vs t, cx = [(c', oc)] ∧ ps = #[rawInt line, rawInt col, .ref c'] ∧ oc.data = .fields vs ∧ vs[1]? = some (.str qual t)
section
variable {M : Model} {A : Around} {E : Value → Shared → Prop} {s : Shared} {h₀ : Heap} {L a c P : Addr} {m mg mb : Str → Option Value} {cn : Str} {cs : Scope} {ccd : Value} {cl : List (Str × Addr)} {news front cx : List (Addr × Obj)} {g : Obj → List (Addr × Obj)}
  {p : Program} {loose : List Str} {mean : ExcName → Option Value} {name qual : Str} {params : Arguments} {body : List Stmt} {scope : Scope} {ps : Array Value} {pos : Pos} {firstLine : Nat} {clos : List (Str × Addr)}
theorem nest_both {Q : Value → Shared → Prop} {line col : Nat} (F : Fr h₀ L s.heap m) (N : News h₀ L s.heap news) (hs : Spl cx news front) (T : Top p loose mean mg mb h₀) (C : CodeHd h₀ c P) (hcd : ccd = .ref c) (U : UpdF P (tabObj ps) front g)
    (hT : TBs line col qual cx ps) (h1 : pos.line = line) (h2 : pos.col = col) (hcx : ∀ q ∈ cx, ∀ r ∈ front, r.1 ≠ q.1) (hcl : closureFor scope (envX cn cs L a ccd cl) = pure clos)
    (h : ∀ f c' oc vs t ctv doc h' tk, Fr h₀ L h' m →
      News h₀ L h' ((f, fnMade name qual params body scope clos doc ((mg "__name__").getD .none) c' ctv) :: (c', oc) :: g (tabObj #[rawInt line, rawInt col, .ref c'])) →
      oc.data = .fields vs → vs[1]? = some (.str qual t) → (∀ q ∈ front, q.1 ≠ c') → (∀ q ∈ front, q.1 < f) → c' < f → (cx = [] ∨ cx = [(c', oc)]) → Q (.ref f) { s with heap := h', toks := tk }) :
    wpAny M A (makeFunction name qual params (.stmts body) scope (envX cn cs L a ccd cl) [] [] [] pos firstLine) Q E s := by
  subst h1 h2
  rw [hs.eq] at N
  rcases hT with ⟨rfl, rfl⟩ | ⟨c', oc, vs, t, rfl, rfl, hd, hv⟩
  · rw [List.append_nil] at N
    exact nest_K F N T C hcd U trivial rfl hcl fun f c' oc vs t ctv doc h' tk F' N' d1 d2 l1 l2 => h f c' oc vs t ctv doc h' tk F' N' d1 d2 (fun q hq => Nat.ne_of_lt (l1 q hq)) (fun q hq => Nat.lt_trans (l1 q hq) l2) l2 (.inl rfl)
  · obtain ⟨pre, post, e1, e2, _, _⟩ := U.split
    have hm : (P, tabObj #[rawInt pos.line, rawInt pos.col, .ref c']) ∈ front := by rw [e1]; exact List.mem_append_right _ (.head _)
    have hg : g (tabObj #[rawInt pos.line, rawInt pos.col, .ref c']) = front := by rw [e2, e1]
    refine nestHit_K (c' := c') F N T C hcd (List.mem_append_left _ hm) trivial (by simp [codeAmong, rawInt]) hcl fun f ctv doc h' tk F' N' l1 => ?_
    refine h f c' oc vs t ctv doc h' tk F' ?_ hd hv (fun q hq => hcx _ (.head _) q hq) (fun q hq => l1 q (List.mem_append_left _ hq)) (l1 (c', oc) (List.mem_append_right _ (.head _))) (.inr rfl)
    rw [hg]
    intro q hq
    rcases List.mem_cons.mp hq with rfl | hq
    · exact N' _ (.head _)
    · rcases List.mem_cons.mp hq with rfl | hq
      · exact N' _ (.tail _ (List.mem_append_right _ (.head _)))
      · exact N' _ (.tail _ (List.mem_append_left _ hq))
end
section
variable {prog : Program} {w : World} {base : Heap} {A : Around} {l : List Env} {K : Frag} {p : Program} {loose : List Str} {mean : ExcName → Option Value} {mg mb : Str → Option Value} {s : Shared}
/-- the entry of a closure -/
theorem enterX {R : Result → Shared → Prop} {name qual : Str} {params : Arguments} {body : List Stmt} {scope : Scope} {cl : List (Str × Addr)} {doc pm ctv : Value} {c' f : Addr} {args : Args} {binds : List (Str × Value)}
    (small : List (Addr × Obj))
    (S : Std base A l s.heap) (X : K.In base) (T : Top p loose mean mg mb base)
    (hown : ∀ q ∈ small, Own base l s.heap q.1 q.2)
    (ho : s.heap.get? f = some (fnMade name qual params body scope cl doc pm c' ctv)) (hcd : s.heap.CodeRec (.ref c') qual) (hroom : A.depth < recursionLimit)
    (hbind : BindsTo s (fnX name qual params body scope cl .none .none doc pm none (.ref c') ctv) args binds) (hloc : ∀ y ∈ binds, scope.names.lookup y.1 = some .local)
    (h : ∀ g L' h₁, Fr g L' h₁ (fun y => binds.reverse.lookup y) → News g L' h₁ small → Below A base l g → K.In g → Top p loose mean mg mb g → g = hideAll s.heap (small.map (·.1)) → s.heap.objs.size ≤ L' →
      wpAny (model prog w) (A.deeper (envX qual scope L' f (.ref c') cl)) (execs body (envX qual scope L' f (.ref c') cl))
        (fun fl s' => R (.ok (.ret (match fl with | .ret v => v | _ => .none))) s')
        (fun e s' => wpAny (model prog w) (A.deeper (envX qual scope L' f (.ref c') cl)) (leaving (envX qual scope L' f (.ref c') cl) e) (fun _ s'' => R (.error e) s'') (fun e' s'' => R (.error e') s'') s')
        { s with heap := h₁, toks := s.toks + binds.length })
    (hco : scope.isCoroutine = false) (hgen : scope.isGenerator = false) (hk : scope.kind = .function)
    (hcell : ∀ x ∈ scope.names, x.2 ≠ .cell) : codeAny (model prog w) A (.call (.ref f) args) R s := by
  refine codeAny_call_def (fd := fnX name qual params body scope cl .none .none doc pm none (.ref c') ctv) (body := body) (binds := binds) hroom ho rfl (T.nolimit.keeps S.stays) hcd rfl hbind hcell hloc (fun h₁ hns hk₁ => ?_) hco hgen hk
  have nb : ∀ b o, base.get? b = some o → b ∉ small.map (·.1) := fun b o e q => by
    obtain ⟨x, hx, rfl⟩ := List.mem_map.mp q
    rw [(hown x hx).off] at e; cases e
  have st : base.StaysIn (hideAll s.heap (small.map (·.1))) := fun b o e => hideAll_get _ (S.stays b o e) (nb b o e)
  have BG : Below A base l (hideAll s.heap (small.map (·.1))) := ⟨S.stack, st, funFrames_hideAll S.ff fun env he b hb hf => by
    obtain ⟨x, hx, rfl⟩ := List.mem_map.mp hb
    exact (hown x hx).apart (List.mem_filterMap.mpr ⟨env, he, hf⟩)⟩
  exact h _ s.heap.objs.size h₁ ⟨hns, fun b o e => hk₁ b o (of_hideAll _ e), Nat.le_of_eq (hideAll_size _ _)⟩
    (fun x hx => ⟨hk₁ _ _ (hown x hx).get, Nat.ne_of_lt (Heap.lt_size (hown x hx).get), hideAll_none _ (List.mem_map_of_mem hx)⟩) BG (X.keeps st) (T.keeps st) rfl (Nat.le_refl _)
end
theorem nameNews5 {P : Prop} {g h : Heap} {L f c d a1 a2 : Addr} {o1 o2 o3 o4 o5 : Obj} {r : List (Addr × Obj)} (_N : News g L h ((f, o1) :: (c, o2) :: (d, o3) :: (a1, o4) :: (a2, o5) :: r)) (k : ∀ (p1 : Obj) (d' : Addr) (p3 p4 p5 : Obj), p1 = o1 → d' = d → p3 = o3 → p4 = o4 → p5 = o5 → P) : P := k o1 d o3 o4 o5 rfl rfl rfl rfl rfl
def Th.gd (wd : Int) : Th → GD
  | .whole v _ => .i v | .octet v => .i v | .integer v => .i v | .number v => .i (wrapI v wd) | .textN => .n | .text x => .y x
  | .cN => .n | .cB b => .b b | .cI v => .i (wrapI v wd) | .cT x => .y x | .row vs _ => .l vs
theorem kne {a b : String} (h : (Str.ofString a == Str.ofString b) = false) : Str.ofString a ≠ Str.ofString b := fun e => by rw [e, beq_self_eq_true] at h; cases h
theorem brought_any {w : World} {base : Heap} {l : List Env} {p : Program} {loose : List Str} {mean : ExcName → Option Value} {mg mb : Str → Option Value} {s : Shared} {Q E : Value → Shared → Prop} {th : Addr} {tw : Tok} {wd ls ns : Int} {t : Th}
    (S : Std base (At 310 50 l) l s.heap) (X : (KF w.params).In base) (T : Top p loose mean mg mb base) (hr : t.rep (fun a o => Own base l s.heap a o) ls ns th) (hw0 : 1 ≤ wd) (hw1 : wd ≤ 64)
    (hQ : ∀ h' tk' v, KeepBut [] s.heap h' → (t.gd wd).is (fun a o => h'.get? a = some o) v → Q v { s with heap := h', toks := tk' }) :
    codeAny (model PG w) (At 310 50 l) (.call (.ref 342) ⟨[.ref th, .int wd tw], []⟩) (RV Q E) s := by
  obtain ⟨t5, t6, t7, t8, wide, ok, sz, ra, ho, _, _, hx⟩ := hr
  cases t with
  | whole v k => exact br_same (kne rfl) (kne rfl) S X T ho fun h' tk' _ k => hQ h' tk' _ k ⟨_, rfl⟩
  | octet v => exact br_same (kne rfl) (kne rfl) S X T ho fun h' tk' _ k => hQ h' tk' _ k ⟨_, rfl⟩
  | integer v => exact br_same (kne rfl) (kne rfl) S X T ho fun h' tk' _ k => hQ h' tk' _ k ⟨_, rfl⟩
  | number v => exact br_num hw0 hw1 S X T ho fun h' tk' _ k => hQ h' tk' _ k ⟨_, rfl⟩
  | textN => exact br_same (kne rfl) (kne rfl) S X T ho fun h' tk' _ k => hQ h' tk' _ k rfl
  | text x => exact br_same (kne rfl) (kne rfl) S X T ho fun h' tk' _ k => hQ h' tk' _ k ⟨_, rfl⟩
  | cN => exact br_none S X T ho fun h' tk' _ k => hQ h' tk' _ k rfl
  | cB b => exact br_bool S X T ho fun h' tk' _ k => hQ h' tk' _ k rfl
  | cI v => exact br_int hw0 hw1 S X T ho fun h' tk' _ k => hQ h' tk' _ k ⟨_, rfl⟩
  | cT x => exact br_bytes S X T ho fun h' tk' _ k => hQ h' tk' _ k ⟨_, rfl⟩
  | row vs k =>
    obtain ⟨_, _, n, lq, hl, he⟩ := hx
    exact br_same (kne rfl) (kne rfl) S X T ho fun h' tk' _ k => hQ h' tk' _ k ⟨ra, n, lq, rfl, k _ _ hl.get (fun z => nomatch z), he⟩
theorem text_one : (leB 0 1).length = 1 := rfl
theorem text_back {x : Array UInt8} : ((x.toList ++ leB 0 1).take ((x.toList ++ leB 0 1).length - 1)).toArray = x := by
  rw [List.length_append, text_one, Nat.add_sub_cancel, List.take_left']
  rfl
theorem got_any {w : World} {base : Heap} {l : List Env} {p : Program} {loose : List Str} {mean : ExcName → Option Value} {mg mb : Str → Option Value} {s : Shared} {Q E : Value → Shared → Prop} {rd rdd hd : Addr} {x left nm : Array UInt8} {at_ given step wd ls ns : Int} {mv : Value} {oh : Obj} {tx ta k1 k2 k3 k4 k5 k6 k7 k8 k9 v3 v4 v5 v6 v7 v9 : Tok} {th : Addr} {t : Th} {rest : List UInt8}
    (S : Std base (At 310 50 l) l s.heap) (X : (KF w.params).In base) (T : Top p loose mean mg mb base) (h1 : Own base l s.heap rd (instObj 213 rdd)) (h2 : Own base l s.heap rdd (dictOf (rdD w x tx at_ ta mv wd ls ns nm k1 k2 k3 k4 k5 k6 k7 k8 k9 v3 v4 v5 v6 v7 v9) 9)) (h3 : Own base l s.heap hd (oh)) (hH : HDi w oh left given) (ht : t.rep (fun a o => Own base l s.heap a o) ls ns th) (hgood : t.good ls ns) (hfit : t.fits ls ns) (hl0 : 1 ≤ ls) (hl1 : ls ≤ 4) (hn0 : 1 ≤ ns) (hn1 : ns ≤ 8) (hw0 : 1 ≤ wd) (hw1 : wd ≤ 64)
    (hne1 : rd ≠ rdd) (hne2 : rd ≠ hd) (hne3 : rdd ≠ hd) (hne4 : th ≠ rd) (hne5 : th ≠ rdd) (hne6 : th ≠ hd) (hRX : RX w base l s.heap rd rdd hd mv step) (hS : RS x at_ left given mv nm step) (hr : rem x at_ left = t.enc ls ns ++ rest)
    (hQ : ∀ h' tk' x' tx' at' ta' left' oh' given' v, RS x' at' left' given' mv nm step → rem x' at' left' = rest → given' - (x'.size : Int) + at' = given - (x.size : Int) + at_ + ((t.enc ls ns).length : Int) → KeepBut [rdd, hd] s.heap h' →
      h'.get? rdd = some (dictOf (rdD w x' tx' at' ta' mv wd ls ns nm k1 k2 k3 k4 k5 k6 k7 k8 k9 v3 v4 v5 v6 v7 v9) 9) → h'.get? hd = some oh' → HDi w oh' left' given' → (t.gd wd).is (fun a o => h'.get? a = some o ∧ s.heap.get? a = none) v → Q v { s with heap := h', toks := tk' }) :
    codeAny (model PG w) (At 310 50 l) (.call (.ref 335) ⟨[.ref rd, .ref th], []⟩) (RV Q E) s := by
  obtain ⟨t5, t6, t7, t8, wide, ok, sz, ra, ho, _, _, hx⟩ := ht
  have hf : fnIn (KF w.params) 147 = true ∧ fnIn (KF w.params) 154 = true ∧ fnIn (KF w.params) 168 = true ∧ fnIn (KF w.params) 175 = true ∧ fnIn (KF w.params) 182 = true := ⟨by k_is, by k_is, by k_is, by k_is, by k_is⟩
  cases t with
  | whole v k =>
    cases hx
    have e : decI (leB v wide) = v := decI_leB hfit.1 hfit.2
    exact got_whole (e := leB v wide) (leB_len (by have := hgood.1; omega)) hgood.1 (by have := hgood.2; omega) S X T h1 h2 h3 ho hH hne1 hne2 hne3 hne4 hne5 hne6 hRX hS hr
      (fun h' tk' x' tx' at' ta' left' oh' given' t a b c d e1 e2 e3 => hQ h' tk' x' tx' at' ta' left' oh' given' _ a b c d e1 e2 e3 ⟨t, by rw [e]⟩)
  | octet v =>
    have e : decI (leB v 1) = v := decI_leB hfit.1 hfit.2
    exact got_meth (e := leB v 1) ((roctet (leB_len (by decide))).low (by decide) (by decide)) hf.1 (kne rfl) (kne rfl) (.inl ⟨rfl, rfl⟩) S X T h1 h2 h3 ho hH hne1 hne2 hne3 hne4 hne5 hne6 hRX hS hr
      (fun h' tk' x' tx' at' ta' left' oh' given' t a b c d e1 e2 e3 => hQ h' tk' x' tx' at' ta' left' oh' given' _ a b c d e1 e2 e3 ⟨t, by rw [e]⟩)
  | integer v =>
    have e : decI (leB v 4) = v := decI_leB hfit.1 (Int.lt_trans hfit.2 (by decide))
    exact got_meth (e := leB v 4) ((rinteger (leB_len (by decide)) (by rw [e]; exact hfit.2)).low (by decide) (by decide)) hf.2.1 (kne rfl) (kne rfl) (.inr (.inl ⟨rfl, rfl⟩)) S X T h1 h2 h3 ho hH hne1 hne2 hne3 hne4 hne5 hne6 hRX hS hr
      (fun h' tk' x' tx' at' ta' left' oh' given' t a b c d e1 e2 e3 => hQ h' tk' x' tx' at' ta' left' oh' given' _ a b c d e1 e2 e3 ⟨t, by rw [e]⟩)
  | number v =>
    have e := signI_leB hn0 hfit
    exact got_meth ((rnumber (leB_len (by omega)) hn0 hn1 hw0 hw1).low (by decide) (by decide)) hf.2.2.1 (kne rfl) (kne rfl) (.inr (.inr (.inl ⟨rfl, rfl⟩))) S X T h1 h2 h3 ho hH hne1 hne2 hne3 hne4 hne5 hne6 hRX hS hr
      (fun h' tk' x' tx' at' ta' left' oh' given' t a b c d e1 e2 e3 => hQ h' tk' x' tx' at' ta' left' oh' given' _ a b c d e1 e2 e3 ⟨t, by rw [e]⟩)
  | textN =>
    have e : decI (leB 0 ls) = 0 := decI_leB (Int.le_refl 0) (Int.pow_pos (by decide))
    exact got_meth ((rtextn (leB_len (by omega)) hl0 (by omega) e).low (by decide) (by decide)) hf.2.2.2.1 (kne rfl) (kne rfl) (.inr (.inr (.inr (.inl ⟨rfl, rfl⟩)))) S X T h1 h2 h3 ho hH hne1 hne2 hne3 hne4 hne5 hne6 hRX hS hr
      (fun h' tk' x' tx' at' ta' left' oh' given' t a b c d e1 e2 e3 => hQ h' tk' x' tx' at' ta' left' oh' given' _ a b c d e1 e2 e3 rfl)
  | text x =>
    have e : decI (leB ((x.size : Int) + 1) ls) = (x.size : Int) + 1 := decI_leB (by omega) hfit
    have hz : (x.toList ++ leB 0 1).length = x.size + 1 := by rw [List.length_append, Array.length_toList, text_one]
    have E : Th.enc ls ns (.text x) = leB ((x.size : Int) + 1) ls ++ (x.toList ++ leB 0 1) := List.append_assoc _ _ _
    have hg8 : x.size ≤ 255 := hgood
    rw [E] at hr hQ
    exact got_meth ((rtext (leB_len (by omega)) hl0 (by omega) (by rw [hz, e]; omega) (by omega) (by omega)).low (by decide) (by decide)) hf.2.2.2.1 (kne rfl) (kne rfl) (.inr (.inr (.inr (.inl ⟨rfl, rfl⟩)))) S X T h1 h2 h3 ho hH hne1 hne2 hne3 hne4 hne5 hne6 hRX hS hr
      (fun h' tk' x' tx' at' ta' left' oh' given' t a b c d e1 e2 e3 => hQ h' tk' x' tx' at' ta' left' oh' given' _ a b c d e1 e2 e3 ⟨t, by rw [text_back]⟩)
  | cN =>
    have e : decI (leB 0 1) = 0 := decI_leB (Int.le_refl 0) (Int.pow_pos (by decide))
    exact got_meth ((rconstn (leB_len (by decide)) e).low (by decide) (by decide)) hf.2.2.2.2 (kne rfl) (kne rfl) (.inr (.inr (.inr (.inr ⟨rfl, rfl⟩)))) S X T h1 h2 h3 ho hH hne1 hne2 hne3 hne4 hne5 hne6 hRX hS hr
      (fun h' tk' x' tx' at' ta' left' oh' given' t a b c d e1 e2 e3 => hQ h' tk' x' tx' at' ta' left' oh' given' _ a b c d e1 e2 e3 rfl)
  | cB b =>
    have e : decI (leB 1 1) = 1 := decI_leB (by decide) (by decide)
    have e9 : decI (leB (if b then 1 else 0) 1) = if b then 1 else 0 := decI_leB (by cases b <;> decide) (by cases b <;> decide)
    exact got_meth ((rconstb (b := b) (leB_len (by decide)) e (leB_len (by decide)) e9).low (by decide) (by decide)) hf.2.2.2.2 (kne rfl) (kne rfl) (.inr (.inr (.inr (.inr ⟨rfl, rfl⟩)))) S X T h1 h2 h3 ho hH hne1 hne2 hne3 hne4 hne5 hne6 hRX hS hr
      (fun h' tk' x' tx' at' ta' left' oh' given' t a b c d e1 e2 e3 => hQ h' tk' x' tx' at' ta' left' oh' given' _ a b c d e1 e2 e3 rfl)
  | cI v =>
    have e : decI (leB 3 1) = 3 := decI_leB (by decide) (by decide)
    have e9 := signI_leB hn0 hgood
    exact got_meth ((rconsti (leB_len (by decide)) e (leB_len (by omega)) hn0 hn1 hw0 hw1).low (by decide) (by decide)) hf.2.2.2.2 (kne rfl) (kne rfl) (.inr (.inr (.inr (.inr ⟨rfl, rfl⟩)))) S X T h1 h2 h3 ho hH hne1 hne2 hne3 hne4 hne5 hne6 hRX hS hr
      (fun h' tk' x' tx' at' ta' left' oh' given' t a b c d e1 e2 e3 => hQ h' tk' x' tx' at' ta' left' oh' given' _ a b c d e1 e2 e3 ⟨t, by rw [e9]⟩)
  | cT x =>
    have e0 : decI (leB 4 1) = 4 := decI_leB (by decide) (by decide)
    have hg8 : x.size ≤ 200 := hgood
    have e : decI (leB ((x.size : Int) + 1) ls) = (x.size : Int) + 1 := decI_leB (by omega) (by have := pow_lo hl0; omega)
    have hz : (x.toList ++ leB 0 1).length = x.size + 1 := by rw [List.length_append, Array.length_toList, text_one]
    have E : Th.enc ls ns (.cT x) = leB 4 1 ++ (leB ((x.size : Int) + 1) ls ++ (x.toList ++ leB 0 1)) := congrArg (leB 4 1 ++ ·) (List.append_assoc _ _ _)
    rw [E] at hr hQ
    exact got_meth ((rconst (leB_len (by decide)) e0 (leB_len (by omega)) hl0 (by omega) (by rw [hz, e]; omega) (by omega) (by omega)).low (by decide) (by decide)) hf.2.2.2.2 (kne rfl) (kne rfl) (.inr (.inr (.inr (.inr ⟨rfl, rfl⟩)))) S X T h1 h2 h3 ho hH hne1 hne2 hne3 hne4 hne5 hne6 hRX hS hr
      (fun h' tk' x' tx' at' ta' left' oh' given' t a b c d e1 e2 e3 => hQ h' tk' x' tx' at' ta' left' oh' given' _ a b c d e1 e2 e3 ⟨t, by rw [text_back]⟩)
  | row vs k =>
    obtain ⟨rfl, _, nr, lq, _, hlq⟩ := hx
    obtain ⟨g1, g2, g3, g4⟩ := hgood
    have h4 : (256 : Int) ^ (4 : Int).toNat = 4294967296 := by decide
    have e : decI (leB (vs.length : Int) 4) = (vs.length : Int) := decI_leB (by omega) (by rw [h4]; omega)
    have hpl := pow_lo g1
    exact got_row (e1 := leB (vs.length : Int) 4) (es := vs.map fun v => leB v wide) (leB_len (by decide)) (by rw [e, List.length_map]) (fun y hy => by obtain ⟨v, _, rfl⟩ := List.mem_map.mp hy; exact leB_len (by omega)) (by rw [List.length_map]; exact g3) g1 (by omega)
      S X T h1 h2 h3 ho hH hne1 hne2 hne3 hne4 hne5 hne6 hRX hS hr
      (fun h' tk' x' tx' at' ta' left' oh' given' r lq' nr' a b c d e1 e2 e3 f1 f2 f3 => hQ h' tk' x' tx' at' ta' left' oh' given' _ a b c d e1 e2 e3 ⟨r, nr', lq', rfl, ⟨f1, f2⟩, by
        rw [f3, List.map_map]
        exact (List.map_congr_left fun v hv => decI_leB (g4 v hv).1 (by have := (g4 v hv).2; omega)).trans (List.map_id' _)⟩)
theorem enc_len {t : Th} {ls ns : Int} (hg : t.good ls ns) (hl : 0 ≤ ls) (hn : 0 ≤ ns) : ((t.enc ls ns).length : Int) = t.size ls ns := by
  cases t with
  | whole v k => exact leB_len (Int.le_trans (by decide) hg.1)
  | octet v => exact leB_len (by decide)
  | integer v => exact leB_len (by decide)
  | number v => exact leB_len hn
  | textN => exact leB_len hl
  | text a =>
    have h := leB_len (v := (a.size : Int) + 1) hl
    show (((leB ((a.size : Int) + 1) ls ++ a.toList ++ leB 0 1).length : Nat) : Int) = ls + ((a.size : Int) + 1)
    have h3 : a.toList.length = a.size := Array.length_toList
    rw [List.length_append, List.length_append, h3, text_one]; omega
  | cN => rfl
  | cB b => cases b <;> rfl
  | cI v =>
    have h := leB_len (v := v.fmod (2 * hf ns)) hn
    have h1 : (leB 3 1).length = 1 := rfl
    show (((leB 3 1 ++ leB (v.fmod (2 * hf ns)) ns).length : Nat) : Int) = 1 + ns
    rw [List.length_append]; omega
  | cT a =>
    have h := leB_len (v := (a.size : Int) + 1) hl
    have h1 : (leB 4 1).length = 1 := rfl
    show (((leB 4 1 ++ (leB ((a.size : Int) + 1) ls ++ a.toList ++ leB 0 1)).length : Nat) : Int) = 1 + (ls + ((a.size : Int) + 1))
    have h3 : a.toList.length = a.size := Array.length_toList
    rw [List.length_append, List.length_append, List.length_append, h3, text_one]; omega
  | row vs k =>
    have h := leB_len (v := (vs.length : Int)) (n := 4) (by decide)
    have h1 := flat_len (wide := k) (es := vs.map fun v => leB v k) (fun y hy => by obtain ⟨v, _, rfl⟩ := List.mem_map.mp hy; exact leB_len (Int.le_trans (by decide) hg.1))
    rw [List.length_map, Int.mul_comm] at h1
    show (((leB (vs.length : Int) 4 ++ (vs.map fun v => leB v k).flatten).length : Nat) : Int) = 4 + k * (vs.length : Int)
    rw [List.length_append]; omega
theorem two_pow_le {n k : Nat} (h : n ≤ k) : (2 : Int) ^ n ≤ 2 ^ k := by
  have := Nat.pow_le_pow_right (n := 2) (by decide) h
  exact_mod_cast this
theorem pow_hi5 {k : Int} (h : k ≤ 5) : (256 : Int) ^ k.toNat ≤ 1099511627776 := by
  have h1 := Nat.pow_le_pow_right (n := 256) (by decide) (show k.toNat ≤ 5 by omega)
  have h2 : 256 ^ k.toNat ≤ 1099511627776 := Nat.le_trans h1 (Nat.le_of_ble_eq_true rfl)
  have e : ((256 ^ k.toNat : Nat) : Int) = (256 : Int) ^ k.toNat := Int.natCast_pow 256 _
  rw [← e]; exact Int.ofNat_le.mpr h2
theorem wrapI_ok {v wd : Int} (w0 : 1 ≤ wd) (w1 : wd ≤ 64) : -(2 ^ 64) ≤ wrapI v wd ∧ wrapI v wd ≤ 2 ^ 64 := by
  unfold wrapI
  have h0 : (0 : Int) < 2 ^ (wd - 1).toNat := Int.pow_pos (by decide)
  have h1 : (2 : Int) ^ (wd - 1).toNat ≤ 2 ^ 63 := two_pow_le (by omega)
  have h2 := fm_lo (v + 2 ^ (wd - 1).toNat) (2 * 2 ^ (wd - 1).toNat) (by omega)
  have h3 := fm_hi (v + 2 ^ (wd - 1).toNat) (2 * 2 ^ (wd - 1).toNat) (by omega)
  omega
theorem gd_ok {t : Th} {ls ns wd : Int} (hg : t.good ls ns) (hf : t.fits ls ns) (w0 : 1 ≤ wd) (w1 : wd ≤ 64) : (t.gd wd).ok := by
  cases t with
  | whole v k => have h1 := pow_hi5 hg.2; have h2 := hf.1; have h3 := hf.2; exact ⟨by omega, by omega⟩
  | octet v => have h2 := hf.1; have h3 : v < 256 := hf.2; exact ⟨by omega, by omega⟩
  | integer v => have h2 := hf.1; have h3 := hf.2; exact ⟨by omega, by omega⟩
  | number v => exact wrapI_ok w0 w1
  | textN => trivial
  | text a => exact Nat.le_trans hg (by decide)
  | cN => trivial
  | cB b => trivial
  | cI v => exact wrapI_ok w0 w1
  | cT a => exact Nat.le_trans hg (by decide)
  | row vs k => exact ⟨Nat.le_trans hg.2.2.1 (by decide), fun v hv => by have h := hg.2.2.2 v hv; exact ⟨by omega, by omega⟩⟩
theorem Th.rep.mono {O O' : Addr → Obj → Prop} {ls ns : Int} {r : Addr} {t : Th} (h : t.rep O ls ns r) (k : ∀ a o, O a o → O' a o) : t.rep O' ls ns r := by
  obtain ⟨t5, t6, t7, t8, wide, ok, sz, ra, ho, h1, h2, hx⟩ := h
  refine ⟨t5, t6, t7, t8, wide, ok, sz, ra, k _ _ ho, h1, h2, ?_⟩
  cases t with
  | row vs w => obtain ⟨a, b, n, q, hq, e⟩ := hx; exact ⟨a, b, n, q, k _ _ hq, e⟩
  | whole v w => exact hx
  | octet v => exact hx
  | integer v => exact hx
  | number v => exact hx
  | textN => exact hx
  | text a => exact hx
  | cN => exact hx
  | cB b => exact hx
  | cI v => exact hx
  | cT a => exact hx
theorem GD.is.mono {O O' : Addr → Obj → Prop} {v : Value} {d : GD} (h : d.is O v) (k : ∀ a o, O a o → O' a o) : d.is O' v := by
  cases d with
  | l xs => obtain ⟨r, n, q, e, hq, e2⟩ := h; exact ⟨r, n, q, e, k _ _ hq, e2⟩
  | n => exact h
  | b x => exact h
  | i x => exact h
  | y x => exact h
theorem News.cons_of {g h : Heap} {L a : Addr} {o : Obj} {n : List (Addr × Obj)} (N : News g L h n) (m : (a, o) ∈ n) : News g L h ((a, o) :: n) := List.forall_mem_cons.mpr ⟨N _ m, N⟩
theorem News.sub {g h : Heap} {L : Addr} {a b : List (Addr × Obj)} (N : News g L h a) (k : ∀ q ∈ b, q ∈ a) : News g L h b := fun q hq => N q (k q hq)
theorem ne_str_same {prog : Program} {w : World} {A : Around} {E : Value → Shared → Prop} {s : Shared} {x : Str} {t u : Tok} {Q : Value → Shared → Prop} (h : Q (.bool false) s) :
    wpAny (model prog w) A (compareOp .NotEq (.str x t) (.str x u)) Q E s := PyProof.Rows.ne_str (by rw [show (x != x) = false from bne_self_eq_false x]; exact h)
section
variable {w : World} {A A₀ : Around} {base g : Heap} {l : List Env} {env : Env} {L : Addr} {m : Str → Option Value} {news : List (Addr × Obj)} {p : Program} {loose : List Str} {mean : ExcName → Option Value} {mg mb : Str → Option Value} {s : Shared} {Q E : Value → Shared → Prop}
theorem got_here {rd rdd hd : Addr} {x left nm : Array UInt8} {at_ given step wd ls ns : Int} {mv : Value} {oh : Obj} {tx ta k1 k2 k3 k4 k5 k6 k7 k8 k9 v3 v4 v5 v6 v7 v9 : Tok} {th : Addr} {t : Th} {rest : List UInt8} {n1 : Obj → List (Addr × Obj)} {n2 : Obj → Obj → List (Addr × Obj)}
    (c : Cx w A A₀ base g s.heap l env L m news p loose mean mg mb) (e4 : A.depth ≤ 310) (e5 : A.units ≤ 50) (m1 : (rd, instObj 213 rdd) ∈ news)
    (U : ∀ o, Upd rdd (dictOf (rdD w x tx at_ ta mv wd ls ns nm k1 k2 k3 k4 k5 k6 k7 k8 k9 v3 v4 v5 v6 v7 v9) 9) o news (n1 o)) (U2 : ∀ o o', Upd hd oh o' (n1 o) (n2 o o')) (m3 : (hd, oh) ∈ news) (hH : HDi w oh left given)
    (ht : t.rep (fun a o => (a, o) ∈ news) ls ns th) (hgood : t.good ls ns) (hfit : t.fits ls ns) (hl0 : 1 ≤ ls) (hl1 : ls ≤ 4) (hn0 : 1 ≤ ns) (hn1 : ns ≤ 8) (hw0 : 1 ≤ wd) (hw1 : wd ≤ 64)
    (hne1 : rd ≠ rdd) (hne2 : rd ≠ hd) (hne3 : rdd ≠ hd) (hne4 : th ≠ rd) (hne5 : th ≠ rdd) (hne6 : th ≠ hd) (hR : RX w base (env :: l) s.heap rd rdd hd mv step) (hS : RS x at_ left given mv nm step) (hr : rem x at_ left = t.enc ls ns ++ rest)
    (hQ : ∀ h' tk' x' tx' at' ta' left' oh' given' v, RS x' at' left' given' mv nm step → rem x' at' left' = rest → given' - (x'.size : Int) + at' = given - (x.size : Int) + at_ + ((t.enc ls ns).length : Int) → HDi w oh' left' given' → Fr g L h' m →
      News g L h' (n2 (dictOf (rdD w x' tx' at' ta' mv wd ls ns nm k1 k2 k3 k4 k5 k6 k7 k8 k9 v3 v4 v5 v6 v7 v9) 9) oh') → (t.gd wd).is (fun a o => h'.get? a = some o) v → Q v { s with heap := h', toks := tk' }) :
    wpAny (model PG w) A (call (.ref 335) [.ref rd, .ref th]) Q E s :=
  wpAny_call (c.lift (got_any c.std c.X c.T (c.own m1) (c.own (upd_mem (U (dictOf [] 0))).1) (c.own m3) hH (ht.mono fun _ _ h => c.own h) hgood hfit hl0 hl1 hn0 hn1 hw0 hw1 hne1 hne2 hne3 hne4 hne5 hne6 hR hS hr
    (fun h' tk' x' tx' at' ta' left' oh' given' v a0 a1 a2 k hp hh hi hv => hQ h' tk' x' tx' at' ta' left' oh' given' v a0 a1 a2 hi (back2 c.F c.N (upd_mem (U (dictOf [] 0))).1 m3 k) (back_news2 c.N k (U _) (U2 _ _) hne3 hp hh) (hv.mono fun _ _ h => h.1))) e4 e5)
theorem brought_here {th : Addr} {tw : Tok} {wd ls ns : Int} {t : Th} (c : Cx w A A₀ base g s.heap l env L m news p loose mean mg mb) (e4 : A.depth ≤ 310) (e5 : A.units ≤ 50)
    (ht : t.rep (fun a o => (a, o) ∈ news) ls ns th) (hw0 : 1 ≤ wd) (hw1 : wd ≤ 64)
    (hQ : ∀ h' tk' v, Fr g L h' m → News g L h' news → (t.gd wd).is (fun a o => h'.get? a = some o) v → Q v { s with heap := h', toks := tk' }) :
    wpAny (model PG w) A (call (.ref 342) [.ref th, .int wd tw]) Q E s :=
  wpAny_call (c.lift (brought_any c.std c.X c.T (ht.mono fun _ _ h => c.own h) hw0 hw1 (fun h' tk' v k hv => hQ h' tk' v (back0 c.F k) (back_news0 c.N k) hv)) e4 e5)
theorem repr_here {v : Value} {d : GD} (F : Fr g L s.heap m) (N : News g L s.heap news) (hv : d.is (fun a o => s.heap.get? a = some o) v) (ho : d.ok) (hg : A.guards = some []) (hu : A.units + 10 < cLine)
    (hQ : ∀ h' u tk, Fr g L h' m → News g L h' news → Q (.str d.sh u) { s with heap := h', toks := tk }) : wpAny (model PG w) A (call (.builtin "repr") [v]) Q E s :=
  repr_any hv ho hg hu fun h' u tk k => hQ h' u tk (F.keeps k) (N.grown k)
theorem newsRd {P : Prop} {h : Heap} {rd rdd f : Addr} {of o' : Obj} {x nm : Array UInt8} {at_ wd ls ns : Int} {mv : Value} {tx ta k1 k2 k3 k4 k5 k6 k7 k8 k9 v3 v4 v5 v6 v7 v9 : Tok} {n : Nat} {r : List (Addr × Obj)} {o1 : Obj}
    (N : News g L h ((rd, o1) :: (rdd, dictOf (rdD w x tx at_ ta mv wd ls ns nm k1 k2 k3 k4 k5 k6 k7 k8 k9 v3 v4 v5 v6 v7 v9) n) :: (f, o') :: r)) (e : of = o')
    (k : ∀ (a b : Addr) (tx ta k1 k2 k3 k4 k5 k6 k7 k8 k9 v3 v4 v5 v6 v7 v9 : Tok), a = rd → b = rdd → News g L h ((rd, o1) :: (rdd, dictOf (rdD w x tx at_ ta mv wd ls ns nm k1 k2 k3 k4 k5 k6 k7 k8 k9 v3 v4 v5 v6 v7 v9) n) :: (f, of) :: r) → P) : P := k rd rdd _ _ _ _ _ _ _ _ _ _ _ _ _ _ _ _ _ rfl rfl (e ▸ N)
end
structure RdSt where
  x : Array UInt8
  tx : Tok
  at_ : Int
  ta : Tok
  left : Array UInt8
  given : Int
  oh : Obj
  gone : Int
  tg : Tok
theorem Spl.app {cx : List (Addr × Obj)} : ∀ (tx : List (Addr × Obj)), Spl cx (tx ++ cx) tx
  | [] => .nil
  | _ :: r => .cons (Spl.app r)
abbrev encs (ls ns : Int) (zs : List (Addr × Th)) : List UInt8 := (zs.map fun z => z.2.enc ls ns).flatten
theorem rs_start {x left O nm : Array UInt8} {mv : Value} {gv step : Int} (hx : x.size = min step.toNat O.size) (hl : left.size = O.size - step.toNat) (hO : O.size ≤ 50000) (hgv : gv = ((min step.toNat O.size : Nat) : Int)) (hs0 : 1 ≤ step) (hs1 : step ≤ 100000)
    (no : mv = .none → left = #[]) (hn : nm.size ≤ 100) : RS x 0 left gv mv nm step := ⟨Int.le_refl 0, by omega, by omega, by omega, by omega, by omega, no, hn, hs0, hs1⟩
theorem rs_zero {x O : Array UInt8} {gv step : Int} (hx : x.size = min step.toNat O.size) (hgv : gv = ((min step.toNat O.size : Nat) : Int)) : (0 : Int) = gv - (x.size : Int) + 0 := by omega
theorem Kept.dropAll {S : List Addr} {l : List Env} {h h' : Heap} {xs : List (Addr × Obj)} (x : Kept (S ++ xs.map (·.1)) l h h') (k : ∀ q ∈ xs, h.get? q.1 = some q.2 ∧ h'.get? q.1 = some q.2) : Kept S l h h' := by
  refine ⟨fun b o ho hn hf => ?_, fun b o ho hn hv => ?_⟩
  · by_cases q : b ∈ xs.map (·.1)
    · obtain ⟨z, hz, rfl⟩ := List.mem_map.mp q
      obtain ⟨a1, a2⟩ := k z hz
      rw [a1] at ho; cases ho; exact a2
    · exact x.same b o ho (fun m => (List.mem_append.mp m).elim hn q) hf
  · by_cases q : b ∈ xs.map (·.1)
    · obtain ⟨z, hz, rfl⟩ := List.mem_map.mp q
      obtain ⟨a1, a2⟩ := k z hz
      rw [a1] at ho; cases ho; exact ⟨_, a2⟩
    · exact x.slot b o ho (fun m => (List.mem_append.mp m).elim hn q) hv
theorem size_le {t : Th} {ls ns : Int} (hg : t.good ls ns) (hl0 : 1 ≤ ls) (hl1 : ls ≤ 4) (hn0 : 1 ≤ ns) (hn1 : ns ≤ 8) : 0 ≤ t.size ls ns ∧ t.size ls ns ≤ 300 := by
  cases t with
  | whole v k => obtain ⟨h1, h2⟩ := hg; show 0 ≤ k ∧ k ≤ 300; omega
  | octet v => exact (by decide : (0 : Int) ≤ 1 ∧ (1 : Int) ≤ 300)
  | integer v => exact (by decide : (0 : Int) ≤ 4 ∧ (4 : Int) ≤ 300)
  | number v => show 0 ≤ ns ∧ ns ≤ 300; omega
  | textN => show 0 ≤ ls ∧ ls ≤ 300; omega
  | text a => have h : a.size ≤ 255 := hg; show 0 ≤ ls + ((a.size : Int) + 1) ∧ ls + ((a.size : Int) + 1) ≤ 300; omega
  | cN => exact (by decide : (0 : Int) ≤ 1 ∧ (1 : Int) ≤ 300)
  | cB b => exact (by decide : (0 : Int) ≤ 2 ∧ (2 : Int) ≤ 300)
  | cI v => show 0 ≤ 1 + ns ∧ 1 + ns ≤ 300; omega
  | cT a => have h : a.size ≤ 200 := hg; show 0 ≤ 1 + (ls + ((a.size : Int) + 1)) ∧ 1 + (ls + ((a.size : Int) + 1)) ≤ 300; omega
  | row vs k =>
    obtain ⟨h1, h2, h3, _⟩ := hg
    show 0 ≤ 4 + k * (vs.length : Int) ∧ 4 + k * (vs.length : Int) ≤ 300
    have a : k * (vs.length : Int) ≤ 3 * 3 := Int.mul_le_mul h2 (by omega) (by omega) (by decide)
    have b : 0 ≤ k * (vs.length : Int) := Int.mul_nonneg (by omega) (by omega)
    omega
theorem enc_le {t : Th} {ls ns : Int} (hg : t.good ls ns) (hl0 : 1 ≤ ls) (hl1 : ls ≤ 4) (hn0 : 1 ≤ ns) (hn1 : ns ≤ 8) : (t.enc ls ns).length ≤ 300 := by
  have h1 := enc_len (ls := ls) (ns := ns) hg (by omega) (by omega)
  have h2 := size_le (ls := ls) (ns := ns) hg hl0 hl1 hn0 hn1
  omega
theorem put_any {w : World} {base : Heap} {l : List Env} {p : Program} {loose : List Str} {mean : ExcName → Option Value} {mg mb : Str → Option Value} {s : Shared} {Q E : Value → Shared → Prop} {wr wd pc th : Addr} {P : Array Value} {b : List UInt8} {n nd : Nat} {ls ns : Int} {k1 k2 k3 k4 t1 t2 : Tok} {t : Th}
    (S : Std base (At 310 50 l) l s.heap) (X : (KF w.params).In base) (T : Top p loose mean mg mb base)
    (h1 : Own base l s.heap wr (instObj 302 wd)) (h2 : Own base l s.heap wd (dictOf (wrD w ls ns pc k1 k2 k3 k4 t1 t2) nd)) (h3 : Own base l s.heap pc (listOf P n))
    (ht : t.rep (fun a o => Own base l s.heap a o ∧ a ≠ wr ∧ a ≠ wd ∧ a ≠ pc) ls ns th) (hgood : t.good ls ns) (hl0 : 1 ≤ ls) (hl1 : ls ≤ 4) (hn0 : 1 ≤ ns) (hn1 : ns ≤ 8)
    (hne1 : wr ≠ wd) (hne2 : wr ≠ pc) (hne3 : wd ≠ pc) (hP : PA P b) (hPs : P.size < 900) (hb : b.length ≤ 10000)
    (hQ1 : ∀ h' tk' P' n' r x tx, t.fits ls ns → KeepBut [pc] s.heap h' → h'.get? pc = some (listOf P' n') → PA P' (b ++ t.enc ls ns) → P'.size ≤ P.size + 4 → h'.get? r = some (tupO [.bool true, .bytes x tx]) → x.toList = b ++ t.enc ls ns → s.heap.get? r = none → Q (.ref r) { s with heap := h', toks := tk' })
    (hQ2 : ∀ h' tk' r x tx, ¬ t.fits ls ns → Kept [] l s.heap h' → h'.get? r = some (tupO [.bool false, .bytes x tx]) → x.toList = b → s.heap.get? r = none → Q (.ref r) { s with heap := h', toks := tk' }) :
    codeAny (model PG w) (At 310 50 l) (.call (.ref 330) ⟨[.ref wr, .ref th], []⟩) (RV Q E) s := by
  obtain ⟨t5, t6, t7, t8, wide, ok, sz, ra, ⟨ho, a1, a2, a3⟩, _, _, hx⟩ := ht
  have hf : fnIn (KF w.params) 243 = true ∧ fnIn (KF w.params) 250 = true ∧ fnIn (KF w.params) 257 = true ∧ fnIn (KF w.params) 264 = true ∧ fnIn (KF w.params) 271 = true := ⟨by k_is, by k_is, by k_is, by k_is, by k_is⟩
  have hz1 : b.length ≤ sizeLine := by rw [sizeLine_eq]; omega
  have hz2 : (b ++ t.enc ls ns).length ≤ sizeLine := by
    have := enc_le hgood hl0 hl1 hn0 hn1
    rw [List.length_append, sizeLine_eq]; omega
  cases t with
  | whole v k => cases hx; exact put_whole hgood.1 (Int.le_trans hgood.2 (by decide)) S X T h1 h2 h3 ho hne1 hne2 hne3 a1 a2 a3 hP hPs hz1 hz2 hQ1 hQ2
  | octet v => exact put_meth (woctet.low (by decide) (by decide) (by decide) (by decide)) hf.1 (kne rfl) (kne rfl) (.inl ⟨rfl, rfl⟩) S X T h1 h2 h3 ho hne1 hne2 hne3 a1 a2 a3 hP hPs hz1 hz2 hQ1 hQ2
  | integer v => exact put_meth (winteger.low (by decide) (by decide) (by decide) (by decide)) hf.2.1 (kne rfl) (kne rfl) (.inr (.inl ⟨rfl, rfl⟩)) S X T h1 h2 h3 ho hne1 hne2 hne3 a1 a2 a3 hP hPs hz1 hz2 hQ1 hQ2
  | number v => exact put_meth ((wnumber hn0 hn1).low (by decide) (by decide) (by decide) (by decide)) hf.2.2.1 (kne rfl) (kne rfl) (.inr (.inr (.inl ⟨rfl, rfl⟩))) S X T h1 h2 h3 ho hne1 hne2 hne3 a1 a2 a3 hP hPs hz1 hz2 hQ1 hQ2
  | textN => exact put_meth ((wtextn hl0 (Int.le_trans hl1 (by decide))).low (by decide) (by decide) (by decide) (by decide)) hf.2.2.2.1 (kne rfl) (kne rfl) (.inr (.inr (.inr (.inl ⟨rfl, rfl⟩)))) S X T h1 h2 h3 ho hne1 hne2 hne3 a1 a2 a3 hP hPs hz1 hz2 hQ1 hQ2
  | text x => exact put_meth ((wtext hl0 (Int.le_trans hl1 (by decide)) (Nat.lt_of_le_of_lt hgood (by decide))).low (by decide) (by decide) (by decide) (by decide)) hf.2.2.2.1 (kne rfl) (kne rfl) (.inr (.inr (.inr (.inl ⟨rfl, rfl⟩)))) S X T h1 h2 h3 ho hne1 hne2 hne3 a1 a2 a3 hP hPs hz1 hz2 hQ1 hQ2
  | cN => exact put_meth (wconstn.low (by decide) (by decide) (by decide) (by decide)) hf.2.2.2.2 (kne rfl) (kne rfl) (.inr (.inr (.inr (.inr ⟨rfl, rfl⟩)))) S X T h1 h2 h3 ho hne1 hne2 hne3 a1 a2 a3 hP hPs hz1 hz2 hQ1 hQ2
  | cB v => exact put_meth (wconstb.low (by decide) (by decide) (by decide) (by decide)) hf.2.2.2.2 (kne rfl) (kne rfl) (.inr (.inr (.inr (.inr ⟨rfl, rfl⟩)))) S X T h1 h2 h3 ho hne1 hne2 hne3 a1 a2 a3 hP hPs hz1 hz2 hQ1 hQ2
  | cI v => exact put_meth ((wconsti hn0 hn1 hgood).low (by decide) (by decide) (by decide) (by decide)) hf.2.2.2.2 (kne rfl) (kne rfl) (.inr (.inr (.inr (.inr ⟨rfl, rfl⟩)))) S X T h1 h2 h3 ho hne1 hne2 hne3 a1 a2 a3 hP hPs hz1 hz2 hQ1 hQ2
  | cT x =>
    have hg8 : x.size ≤ 200 := hgood
    exact put_meth ((wconst hl0 (Int.le_trans hl1 (by decide)) (by omega) (by have := pow_lo hl0; omega)).low (by decide) (by decide) (by decide) (by decide)) hf.2.2.2.2 (kne rfl) (kne rfl) (.inr (.inr (.inr (.inr ⟨rfl, rfl⟩)))) S X T h1 h2 h3 ho hne1 hne2 hne3 a1 a2 a3 hP hPs hz1 hz2 hQ1 hQ2
  | row vs k =>
    obtain ⟨rfl, n1, nr, lq, ⟨ho2, b1, b2, b3⟩, rfl⟩ := hx
    obtain ⟨g1, g2, g3, g4⟩ := hgood
    rw [List.length_map] at g3
    have E : Th.enc ls ns (.row (lq.map (·.1)) wide) = leB (lq.length : Int) 4 ++ (lq.map fun p => leB p.1 wide).flatten := by
      show leB ((lq.map (·.1)).length : Int) 4 ++ ((lq.map (·.1)).map fun v => leB v wide).flatten = _
      rw [List.length_map, List.map_map]; rfl
    rw [E] at hQ1 hz2
    exact put_row g1 (Int.le_trans g2 (by decide)) g3 (fun p hp => g4 p.1 (List.mem_map_of_mem hp)) b1 b2 b3 n1 S X T h1 h2 h3 ho ho2 hne1 hne2 hne3 a1 a2 a3 hP hPs hz1 hz2 hQ1 hQ2
theorem allLt_pair {d a : Addr} {o : Obj} {T : List (Addr × Obj)} (h : @LT.lt Nat _ a d ∧ AllLt d T) : AllLt d ((a, o) :: T) := h
theorem neww_ctr {w : World} {A₀ : Around} {base g : Heap} {l : List Env} {qn : Str} {nms : List (Str × NameKind)} {gn co : Bool} {mo : List (Str × Const)} {L fa sz : Addr} {cd : Value} {cl : List (Str × Addr)} {m : Str → Option Value} {T : List (Addr × Obj)} {p : Program} {loose : List Str} {mean : ExcName → Option Value} {mg mb : Str → Option Value} {s : Shared} {Q E : Value → Shared → Prop} {ls ns : Int} {q1 q2 : Tok}
    (X : (KF w.params).In base) (T0 : Top p loose mean mg mb base) (B' : Below A₀ base l g) (F' : Fr g L s.heap m) (N' : News g L s.heap ((sz, tupO [.int ls q1, .int ns q2]) :: T))
    (hQ : ∀ h' tk' pc wr wd k1 k2 k3 k4 t1 t2, Fr g L h' m → News g L h' ((pc, listOf #[] 0) :: (wr, instObj 302 wd) :: (wd, dictOf (wrD w ls ns pc k1 k2 k3 k4 t1 t2) 4) :: (sz, tupO [.int ls q1, .int ns q2]) :: T) → wd < wr → wr < pc → AllLt wd ((sz, tupO [.int ls q1, .int ns q2]) :: T) → AllLt pc T → Q (.ref wr) { s with heap := h', toks := tk' }) :
    wpAny (model PG w) (At 310 50 (envX qn ⟨.function, nms, gn, co, mo⟩ L fa cd cl :: l)) (call (.ref 302) [.ref sz, .bool false]) Q E s := by
  have X' := X.keeps B'.stays
  have T' := T0.keeps B'.stays
  obtain ⟨hp, gs, dr, tk, os⟩ := s
  dsimp only at *
  k_steps
  rename News g _ _ _ => N9
  rename Fr g _ _ _ => F9
  exact hQ _ _ _ _ _ _ _ _ _ _ _ F9 N9 (by assumption) (And.left (by assumption)) (allLt_pair (by assumption)) (And.right (And.right (And.right (by assumption))))
theorem newr_ctr {w : World} {A₀ : Around} {base g : Heap} {l : List Env} {qn : Str} {nms : List (Str × NameKind)} {gn co : Bool} {mo : List (Str × Const)} {L fa sz : Addr} {cd mv : Value} {cl : List (Str × Addr)} {m : Str → Option Value} {T : List (Addr × Obj)} {p : Program} {loose : List Str} {mean : ExcName → Option Value} {mg mb : Str → Option Value} {s : Shared} {Q E : Value → Shared → Prop} {ls ns wd : Int} {q1 q2 tx v3 v4 v5 : Tok} {x nm : Array UInt8}
    (X : (KF w.params).In base) (T0 : Top p loose mean mg mb base) (B' : Below A₀ base l g) (F' : Fr g L s.heap m) (N' : News g L s.heap ((sz, tupO [.int ls q1, .int ns q2]) :: T))
    (hQ : ∀ (h' : Heap) (tk' : Nat) (rd rdd : Addr) (ta k1 k2 k3 k4 k5 k6 k7 k8 k9 v6 v7 v9 : Tok), Fr g L h' m → News g L h' ((rd, instObj 213 rdd) :: (rdd, dictOf (rdD w x tx 0 ta mv wd ls ns nm k1 k2 k3 k4 k5 k6 k7 k8 k9 v3 v4 v5 v6 v7 v9) 9) :: (sz, tupO [.int ls q1, .int ns q2]) :: T) → rdd < rd → AllLt rdd ((sz, tupO [.int ls q1, .int ns q2]) :: T) → Q (.ref rd) { s with heap := h', toks := tk' }) :
    wpAny (model PG w) (At 310 50 (envX qn ⟨.function, nms, gn, co, mo⟩ L fa cd cl :: l)) (call (.ref 213) [.bytes x tx, .int wd v3, .int 9 v4, .bytes nm v5, .ref sz, mv]) Q E s := by
  have X' := X.keeps B'.stays
  have T' := T0.keeps B'.stays
  obtain ⟨hp, gs, dr, tk, os⟩ := s
  dsimp only at *
  k_steps
  rename News g _ _ _ => N9
  rename Fr g _ _ _ => F9
  exact hQ _ _ _ _ _ _ _ _ _ _ _ _ _ _ _ _ _ F9 N9 (by assumption) (allLt_pair (by assumption))
section
variable {w : World} {A A₀ : Around} {base g : Heap} {l : List Env} {qn : Str} {nms : List (Str × NameKind)} {gn co : Bool} {mo : List (Str × Const)} {L fa sz : Addr} {cd : Value} {cl : List (Str × Addr)} {m : Str → Option Value} {news T : List (Addr × Obj)} {p : Program} {loose : List Str} {mean : ExcName → Option Value} {mg mb : Str → Option Value} {s : Shared} {Q E : Value → Shared → Prop} {ls ns : Int} {q1 q2 : Tok}
theorem subT {o : Obj} (m1 : (sz, o) ∈ news) (hT : ∀ q ∈ T, q ∈ news) : ∀ q ∈ (sz, o) :: T, q ∈ news := List.forall_mem_cons.mpr ⟨m1, hT⟩
theorem neww_here (c : Cx w A A₀ base g s.heap l (envX qn ⟨.function, nms, gn, co, mo⟩ L fa cd cl) L m news p loose mean mg mb) (e4 : A.depth ≤ 310) (e5 : A.units ≤ 50) (m1 : (sz, tupO [.int ls q1, .int ns q2]) ∈ news) (hT : ∀ q ∈ T, q ∈ news)
    (hQ : ∀ h' tk' pc wr wd k1 k2 k3 k4 t1 t2, Fr g L h' m → News g L h' ((pc, listOf #[] 0) :: (wr, instObj 302 wd) :: (wd, dictOf (wrD w ls ns pc k1 k2 k3 k4 t1 t2) 4) :: (sz, tupO [.int ls q1, .int ns q2]) :: T) → wd < wr → wr < pc → AllLt wd ((sz, tupO [.int ls q1, .int ns q2]) :: T) → AllLt pc T → Q (.ref wr) { s with heap := h', toks := tk' }) :
    wpAny (model PG w) A (call (.ref 302) [.ref sz, .bool false]) Q E s :=
  lift (neww_ctr c.X c.T c.B c.F (fun q hq => c.N q (subT m1 hT q hq)) hQ) c.e1 c.e2 c.e3 e4 e5
theorem newr_here {wd : Int} {tx v3 v4 v5 : Tok} {x nm : Array UInt8} {mv : Value} (c : Cx w A A₀ base g s.heap l (envX qn ⟨.function, nms, gn, co, mo⟩ L fa cd cl) L m news p loose mean mg mb) (e4 : A.depth ≤ 310) (e5 : A.units ≤ 50) (m1 : (sz, tupO [.int ls q1, .int ns q2]) ∈ news) (hT : ∀ q ∈ T, q ∈ news)
    (hQ : ∀ (h' : Heap) (tk' : Nat) (rd rdd : Addr) (tx ta k1 k2 k3 k4 k5 k6 k7 k8 k9 v3 v4 v5 v6 v7 v9 : Tok), Fr g L h' m → News g L h' ((rd, instObj 213 rdd) :: (rdd, dictOf (rdD w x tx 0 ta mv wd ls ns nm k1 k2 k3 k4 k5 k6 k7 k8 k9 v3 v4 v5 v6 v7 v9) 9) :: (sz, tupO [.int ls q1, .int ns q2]) :: T) → rdd < rd → AllLt rdd ((sz, tupO [.int ls q1, .int ns q2]) :: T) → Q (.ref rd) { s with heap := h', toks := tk' }) :
    wpAny (model PG w) A (call (.ref 213) [.bytes x tx, .int wd v3, .int 9 v4, .bytes nm v5, .ref sz, mv]) Q E s :=
  lift (newr_ctr c.X c.T c.B c.F (fun q hq => c.N q (subT m1 hT q hq)) fun h' tk' rd rdd ta k1 k2 k3 k4 k5 k6 k7 k8 k9 v6 v7 v9 => hQ h' tk' rd rdd tx ta k1 k2 k3 k4 k5 k6 k7 k8 k9 v3 v4 v5 v6 v7 v9) c.e1 c.e2 c.e3 e4 e5
end
example : True := by
  k_with "eval IfExp" => ((with_reducible show wpAny _ _ (eval (PySem.Expr.IfExp _ _ _ _) _) (fun v s₁ => wpAny _ _ (spliced _) _ _ s₁) _ _); refine Parked.mk ?_)
  k_with "exec FunctionDef" => (k_here; refine Parked.mk ?_)
  k_with "exec Try" => (k_here; refine wpAny_Try_except ?_)
  k_with "call ref" => (k_here; (with_reducible show wpAny _ _ (call (Value.ref 213) _ _) _ _ _); refine Parked.mk ?_)
  k_with "call builtin:repr" => (k_here; (with_reducible show wpAny _ _ (call (Value.builtin "repr") [_]) _ _ _); refine Parked.mk ?_)
  k_with "compareOp NotEq str str" => (k_here; (with_reducible show wpAny _ _ (compareOp CmpOp.NotEq (Value.str _ _) (Value.str _ _)) _ _ _); with_reducible refine ne_str_same ?_)
  trivial
theorem ways_join {M : Model} {A : Around} {t : Sem Value} {Q E : Value → Shared → Prop} {s : Shared} (C : Value → Prop) (h1 : wpAny M A t (fun v s' => (∃ tk, s' = { s with toks := tk }) ∧ C v) E s) (h2 : ∀ v tk, C v → Q v { s with toks := tk }) : wpAny M A t Q E s :=
  wpAny_mono h1 (fun v s' h => by obtain ⟨⟨tk, rfl⟩, c⟩ := h; exact h2 v tk c) fun _ _ e => e
theorem off5 {cx : List (Addr × Obj)} {L a b c : Addr} (h : ∀ q ∈ cx, q.1 < L) (hn : ∀ q ∈ cx, q.1 ≠ a ∧ q.1 ≠ b ∧ q.1 ≠ c) : OwnOff cx [L + 1 + 1, L + 1, a, b, c] := fun q hq x hx => by
  have h1 := h q hq
  obtain ⟨n1, n2, n3⟩ := hn q hq
  rcases List.mem_cons.mp hx with rfl | hx
  · exact Nat.ne_of_lt (Nat.lt_succ_of_lt (Nat.lt_succ_of_lt h1))
  · rcases List.mem_cons.mp hx with rfl | hx
    · exact Nat.ne_of_lt (Nat.lt_succ_of_lt h1)
    · rcases List.mem_cons.mp hx with rfl | hx
      · exact n1
      · rcases List.mem_cons.mp hx with rfl | hx
        · exact n2
        · rw [List.mem_singleton.mp hx]; exact n3
theorem read_ctr {w : World} {base : Heap} {l : List Env} {p : Program} {loose : List Str} {mean : ExcName → Option Value} {mg mb : Str → Option Value} {s : Shared} {Q E : Value → Shared → Prop} {tl sz : Addr} {zs : List (Addr × Th)} {nt : Nat} {O : Array UInt8} {ls ns wd step : Int} {t1 t2 to tw ts : Tok} {ps : Array Value} {tx cx : List (Addr × Obj)}
    (S : Std base (At 305 30 l) l s.heap) (X : (KF w.params).In base) (T : Top p loose mean mg mb base) (h1 : Own base l s.heap tl (listOf (zs.map fun z => Value.ref z.1).toArray nt)) (h2 : Own base l s.heap sz (tupO [.int ls t1, .int ns t2])) (h3 : Own base l s.heap 344 (tabObj ps))
    (hcx : ∀ q ∈ tx ++ cx, Own base l s.heap q.1 q.2) (HC : CodeHd base 348 344) (hne1 : tl ≠ sz) (hne2 : tl ≠ 344) (hne3 : sz ≠ 344) (hcn : ∀ q ∈ tx ++ cx, q.1 ≠ tl ∧ q.1 ≠ sz ∧ q.1 ≠ 344) (hct : ∀ q ∈ cx, ∀ r ∈ tx, r.1 ≠ q.1) (hTB : TBs 267 4 (Str.ofString "_law_read.<locals>.more") cx ps)
    (hzs : ∀ z ∈ zs, z.2.rep (fun a o => (a, o) ∈ tx) ls ns z.1 ∧ z.2.good ls ns ∧ z.2.fits ls ns) (hOz : O.toList = encs ls ns zs) (hl0 : 1 ≤ ls) (hl1 : ls ≤ 4) (hn0 : 1 ≤ ns) (hn1 : ns ≤ 8) (hw0 : 1 ≤ wd) (hw1 : wd ≤ 64)
    (hO : O.size ≤ 50000) (hs0 : 1 ≤ step) (hs1 : step ≤ 100000)
    (hQ : ∀ h' tk' c' oc' vs' t', Kept [344] l s.heap h' → h'.get? 344 = some (tabObj #[rawInt 267, rawInt 4, .ref c']) → h'.get? c' = some oc' → (s.heap.get? c' = none ∨ c' ∈ cx.map (·.1)) → oc'.data = .fields vs' → vs'[1]? = some (.str (Str.ofString "_law_read.<locals>.more") t') → Q (.bool true) { s with heap := h', toks := tk' }) :
    codeAny (model PG w) (At 305 30 l) (.call (.ref 349) ⟨[.bytes O to, .ref tl, .ref sz, .int wd tw, .int step ts], []⟩) (RV Q E) s := by
  refine' enterC ((tl, listOf (zs.map fun z => Value.ref z.1).toArray nt) :: (sz, tupO [.int ls t1, .int ns t2]) :: (344, tabObj ps) :: (tx ++ cx)) S X T ?k1 ?k6 ?k7 ?k8 ?k9 ?kB ?kD ?_ ?c2 ?c3 ?c4
  case k6 => k_is
  case k7 => k_is
  case k9 => exact BindsTo.of_eq rfl
  case kB => exact rfl
  case kD => decide +kernel
  case c2 => exact rfl
  case c3 => exact rfl
  case c4 => exact rfl
  case k8 => exact Nat.le_of_ble_eq_true rfl
  case k1 => exact List.forall_mem_cons.mpr ⟨h1, List.forall_mem_cons.mpr ⟨h2, List.forall_mem_cons.mpr ⟨h3, hcx⟩⟩⟩
  intro g L' h₁ tk' cells' F' N' Y' B' X' T' hg hL l1
  k_lt l1
  k_cells Y'
  (try simp only [List.cons_append, List.nil_append] at N')
  have S0 := S
  clear S
  (try dsimp only [RV])
  (try k_fold)
  refine absE3 (by passes_own) fun E9 hP9 hE9 => ?_
  have hne1 := neN hne1
  have hne2 := neN hne2
  have hne3 := neN hne3
  have HC' := HC.keeps B'.stays
  have hclt : ∀ q ∈ tx ++ cx, q.1 < L' := fun q hq => Nat.lt_of_lt_of_le (Heap.lt_size (hcx q hq).get) hL
  have hoffA : OwnOff (tx ++ cx) [L' + 1 + 1, L' + 1, tl, sz, 344] := off5 hclt hcn
  have hoffT : OwnOff tx [L' + 1 + 1, L' + 1, tl, sz, 344] := fun q hq => hoffA q (List.mem_append_left _ hq)
  k_steps
  refine Parked.get ?_
  k_dflt (refine' nestDef_K ?d0 ?k0 ?a0 ?_; (case d0 => exact rfl); (case k0 => exact rfl); (case a0 => exact rfl))
  k_dflt (refine' nest_both ?F ?N ?S ?T ?C ?cd ?U hTB ?p1 ?p2 ?hx ?cl ?_; (case F => k_asm); (case N => k_asm); (case S => repeat' (first | exact Spl.app _ | refine' Spl.cons ?_)); (case T => k_asm); (case cd => exact rfl); (case C => exact HC'); (case U => k_updF); (case p1 => exact rfl); (case p2 => exact rfl); (case cl => exact rfl))
  case hx =>
    intro q hq
    have h8 := ltN (hclt q (List.mem_append_right _ hq))
    obtain ⟨n1, n2, n3⟩ := hcn q (List.mem_append_right _ hq)
    simp only [List.forall_mem_cons]
    exact ⟨by (refine neN ?_); (try dsimp only); omega, by (refine neN ?_); (try dsimp only); omega, by (refine neN ?_); (try dsimp only); omega, Ne.symm n1, Ne.symm n2, Ne.symm n3, hct q hq⟩
  intro f9 c9 oc9 vs9 t9 ct9 dc9 h9 tk9 F9 N9 d19 d29 ln9 l19 l29 lc9
  k_lt l19
  k_lt2 l29
  replace ln9 := off1_of ln9
  simp only [LCg.Off1] at ln9
  (try dsimp only at N9)
  refine nameNews5 N9 fun of9 hd9 oh9 oc19 oc29 e19 e29 e39 e49 e59 => ?_
  subst e29 e39 e49 e59
  have hM9 : MoreC w f9 hd9 step [(f9, of9), (c9, oc9), (L' + 1 + 1, oc19), (L' + 1, oc29)] := by
    clear F9 N9
    intro base' l' p' loose' mean' mg' mb' s' Q' E' left given dv oh S7 X7 T7 hx7 hh7 hi7 z7 g07 g17 hQ7
    obtain ⟨tl7, tg7, hi7⟩ := hi7
    have hf7 := hx7 _ (.head _)
    have hc7 := hx7 _ (.tail _ (.head _))
    have hc17 := hx7 _ (.tail _ (.tail _ (.head _)))
    have hc27 := hx7 _ (.tail _ (.tail _ (.tail _ (.head _))))
    subst e19
    refine' enterX [(L' + 1 + 1, oc19), (L' + 1, oc29), (hd9, oh)] S7 X7 T7 ?k1 hf7.get ?k7 ?k8 ?k9 ?kB ?_ ?c2 ?c3 ?c4 ?c5
    case k1 => exact List.forall_mem_cons.mpr ⟨hc17, List.forall_mem_cons.mpr ⟨hc27, List.forall_mem_cons.mpr ⟨hh7, List.forall_mem_nil _⟩⟩⟩
    case k7 => exact ⟨_, _, _, _, rfl, hc7.get, d19, d29⟩
    case k8 => exact Nat.le_of_ble_eq_true rfl
    case k9 => exact BindsTo.of_eq rfl
    case kB => exact locs rfl
    case c2 => exact rfl
    case c3 => exact rfl
    case c4 => exact rfl
    case c5 => decide
    intro g7 L7 h7 F7 N7 B7 X7' T7' hg7 hL7
    have hne7 : hd9 ≠ L' + 1 + 1 := by (refine neN ?_); omega
    have hne8 : hd9 ≠ L' + 1 := by (refine neN ?_); omega
    (try dsimp only [RV])
    (try k_fold)
    k_steps
    dsimp only
    rename Fr _ _ _ _ => F8
    rename News _ _ _ _ => N8
    refine' hQ7 _ _ _ _ _ _ ?ha ?hb (((keepBut_of F8 hg7).drop hc17.get (News.get N8 (by k_mem))).drop hc27.get (News.get N8 (by k_mem))) (News.get N8 (by k_mem)) ⟨_, _, ?hc⟩
    case hc => assumption
    case ha => assumption
    case hb => assumption
  k_steps
  refine Parked.get ?_
  refine ways_join (fun v => (v = .none ∧ (O.size : Int) < step) ∨ (v = .ref f9 ∧ step ≤ (O.size : Int))) ?_ ?_
  · k_steps
    · exact Or.inl ⟨rfl, by assumption⟩
    · exact Or.inr ⟨rfl, Int.not_lt.mp (by assumption)⟩
  intro mv9 tk8 hmv9
  k_steps
  refine Parked.get ?_
  rename Obj.IsDictOf _ oh9 _ => hid9
  rename oc19.data = _ => hcd1
  rename oc29.data = _ => hcd2
  rename Array UInt8 => x9
  rename x9.toList = _ => hx9
  rename x9.size = _ => hz9
  have hL9 : L' + 1 + 1 < hd9 := And.left (by assumption)
  k_dflt (refine' newr_here (T := (f9, of9) :: (c9, oc9) :: (hd9, oh9) :: (L' + 1 + 1, oc19) :: (L' + 1, oc29) :: (tl, _) :: (344, _) :: tx) ?C ?e4 ?e5 ?m1 ?hT ?_; (case C => (refine' ⟨?X, ?T, ?B, ?F, ?N, ?e2, ?hf, ?hke, ?e1, ?e3⟩; (case F => k_asm); (case N => k_asm); (case e2 => exact rfl); (case B => k_asm); (case X => k_asm); (case T => k_asm); (case hf => exact rfl); (case hke => exact rfl); (case e1 => exact rfl); (case e3 => exact rfl))); (case e4 => exact Nat.le_of_ble_eq_true rfl); (case e5 => exact Nat.le_of_ble_eq_true rfl); (case m1 => k_mem); (case hT => refine List.forall_mem_cons.mpr ⟨by rw [e19]; k_mem, ?_⟩; (repeat (refine List.forall_mem_cons.mpr ⟨by k_mem, ?_⟩)); exact fun q h => by repeat (first | exact h | refine List.Mem.tail _ ?_)))
  intro h' tk' rd rdd tx8 ta8 k1 k2 k3 k4 k5 k6 k7 k8 k9 v3 v4 v5 v6 v7 v9 F' N7 lr1 lr2
  k_lt2 lr1
  simp only [AllLt] at lr2
  k_steps
  refine Parked.get ?_
  rename Fr _ _ _ _ => F8
  rename News _ _ _ _ => N7
  obtain ⟨xl, hxl, gv, hgv, hHD⟩ : ∃ xl : Array UInt8, xl.toList = O.toList.drop step.toNat ∧ ∃ gv : Int, gv = ((min step.toNat O.size : Nat) : Int) ∧ HDi w oh9 xl gv := by
    refine ⟨_, ?_, _, ?_, ⟨_, _, hid9⟩⟩
    · assumption
    · exact congrArg Nat.cast (by assumption)
  have hd1 : rd ≠ rdd := by k_ne
  have hd2 : rd ≠ hd9 := by k_ne
  have hd3 : rdd ≠ hd9 := by k_ne
  have hat : AllLt hd9 tx := allLt_of fun q hq => by
    have h8 := ltN (hclt q (List.mem_append_left _ hq))
    (refine ltN ?_); omega
  have hfn : ∃ oc od fd sl, of9 = (⟨oc, od, .func fd, sl⟩ : Obj) := ⟨_, _, _, _, e19⟩
  have hRX : ∀ {env : Env} {h : Heap} {m : Str → Option Value} {nw : List (Addr × Obj)}, env.frame = some L' → Fr g L' h m → News g L' h nw → (∀ q ∈ [(f9, of9), (c9, oc9), (L' + 1 + 1, oc19), (L' + 1, oc29)], q ∈ nw) → RX w base (env :: l) h rd rdd hd9 mv9 step := by
    intro env h m nw hf F N hs
    rcases hmv9 with ⟨e, _⟩ | ⟨e, _⟩
    · exact .inl e
    · obtain ⟨oc, od, fd, sl, ho⟩ := hfn
      refine .inr ⟨f9, [(f9, of9), (c9, oc9), (L' + 1 + 1, oc19), (L' + 1, oc29)], oc, od, fd, sl, e, by rw [← ho]; exact .head _, ?_, ?_, hM9⟩
      · simp only [List.forall_mem_cons]
        exact ⟨by rw [ho]; rfl, by rw [d19]; rfl, by rw [hcd1]; rfl, by rw [hcd2]; rfl, fun _ z => nomatch z⟩
      · simp only [List.forall_mem_cons] at hs ⊢
        exact ⟨⟨own_of B' F N hf hs.1, by k_ne, by k_ne, by k_ne⟩, ⟨own_of B' F N hf hs.2.1, by k_ne, by k_ne, by k_ne⟩, ⟨own_of B' F N hf hs.2.2.1, by k_ne, by k_ne, by k_ne⟩, ⟨own_of B' F N hf hs.2.2.2.1, by k_ne, by k_ne, by k_ne⟩, fun _ z => nomatch z⟩
  have hxz : xl.size = O.size - step.toNat := by
    have := congrArg List.length hxl
    rw [List.length_drop, Array.length_toList, Array.length_toList] at this; exact this
  k_dflt (refine' loopF_list (σ := RdSt) (a1 := rdd) (a2 := hd9) (fun st => dictOf (rdD w st.x st.tx st.at_ st.ta mv9 wd ls ns #[108, 97, 119] k1 k2 k3 k4 k5 k6 k7 k8 k9 v3 v4 v5 v6 v7 v9) 9) (fun st => st.oh) (Str.ofString "gone") (fun st => .int st.gone st.tg) [] ⟨x9, tx8, 0, ta8, xl, gv, oh9, 0, _⟩ (fun i st => RS st.x st.at_ st.left st.given mv9 #[108, 97, 119] step ∧ HDi w st.oh st.left st.given ∧ rem st.x st.at_ st.left = encs ls ns (zs.drop i) ∧ st.gone = st.given - (st.x.size : Int) + st.at_ ∧ st.gone + ((encs ls ns (zs.drop i)).length : Int) = (O.size : Int)) ?F ?N ?U1 ?U2 ?hh ?hl ?hn ?hm ?hj ?_ ?_; (case F => exact F8); (case N => exact N7); (case U1 => intro st9; k_upd); (case U2 => intro st9; k_upd); (case hh => exact rfl); (case hl => intro st9; k_mem); (case hm => exact rfl); (case hn => exact rfl))
  case hj =>
    have hz1 : x9.toList ++ xl.toList = O.toList := by rw [hx9, hxl, List.take_append_drop]
    refine ⟨rs_start hz9 hxz hO hgv hs0 hs1 ?_ (by decide), hHD, hz1.trans hOz, rs_zero hz9 hgv, ?_⟩
    · intro e
      rcases hmv9 with ⟨_, h0⟩ | ⟨e1, _⟩
      · exact Array.eq_empty_of_size_eq_zero (show xl.size = 0 by omega)
      · rw [e1] at e; cases e
    · show (0 : Int) + ((encs ls ns zs).length : Int) = _
      rw [← hOz, Array.length_toList, Int.zero_add]
  · rintro i9 x9' ⟨x8, tx8, at8, ta8, left8, given8, oh8, gone8, tg8⟩ u9 I9 oI9 h9 tk9 hv9 ⟨S8, hi8, r8, g8, o8⟩ off9 F9 N9
    dsimp only at *
    simp only [LCg.Off1] at off9
    obtain ⟨⟨r9, t9⟩, hz9, rfl⟩ : ∃ z, zs[i9]? = some z ∧ x9' = .ref z.1 := by
      rw [List.getElem?_map] at hv9
      cases e : zs[i9]? with
      | none => rw [e] at hv9; cases hv9
      | some z => rw [e] at hv9; exact ⟨z, rfl, (Option.some.inj hv9).symm⟩
    obtain ⟨hrep, hgd, hft⟩ := hzs _ (List.mem_of_getElem? hz9)
    have hd8 : encs ls ns (zs.drop i9) = t9.enc ls ns ++ encs ls ns (zs.drop (i9 + 1)) := by
      obtain ⟨hi, he⟩ := List.getElem?_eq_some_iff.mp hz9
      show ((zs.drop i9).map _).flatten = _
      rw [List.drop_eq_getElem_cons hi, he]; rfl
    have hlen := enc_len (ls := ls) (ns := ns) hgd (by omega) (by omega)
    rw [hd8] at r8 o8
    rw [List.length_append] at o8
    dsimp only at *
    have hrep' := hrep
    obtain ⟨t5, t6, t7, t8, wide, ok, szv, ra, ho, _, hsz, _⟩ := hrep'
    have hr9 := ltN (hclt _ (List.mem_append_left _ ho))
    dsimp only at hr9
    have N10 := News.cons_of N9 (by repeat (first | exact ho | refine List.Mem.tail _ ?_))
    k_steps
    refine Parked.get ?_
    rename Fr _ _ _ _ => F8
    rename News _ _ _ _ => N8
    k_dflt (refine' got_here (t := t9) (rest := encs ls ns (zs.drop (i9 + 1))) ?C ?e4 ?e5 ?m1 ?U ?U2 ?m3 hi8 (hrep.mono ?mono) hgd hft hl0 hl1 hn0 hn1 hw0 hw1 hd1 hd2 hd3 ?n4 ?n5 ?n6 ?hR S8 r8 ?_; (case C => (refine' ⟨?X, ?T, ?B, ?F, ?N, ?e2, ?hf, ?hke, ?e1, ?e3⟩; (case F => k_asm); (case N => exact News.sub N8 fun q hq => .tail _ hq); (case e2 => exact rfl); (case B => k_asm); (case X => k_asm); (case T => k_asm); (case hf => exact rfl); (case hke => exact rfl); (case e1 => exact rfl); (case e3 => exact rfl))); (case e4 => exact Nat.le_of_ble_eq_true rfl); (case e5 => exact Nat.le_of_ble_eq_true rfl); (case mono => exact fun _ _ h => (by repeat (first | exact h | refine List.Mem.tail _ ?_))); (case m1 => k_mem); (case U => intro o9; k_upd); (case U2 => intro o9 o9'; k_upd); (case m3 => k_mem); (case n4 => k_ne); (case n5 => k_ne); (case n6 => k_ne); (case hR => exact hRX rfl F8 N8 (by simp only [List.forall_mem_cons]; exact ⟨by k_mem, by k_mem, by k_mem, by k_mem, fun _ z => nomatch z⟩)); k_whole)
    clear F8 N8 hi8 F9 N9
    intro h' tk' x' tx' at' ta' left' oh' given' vv S' r2' g' hi' F' N' hv'
    have hgo : given' - (x'.size : Int) + at' = gone8 + szv := by rw [g', hlen, hsz]; omega
    have ho' : gone8 + szv + ((encs ls ns (zs.drop (i9 + 1))).length : Int) = (O.size : Int) := by rw [hsz, ← hlen, ← o8]; push_cast; omega
    have hz8 := S'.z
    obtain ⟨tq9, tg9, hi9⟩ := hi'
    k_steps
    refine Parked.get ?_
    rename Fr _ _ _ _ => F8
    rename News _ _ _ _ => N8
    refine repr_here F8 N8 hv' (gd_ok hgd hft hw0 hw1) rfl (Nat.le_of_ble_eq_true rfl) fun h' u' tk' F' N' => ?_
    clear F8 N8 hv'
    k_steps
    refine Parked.get ?_
    k_dflt (refine' brought_here (t := t9) (ls := ls) (ns := ns) ?C ?e4 ?e5 (hrep.mono ?mono) hw0 hw1 ?_; (case C => (refine' ⟨?X, ?T, ?B, ?F, ?N, ?e2, ?hf, ?hke, ?e1, ?e3⟩; (case F => k_asm); (case N => k_asm); (case e2 => exact rfl); (case B => k_asm); (case X => k_asm); (case T => k_asm); (case hf => exact rfl); (case hke => exact rfl); (case e1 => exact rfl); (case e3 => exact rfl))); (case e4 => exact Nat.le_of_ble_eq_true rfl); (case e5 => exact Nat.le_of_ble_eq_true rfl); (case mono => exact fun _ _ h => (by repeat (first | exact h | refine List.Mem.tail _ ?_))); k_whole)
    clear F' N'
    intro h' tk' vv F' N' hv'
    k_steps
    refine Parked.get ?_
    rename Fr _ _ _ _ => F8
    rename News _ _ _ _ => N8
    refine repr_here F8 N8 hv' (gd_ok hgd hft hw0 hw1) rfl (Nat.le_of_ble_eq_true rfl) fun h' u' tk' F' N' => ?_
    clear F8 N8 hv'
    k_steps
    · exact absurd hgo (by assumption)
    · rename Fr _ _ _ _ => F8
      rename News _ _ _ _ => N8
      refine ⟨_, _, _, ⟨x', tx', at', ta', left', given', oh', gone8 + szv, _⟩, rfl, F8, N8, ?_, rfl, ?_, S', ⟨_, _, hi9⟩, r2', hgo.symm, ho'⟩
      · simp only [LCg.Off1]; exact off9
      · intro z h1 h2 _
        show (if z = _ then _ else if z = _ then _ else if z = _ then _ else if List.contains [] z = true then _ else _) = _
        rw [if_neg h2, if_neg h1, if_neg h2]; rfl
  · rintro u9 ux9 ⟨x8, tx8, at8, ta8, left8, given8, oh8, gone8, tg8⟩ h9 tk9 ⟨S8, hi8, r8, g8, o8⟩ F9 N9
    dsimp only at *
    rw [List.length_map, List.drop_length] at r8 o8
    have ho8 : gone8 = (O.size : Int) := by rw [← o8]; exact (Int.add_zero _).symm
    have hz8 := S8.z
    k_steps
    refine Parked.get ?_
    rename Fr _ _ _ _ => F8
    rename News _ _ _ _ => N8
    k_dflt (refine' wpAny_call (RCx.here (rest := []) (roctet (e := [0]) rfl) ?C ?e4 ?e5 ?m1 ?U ?U2 ?m3 hi8 hd1 hd2 hd3 ?hR S8 (Or.inr ⟨r8, List.cons_ne_nil _ _⟩) ?_ ?_); (case C => (refine' ⟨?X, ?T, ?B, ?F, ?N, ?e2, ?hf, ?hke, ?e1, ?e3⟩; (case F => k_asm); (case N => k_asm); (case e2 => exact rfl); (case B => k_asm); (case X => k_asm); (case T => k_asm); (case hf => exact rfl); (case hke => exact rfl); (case e1 => exact rfl); (case e3 => exact rfl))); (case e4 => exact Nat.le_of_ble_eq_true rfl); (case e5 => exact Nat.le_of_ble_eq_true rfl); (case m1 => k_mem); (case U => intro o9; k_upd); (case U2 => intro o9 o9'; k_upd); (case m3 => k_mem); (case hR => exact hRX rfl F8 N8 (by simp only [List.forall_mem_cons]; exact ⟨by k_mem, by k_mem, by k_mem, by k_mem, fun _ z => nomatch z⟩)); k_whole)
    · intro h' tk' x' tx' at' ta' left' oh' given' t9' _ _ r1' _ _ _ _ _
      rw [r8] at r1'; cases r1'
    · intro hx' h' tk' e' oh' _ _ kb' gh' hi' fr' th'
      have F7 := back1 F8 N8 (by k_mem) kb'
      have N7 := back_news N8 kb' (by k_upd) gh'
      obtain ⟨tq9, tg9, hi9⟩ := hi'
      clear F8 N8 hi8
      k_steps
      rename Fr _ _ _ _ => F9
      rename News _ _ _ _ => N9
      have hb9 : (given8 - (x8.size : Int) + at8 == (O.size : Int)) = true := by rw [← g8, ho8]; exact beq_self_eq_true _
      have htx9 : ∀ q ∈ tx, h'.get? q.1 = some q.2 := fun q h => (N9 q (by repeat (first | exact h | refine List.Mem.tail _ ?_))).1
      have hc9 : h'.get? c9 = some oc9 := News.get N9 (by k_mem)
      rw [hb9]
      refine hQ _ _ c9 oc9 vs9 t9 (Kept.dropAll (S := [344]) (xs := tx ++ cx) (((kept_end F9 gg' hg).drop h1.get (News.get N9 (by k_mem))).drop h2.get (News.get N9 (by k_mem))) fun q hq => ⟨(hcx q hq).get, ?_⟩) (News.get N9 (by k_mem)) hc9 ?_ d19 d29
      · rcases List.mem_append.mp hq with hq | hq
        · exact htx9 q hq
        · rcases lc9 with e | e
          · rw [e] at hq; cases hq
          · rw [e] at hq; rw [List.mem_singleton.mp hq]; exact hc9
      · rcases lc9 with e | e
        · refine .inl (fresh_of (gn' _ (News.get_none N9 (by k_mem))) hg ?_)
          rw [e, List.append_nil]
          simp only [List.forall_mem_cons]
          exact ⟨by k_ne, by k_ne, by k_ne, fun q hq => Ne.symm (off1_mem ln9.2.2.2.2.2.2 q hq)⟩
        · right; rw [e]; exact .head _
section
open PySem.SeqAt
variable {prog : Program} {w : World} {A : Around} {E : Value → Shared → Prop} {s : Shared}
theorem rcBytes (a b : Array UInt8) (t u : Tok) : RcAt A s (.bytes a t) (.bytes b u) (a.toList == b.toList) := fun prog w E Q h =>
  richCompare_gives (typeIs_bytes s a t) (typeIs_bytes s b u) FB.slot_bytes_eq FB.entry_bytes_eq (FB.args_bytes_eq_2 _ _) (gives_bytes_eq a b t u) (fun x => nomatch x) h
theorem eqBytes (a b : Array UInt8) (t u : Tok) : EqAt A s (.bytes a t) (.bytes b u) (a.toList == b.toList) := fun prog w E Q h => by
  unfold eqBool
  refine wpAny_holding ?_
  refine wpAny_ite_split (fun hab => ?_) (fun _ => ?_)
  · have e : a = b := by
      have := eq_of_beq hab
      injection this
    subst e
    exact wpAny_bind (wpAny_rule (wpAny_pure (by simpa using h)))
  · exact wpAny_bind (rcBytes a b t u prog w E _ (wpAny_truthy_bool h))
theorem ne_pair {l b : Addr} {x y : Array UInt8} {t u : Tok} {Q : Value → Shared → Prop} (hl : s.heap.IsTuple l #[.bool true, .bytes x t]) (hb : s.heap.IsTuple b #[.bool true, .bytes y u]) (hu : A.units < cLine) (e : x.toList = y.toList) (h : Q (.bool false) s) :
    wpAny (model prog w) A (compareOp .NotEq (.ref l) (.ref b)) Q E s := by
  refine cmp_ofNotEq (RcNeAt.tuples (e := fun _ => true) hl hb hu (fun j h1 h2 => ?_) prog w E Q h)
  match j, h1, h2 with
  | 0, _, _ => exact EqAt.bool_bool true true
  | 1, _, _ =>
    have := eqBytes (A := A.in1) (s := s) x y t u
    rw [e, beq_self_eq_true] at this; exact this
end
theorem ne_bytes_same {prog : Program} {w : World} {A : Around} {E : Value → Shared → Prop} {s : Shared} {x y : Array UInt8} {t u : Tok} {Q : Value → Shared → Prop} (e : x.toList = y.toList) (h : Q (.bool false) s) :
    wpAny (model prog w) A (compareOp .NotEq (.bytes x t) (.bytes y u)) Q E s := ne_bytes (by rw [e, show (y.toList != y.toList) = false from bne_self_eq_false _]; exact h)
theorem absQE {M : Model} {A : Around} {t : Sem Flow} {s : Shared} {Q0 : Flow → Shared → Prop} {E0 : Value → Shared → Prop} (C : Heap → Prop) (hq : ∀ h' tk', C h' → Q0 (.ret (.bool true)) { s with heap := h', toks := tk' })
    (h : ∀ Q E, (∀ h' tk', C h' → Q (.ret (.bool true)) { s with heap := h', toks := tk' }) → wpAny M A t Q E s) : wpAny M A t Q0 E0 s := h Q0 E0 hq
section
variable {g h h' : Heap} {L : Addr} {m : Str → Option Value} {env : Env} {S : List Addr} {news : List (Addr × Obj)}
theorem frs_one (hf : env.frame = some L) {b : Addr} (hb : b ≠ L) : b ∉ frs [env] := fun hm => by
  have e : frs [env] = [L] := by show List.filterMap _ [env] = _; rw [List.filterMap_cons, hf]; rfl
  rw [e] at hm; exact hb (List.mem_singleton.mp hm)
theorem backK (F : Fr g L h m) (hf : env.frame = some L) (K : Kept S [env] h h') (hS : ∀ a ∈ S, g.get? a = none ∧ a ≠ L) : Fr g L h' m := by
  obtain ⟨oL, es, ep, hL, hd, hr⟩ := id F.ns
  obtain ⟨sl, h2⟩ := K.slot L oL hL (fun hm => (hS L hm).2 rfl) (fun vs q => by rw [hd] at q; cases q)
  refine ⟨⟨_, es, ep, h2, hd, hr⟩, fun b o e => K.same b o (F.keep b o e) (fun hm => by rw [(hS b hm).1] at e; cases e) (frs_one hf ?_), F.above⟩
  exact fun q => absurd (Heap.lt_size e) (Nat.not_lt.mpr (q ▸ F.above))
theorem backKN (N : News g L h news) (hf : env.frame = some L) (K : Kept S [env] h h') (hS : ∀ q ∈ news, q.1 ∉ S) : News g L h' news := fun q hq =>
  ⟨K.same _ _ (N q hq).1 (hS q hq) (frs_one hf (N q hq).2.1), (N q hq).2⟩
end
theorem News.retail {g h : Heap} {L : Addr} {front t t' : List (Addr × Obj)} (N : News g L h (front ++ t)) (k : News g L h t') : News g L h (front ++ t') := fun q hq => by
  rcases List.mem_append.mp hq with hq | hq
  · exact N q (List.mem_append_left _ hq)
  · exact k q hq
theorem rep_list {O : Addr → Obj → Prop} {ls ns : Int} {r : Addr} {t : Th} (h : t.rep O ls ns r) : ∃ xs : List (Addr × Obj), (∀ q ∈ xs, O q.1 q.2) ∧ t.rep (fun a o => (a, o) ∈ xs) ls ns r := by
  obtain ⟨t5, t6, t7, t8, wide, ok, sz, ra, ho, h1, h2, hx⟩ := h
  have one : (∀ vs w, t ≠ .row vs w) → Th.extra (fun a o => (a, o) ∈ [(r, tupO [.str (Str.ofString t.kind) t5, t.val t6 ra, .int wide t7, .bool ok, .int sz t8])]) wide r ra t := fun hn => by
    cases t with
    | row vs w => exact absurd rfl (hn vs w)
    | whole v w => exact hx
    | octet v => exact hx
    | integer v => exact hx
    | number v => exact hx
    | textN => exact hx
    | text a => exact hx
    | cN => exact hx
    | cB b => exact hx
    | cI v => exact hx
    | cT a => exact hx
  by_cases hr : ∃ vs w, t = .row vs w
  · obtain ⟨vs, w, rfl⟩ := hr
    obtain ⟨a, b, n, q, hq, e⟩ := hx
    exact ⟨[(r, _), (ra, _)], List.forall_mem_cons.mpr ⟨ho, List.forall_mem_cons.mpr ⟨hq, List.forall_mem_nil _⟩⟩, t5, t6, t7, t8, wide, ok, sz, ra, .head _, h1, h2, a, b, n, q, .tail _ (.head _), e⟩
  · exact ⟨[(r, _)], List.forall_mem_cons.mpr ⟨ho, List.forall_mem_nil _⟩, t5, t6, t7, t8, wide, ok, sz, ra, .head _, h1, h2, one fun vs w e => hr ⟨vs, w, e⟩⟩
section
variable {w : World} {A A₀ : Around} {base g : Heap} {l : List Env} {env : Env} {L : Addr} {m : Str → Option Value} {news : List (Addr × Obj)} {p : Program} {loose : List Str} {mean : ExcName → Option Value} {mg mb : Str → Option Value} {s : Shared} {Q E : Value → Shared → Prop}
theorem none_up {h h' : Heap} {a : Addr} (F : Fr g L h m) (N : News g L h news) (hn : h.get? a = none) (hL : h.get? L ≠ none) : g.get? a = none ∧ a ≠ L ∧ ∀ q ∈ news, q.1 ≠ a := by
  refine ⟨?_, fun e => hL (e ▸ hn), fun q hq e => ?_⟩
  · cases e : g.get? a with
    | none => rfl
    | some o => rw [F.keep _ _ e] at hn; cases hn
  · rw [← e, (N q hq).1] at hn; cases hn
theorem fr_some {h : Heap} (F : Fr g L h m) : h.get? L ≠ none := fun e => by
  obtain ⟨o, h1, _⟩ := fr_obj F
  rw [h1] at e; cases e
theorem thing_here {roll sl sz : Addr} {vs : List Value} {ns : List Int} {n n' : Nat} {spot ls nsz : Int} {tk t1 t2 : Tok} {known : Int → Tok → List (Addr × Obj)} {tx : List (Addr × Obj)}
    (c : Cx w A A₀ base g s.heap l env L m news p loose mean mg mb) (e4 : A.depth ≤ 310) (e5 : A.units ≤ 50)
    (m1 : (roll, listOf #[.ref sl, .int spot tk] n) ∈ news) (m2 : (sl, listOf vs.toArray n') ∈ news) (m3 : (sz, tupO [.int ls t1, .int nsz t2]) ∈ news) (U : ∀ spot' t', Upd roll (listOf #[.ref sl, .int spot tk] n) (listOf #[.ref sl, .int spot' t'] n) news (known spot' t' ++ tx))
    {adr : List Addr} (hadr : ∀ b ∈ adr, ∃ o, (b, o) ∈ news) (hoff : OwnOff tx adr) (hi : IntsAre vs ns) (hlen : ns.length ≤ 63) (hne : sl < roll) (hs0 : 0 ≤ spot) (hs1 : spot < 8000) (hl0 : 1 ≤ ls) (hl1 : ls ≤ 4) (hn0 : 1 ≤ nsz) (hn1 : nsz ≤ 8) (hne2 : roll < sz)
    (hQ : ∀ h' tk' r t spot' t' tx', Th.good ls nsz t → spot ≤ spot' → spot' ≤ spot + 10 → (∀ q ∈ tx, q ∈ tx') → OwnOff tx' adr → t.rep (fun a o => (a, o) ∈ tx') ls nsz r → Fr g L h' m → News g L h' (known spot' t' ++ tx') → Q (.ref r) { s with heap := h', toks := tk' }) :
    wpAny (model PG w) A (call (.ref 323) [.ref roll, .ref sz]) Q E s :=
  wpAny_call (c.lift (thing_ctr c.std c.X c.T (c.own m1) (c.own m2) (c.own m3) hi hlen hne hs0 hs1 hl0 hl1 hn0 hn1 hne2
    (fun h' tk' r t spot' t' hg h1 h2 k hr hrep => by
      obtain ⟨xs, hx, hrep'⟩ := rep_list hrep
      have F' := back1 c.F c.N m1 k
      have N' := back_news c.N k (U spot' t') hr
      have hnew : ∀ q ∈ xs, g.get? q.1 = none ∧ q.1 ≠ L ∧ ∀ p ∈ news, p.1 ≠ q.1 := fun q hq => none_up (h' := h') c.F c.N (hx q hq).2 (fr_some c.F)
      refine hQ h' tk' r t spot' t' (xs ++ tx) hg h1 h2 (fun q hq => List.mem_append_right _ hq) (fun q hq b hb => ?_) (hrep'.mono fun a o ha => List.mem_append_left _ ha) F' (News.retail N' fun q hq => ?_)
      · rcases List.mem_append.mp hq with hq | hq
        · obtain ⟨o, hm⟩ := hadr b hb
          exact Ne.symm ((hnew q hq).2.2 _ hm)
        · exact hoff q hq b hb
      · rcases List.mem_append.mp hq with hq | hq
        · exact ⟨(hx q hq).1, (hnew q hq).2.1, (hnew q hq).1⟩
        · exact N' q (List.mem_append_right _ hq))) e4 e5)
theorem put_here {wr wd pc th : Addr} {P : Array Value} {b : List UInt8} {n nd : Nat} {ls ns : Int} {k1 k2 k3 k4 t1 t2 : Tok} {t : Th} {news' : Array Value → Nat → List (Addr × Obj)}
    (c : Cx w A A₀ base g s.heap [] env L m news p loose mean mg mb) (e4 : A.depth ≤ 310) (e5 : A.units ≤ 50)
    (m1 : (wr, instObj 302 wd) ∈ news) (m2 : (wd, dictOf (wrD w ls ns pc k1 k2 k3 k4 t1 t2) nd) ∈ news) (U : ∀ P' n', Upd pc (listOf P n) (listOf P' n') news (news' P' n'))
    (ht : t.rep (fun a o => (a, o) ∈ news ∧ a ≠ wr ∧ a ≠ wd ∧ a ≠ pc) ls ns th) (hgood : t.good ls ns) (hl0 : 1 ≤ ls) (hl1 : ls ≤ 4) (hn0 : 1 ≤ ns) (hn1 : ns ≤ 8)
    (hne1 : wr ≠ wd) (hne2 : wr ≠ pc) (hne3 : wd ≠ pc) (hP : PA P b) (hPs : P.size < 900) (hb : b.length ≤ 10000)
    (hQ1 : ∀ h' tk' P' n' r x tx, t.fits ls ns → PA P' (b ++ t.enc ls ns) → P'.size ≤ P.size + 4 → x.toList = b ++ t.enc ls ns → Fr g L h' m → News g L h' ((r, tupO [.bool true, .bytes x tx]) :: news' P' n') → (∀ q ∈ news, q.1 ≠ r) → Q (.ref r) { s with heap := h', toks := tk' })
    (hQ2 : ∀ h' tk' r x tx, ¬ t.fits ls ns → x.toList = b → Fr g L h' m → News g L h' ((r, tupO [.bool false, .bytes x tx]) :: news) → (∀ q ∈ news, q.1 ≠ r) → Q (.ref r) { s with heap := h', toks := tk' }) :
    wpAny (model PG w) A (call (.ref 330) [.ref wr, .ref th]) Q E s :=
  wpAny_call (c.lift (put_any c.std c.X c.T (c.own m1) (c.own m2) (c.own (upd_mem (U #[] 0)).1) (ht.mono fun _ _ h => ⟨c.own h.1, h.2⟩) hgood hl0 hl1 hn0 hn1 hne1 hne2 hne3 hP hPs hb
    (fun h' tk' P' n' r x tx hf k hp pa ps hr hx hn => by
      obtain ⟨a1, a2, a3⟩ := none_up (h' := h') c.F c.N hn (fr_some c.F)
      exact hQ1 h' tk' P' n' r x tx hf pa ps hx (back1 c.F c.N (upd_mem (U P' n')).1 k) (List.forall_mem_cons.mpr ⟨⟨hr, a2, a1⟩, back_news c.N k (U P' n') hp⟩) a3)
    (fun h' tk' r x tx hf k hr hx hn => by
      obtain ⟨a1, a2, a3⟩ := none_up (h' := h') c.F c.N hn (fr_some c.F)
      exact hQ2 h' tk' r x tx hf hx (backK c.F c.hf k fun _ z => nomatch z) (List.forall_mem_cons.mpr ⟨⟨hr, a2, a1⟩, backKN c.N c.hf k fun _ _ z => nomatch z⟩) a3)) e4 e5)
end
structure LSt where
  P : Array Value
  n : Nat
  O : Array UInt8
  tO : Tok
  zs : List (Addr × Th)
  nt : Nat
  spot : Int
  ts : Tok
  tx : List (Addr × Obj)
/-- what holds between the turns of the law's loop -/
structure LJ (ls ns : Int) (adr : List Addr) (i : Nat) (st : LSt) : Prop where
  pa : PA st.P st.O.toList
  ps : st.P.size ≤ 4 * i
  os : st.O.size ≤ 300 * i
  oz : st.O.toList = encs ls ns st.zs
  zl : st.zs.length ≤ i
  s0 : 0 ≤ st.spot
  s1 : st.spot ≤ 10 + 10 * (i : Int)
  rz : ∀ z ∈ st.zs, z.2.rep (fun a o => (a, o) ∈ st.tx) ls ns z.1 ∧ z.2.good ls ns ∧ z.2.fits ls ns
  off : OwnOff st.tx adr
theorem nameN3 {P : Prop} {g h : Heap} {L a b c : Addr} {o1 o2 o3 : Obj} {r : List (Addr × Obj)} (_N : News g L h ((a, o1) :: (b, o2) :: (c, o3) :: r)) (k : ∀ a' b' c' : Addr, a' = a → b' = b → c' = c → P) : P := k a b c rfl rfl rfl
theorem newsWr {P : Prop} {w : World} {g h : Heap} {L D tl pc wr wd m2 sz m1 : Addr} {oD o1 o2 o3 o4 o6 : Obj} {q1 q2 : Tok} {ls ns : Int} {k1 k2 k3 k4 t1 t2 : Tok} {nd : Nat} {r : List (Addr × Obj)}
    (N : News g L h ((D, oD) :: (tl, o1) :: (pc, o2) :: (wr, o3) :: (wd, dictOf (wrD w ls ns pc k1 k2 k3 k4 t1 t2) nd) :: (m2, o4) :: (sz, tupO [.int ls q1, .int ns q2]) :: (m1, o6) :: r))
    (k : ∀ (tl' pc' wr' wd' sz' : Addr) (k1 k2 k3 k4 t1 t2 q1 q2 : Tok), tl' = tl → pc' = pc → wr' = wr → wd' = wd → sz' = sz → News g L h ((tl', o1) :: (pc', o2) :: (wr', o3) :: (wd', dictOf (wrD w ls ns pc' k1 k2 k3 k4 t1 t2) nd) :: (sz', tupO [.int ls q1, .int ns q2]) :: r) → P) : P :=
  k tl pc wr wd sz k1 k2 k3 k4 t1 t2 q1 q2 rfl rfl rfl rfl rfl (News.sub N fun q hq => by
    rcases List.mem_cons.mp hq with rfl | hq
    · exact .tail _ (.head _)
    · rcases List.mem_cons.mp hq with rfl | hq
      · exact .tail _ (.tail _ (.head _))
      · rcases List.mem_cons.mp hq with rfl | hq
        · exact .tail _ (.tail _ (.tail _ (.head _)))
        · rcases List.mem_cons.mp hq with rfl | hq
          · exact .tail _ (.tail _ (.tail _ (.tail _ (.head _))))
          · rcases List.mem_cons.mp hq with rfl | hq
            · exact .tail _ (.tail _ (.tail _ (.tail _ (.tail _ (.tail _ (.head _))))))
            · exact .tail _ (.tail _ (.tail _ (.tail _ (.tail _ (.tail _ (.tail _ (.tail _ hq))))))))
theorem newsW2 {P : Prop} {w : World} {g h : Heap} {L pc wr wd : Addr} {o2 o3 : Obj} {ls ns : Int} {k1 k2 k3 k4 t1 t2 : Tok} {nd : Nat} {r : List (Addr × Obj)}
    (N : News g L h ((pc, o2) :: (wr, o3) :: (wd, dictOf (wrD w ls ns pc k1 k2 k3 k4 t1 t2) nd) :: r))
    (k : ∀ (pc' wr' wd' : Addr) (k1 k2 k3 k4 t1 t2 : Tok), pc' = pc → wr' = wr → wd' = wd → News g L h ((pc', o2) :: (wr', o3) :: (wd', dictOf (wrD w ls ns pc' k1 k2 k3 k4 t1 t2) nd) :: r) → P) : P :=
  k pc wr wd k1 k2 k3 k4 t1 t2 rfl rfl rfl N
theorem allLt_mem {d : Addr} : ∀ {l : List (Addr × Obj)}, AllLt d l → ∀ q ∈ l, q.1 < d
  | [], _, _, h => nomatch h
  | _ :: _, x, q, h => by
    rcases List.mem_cons.mp h with rfl | h
    · exact x.1
    · exact allLt_mem x.2 q h
theorem ne_lt {d a : Addr} {o : Obj} {l : List (Addr × Obj)} (h : (a, o) ∈ l) (k : AllLt d l) : a ≠ d := Nat.ne_of_lt (allLt_mem k _ h)
theorem ne_lt2 {d d2 a : Addr} {o : Obj} {l : List (Addr × Obj)} (h : (a, o) ∈ l) (k : AllLt d l) (k2 : d < d2) : a ≠ d2 := Nat.ne_of_lt (Nat.lt_trans (allLt_mem k _ h) k2)
theorem ds4 {z a b c d : Str} (h : [a, b, c, d].contains z = false) : z ≠ a ∧ z ≠ b ∧ z ≠ c ∧ z ≠ d := by
  simp only [List.contains_cons, List.contains_nil, Bool.or_false, Bool.or_eq_false_iff, beq_eq_false_iff_ne] at h
  exact ⟨h.1, h.2.1, h.2.2.1, h.2.2.2⟩
theorem encs_snoc {ls ns : Int} {zs : List (Addr × Th)} {r : Addr} {t : Th} : encs ls ns (zs ++ [(r, t)]) = encs ls ns zs ++ t.enc ls ns := by
  show ((zs ++ [(r, t)]).map _).flatten = _
  rw [List.map_append, List.flatten_append]
  show _ ++ (t.enc ls ns ++ []) = _
  rw [List.append_nil]
theorem refs_snoc {zs : List (Addr × Th)} {r : Addr} {t : Th} : (zs ++ [(r, t)]).map (fun z => Value.ref z.1) = zs.map (fun z => Value.ref z.1) ++ [Value.ref r] := by rw [List.map_append]; rfl
section
variable {w : World} {A A₀ : Around} {base g : Heap} {env : Env} {L : Addr} {m : Str → Option Value} {news : List (Addr × Obj)} {p : Program} {loose : List Str} {mean : ExcName → Option Value} {mg mb : Str → Option Value} {s : Shared} {Q E : Value → Shared → Prop}
theorem backKU {h h' : Heap} {a : Addr} {o o' : Obj} {news' : List (Addr × Obj)} (N : News g L h news) (hf : env.frame = some L) (K : Kept [a] [env] h h') (U : Upd a o o' news news') (ha : h'.get? a = some o') : News g L h' news' := by
  obtain ⟨pre, post, rfl, rfl, h1, h2⟩ := U.split
  intro q hq
  rcases List.mem_append.mp hq with hq | hq
  · have z := N q (List.mem_append_left _ hq)
    exact ⟨K.same _ _ z.1 (fun w => h1 q hq (List.mem_singleton.mp w)) (frs_one hf z.2.1), z.2⟩
  · rcases List.mem_cons.mp hq with rfl | hq
    · exact ⟨ha, (N (a, o) (List.mem_append_right _ (.head _))).2⟩
    · have z := N q (List.mem_append_right _ (.tail _ hq))
      exact ⟨K.same _ _ z.1 (fun w => h2 q hq (List.mem_singleton.mp w)) (frs_one hf z.2.1), z.2⟩
theorem read_here {tl sz : Addr} {zs : List (Addr × Th)} {nt : Nat} {O : Array UInt8} {ls ns wd step : Int} {t1 t2 to tw ts : Tok} {ps : Array Value} {tx cx : List (Addr × Obj)} {news' : Array Value → List (Addr × Obj)}
    (c : Cx w A A₀ base g s.heap [] env L m news p loose mean mg mb) (e4 : A.depth ≤ 305) (e5 : A.units ≤ 30)
    (m1 : (tl, listOf (zs.map fun z => Value.ref z.1).toArray nt) ∈ news) (m2 : (sz, tupO [.int ls t1, .int ns t2]) ∈ news) (U : ∀ ps', Upd 344 (tabObj ps) (tabObj ps') news (news' ps')) (mt : ∀ q ∈ tx ++ cx, q ∈ news)
    (HC : CodeHd base 348 344) (hne1 : tl ≠ sz) (hne2 : tl ≠ 344) (hne3 : sz ≠ 344) (hcn : ∀ q ∈ tx ++ cx, q.1 ≠ tl ∧ q.1 ≠ sz ∧ q.1 ≠ 344) (hct : ∀ q ∈ cx, ∀ r ∈ tx, r.1 ≠ q.1) (hTB : TBs 267 4 (Str.ofString "_law_read.<locals>.more") cx ps)
    (hzs : ∀ z ∈ zs, z.2.rep (fun a o => (a, o) ∈ tx) ls ns z.1 ∧ z.2.good ls ns ∧ z.2.fits ls ns) (hOz : O.toList = encs ls ns zs) (hl0 : 1 ≤ ls) (hl1 : ls ≤ 4) (hn0 : 1 ≤ ns) (hn1 : ns ≤ 8) (hw0 : 1 ≤ wd) (hw1 : wd ≤ 64)
    (hO : O.size ≤ 50000) (hs0 : 1 ≤ step) (hs1 : step ≤ 100000)
    (hQ : ∀ h' tk' c' oc' vs' t', Fr g L h' m → News g L h' (news' #[rawInt 267, rawInt 4, .ref c']) → h'.get? c' = some oc' → (s.heap.get? c' = none ∨ c' ∈ cx.map (·.1)) → oc'.data = .fields vs' → vs'[1]? = some (.str (Str.ofString "_law_read.<locals>.more") t') → Q (.bool true) { s with heap := h', toks := tk' }) :
    wpAny (model PG w) A (call (.ref 349) [.bytes O to, .ref tl, .ref sz, .int wd tw, .int step ts]) Q E s :=
  wpAny_call (c.lift (read_ctr c.std c.X c.T (c.own m1) (c.own m2) (c.own (upd_mem (U #[])).1) (fun q hq => c.own (mt q hq)) HC hne1 hne2 hne3 hcn hct hTB hzs hOz hl0 hl1 hn0 hn1 hw0 hw1 hO hs0 hs1
    (fun h' tk' c' oc' vs' t' K h3 hc hd h1 h2 => hQ h' tk' c' oc' vs' t'
      (backK c.F c.hf K fun a ha => by
        have z := c.N _ (upd_mem (U #[])).1
        rw [List.mem_singleton.mp ha]; exact ⟨z.2.2, z.2.1⟩)
      (backKU c.N c.hf K (U _) h3) hc hd h1 h2)) e4 e5)
end
theorem News.push {g h : Heap} {L a : Addr} {o : Obj} {m : Str → Option Value} {n : List (Addr × Obj)} (_F : Fr g L h m) (N : News g L h n) (e : h.get? a = some o) (h1 : a ≠ L) (h2 : g.get? a = none) : News g L h ((a, o) :: n) := List.forall_mem_cons.mpr ⟨⟨e, h1, h2⟩, N⟩
example : True := by
  k_with "call ref" => (k_here; (with_reducible show wpAny _ _ (call (Value.ref 313) _ _) _ _ _); refine Parked.mk ?_)
  k_with "call ref" => (k_here; (with_reducible show wpAny _ _ (call (Value.ref 302) _ _) _ _ _); refine Parked.mk ?_)
  k_with "exec For Name Call cons nil" => (k_here; refine Parked.mk ?_)
  k_with "compareOp NotEq bytes bytes" => (k_here; refine Parked.mk ?_)
  k_with "compareOp NotEq ref ref" => (k_here; refine Parked.mk ?_)
  k_with "call type:range" => (k_here; refine Parked.mk ?_)
  trivial
theorem lw_ps {a b i : Nat} (h : a ≤ b + 4) (k : b ≤ 4 * i) : a ≤ 4 * (i + 1) := by omega
theorem lw_ps0 {b i : Nat} (k : b ≤ 4 * i) : b ≤ 4 * (i + 1) := by omega
theorem lw_os {x o e i : Nat} (h : x = o + e) (he : e ≤ 300) (k : o ≤ 300 * i) : x ≤ 300 * (i + 1) := by omega
theorem lw_os0 {x o i : Nat} (h : x = o) (k : o ≤ 300 * i) : x ≤ 300 * (i + 1) := by omega
theorem lw_zl {a i : Nat} (k : a ≤ i) : a ≤ i + 1 := by omega
theorem lw_s1 {a b : Int} {i : Nat} (h : b ≤ a + 10) (k : a ≤ 10 + 10 * (i : Int)) : b ≤ 10 + 10 * ((i + 1 : Nat) : Int) := by omega
theorem lw_s8 {a : Int} {i : Nat} (h : i ≤ 6) (k : a ≤ 10 + 10 * (i : Int)) : a < 8000 := by omega
theorem lw_pb {b i : Nat} (h : i ≤ 6) (k : b ≤ 4 * i) : b < 900 := by omega
theorem lw_ob {o : Array UInt8} {i : Nat} (h : i ≤ 6) (k : o.size ≤ 300 * i) : o.toList.length ≤ 10000 := by rw [Array.length_toList]; omega
theorem lw_pc {xb x o e : Nat} {z sz : Int} (h1 : xb = x - (o : Int).toNat) (h2 : x = o + e) (h3 : (e : Int) = z) (h4 : sz = z) : (xb : Int) = sz := by omega
theorem lw_i6 {i : Nat} {c : Int} (h : i < (4 + c).toNat) (k : c < 4) : i ≤ 6 := by omega
theorem law_sub {K : Frag} {f : Addr} {oc c x y z m e t : Value} {od d i : Option Addr} {fd : FuncData} {osl l : Array (Option Value)} {body b : List Stmt} {scope s : Scope} {n q : Str} {a : Arguments} {P : List Stmt → Scope → Prop} (ho : K.lookup f = some ⟨oc, od, .func fd, osl⟩) (hb : fd.body = .stmts body) (hsc : fd.scope = scope)
    (h2 : K.lookup f = some ⟨c, d, .func (fnOf n q a b s x y z m i e t), l⟩) (k : P b s) : P body scope := by
  rw [h2] at ho
  cases ho
  subst hsc
  injection hb with hb
  subst hb
  exact k
theorem law_core {w : World} {g : Heap} {L fa sc : Addr} {cd : Value} {p : Program} {loose : List Str} {mean : ExcName → Option Value} {mg mb : Str → Option Value} {s : Shared} {Q : Flow → Shared → Prop} {E : Value → Shared → Prop} {vs0 : List Value} {ns0 : List Int} {fd : FuncData} {oc : Value} {od : Option Addr} {osl : Array (Option Value)} {body : List Stmt} {scope : Scope}
    (ho : (KF w.params).lookup 356 = some ⟨oc, od, .func fd, osl⟩) (hb : fd.body = .stmts body) (hsc : fd.scope = scope)
    (X' : (KF w.params).In g) (T' : Top p loose mean mg mb g) (B' : Below callerA g [] g) (F' : Fr g L s.heap fun x => List.lookup x [(Str.ofString "script", Value.ref sc)].reverse) (N' : News g L s.heap [(344, tabObj #[])]) (hl0 : 344 < L) (HC : CodeHd g 348 344)
    (hI0 : IntsAre vs0 ns0) (lifted : g.IsList sc vs0.toArray) (hlen0 : ns0.length ≤ 63)
    (hQ : ∀ h' tk', GrownAt 344 h' → g.StaysIn h' → Q (.ret (.bool true)) { s with heap := h', toks := tk' })
    (hE : PassesOwn (model PG w) (callerA.deeper (envOf (Str.ofString "law") scope L fa cd)) (envOf (Str.ofString "law") scope L fa cd) E) :
    wpAny (model PG w) (callerA.deeper (envOf (Str.ofString "law") scope L fa cd)) (execs body (envOf (Str.ofString "law") scope L fa cd)) Q E s := by
  refine' law_sub (P := fun body scope => PassesOwn (model PG w) (callerA.deeper (envOf (Str.ofString "law") scope L fa cd)) (envOf (Str.ofString "law") scope L fa cd) E → wpAny (model PG w) (callerA.deeper (envOf (Str.ofString "law") scope L fa cd)) (execs body (envOf (Str.ofString "law") scope L fa cd)) Q E s) ho hb hsc ?h2 ?_ hE
  case h2 => k_is
  clear ho hb hsc hE
  intro hE
  have hlen9 : (ns0.take 63).length ≤ 63 := by rw [List.length_take]; omega
  (try dsimp only)
  k_steps
  rename News _ _ _ _ => N8
  refine nameN3 N8 fun me roll sl e1 e2 e3 => ?_
  subst e1 e2 e3
  have hsr : sl < roll := And.left (by assumption)
  refine Parked.get ?_
  k_dflt (refine' cut_here ?X ?T ?B ?F ?N ?e2 ?hf ?hke ?e1 ?e3 ?e4 ?e5 ?m2 ?U ?m1 ?hi ?hl ?hn ?s0 ?s1 ?b0 ?b1 ?_; (case F => k_asm); (case N => k_asm); (case e2 => exact rfl); (case B => k_asm); (case X => k_asm); (case T => k_asm); (case hf => exact rfl); (case hke => exact rfl); (case e1 => exact rfl); (case e3 => exact rfl); (case e4 => exact Nat.le_of_ble_eq_true rfl); (case e5 => exact Nat.le_of_ble_eq_true rfl); (case m1 => k_mem); (case m2 => k_mem); (case U => intro t9; k_upd); (case hi => k_asm); (case hl => k_asm); (case hn => first | assumption | omega); (case s0 => first | assumption | omega); (case s1 => first | assumption | omega); (case b0 => first | decide | omega); (case b1 => first | decide | omega))
  intro h' tk' t9 t9' c1 c10 c11 F' N'
  k_dflt (refine' item_menu (fun v => 1 ≤ v ∧ v ≤ 4) ?k1 ?k2 ?k3 ?k6 ?k7 ?_ ?k8; (case k1 => is_list); (case k2 => omega); (case k3 => (simp only [List.length_cons, List.length_nil]; omega)); (case k6 => omega); (case k7 => repeat (first | exact List.forall_mem_nil _ | refine' List.forall_mem_cons.mpr ⟨⟨_, _, rfl, by decide⟩, ?_⟩)); (case k8 => with_unfolding_all rfl))
  intro ls q1 hls
  k_steps
  refine Parked.get ?_
  k_dflt (refine' cut_here ?X ?T ?B ?F ?N ?e2 ?hf ?hke ?e1 ?e3 ?e4 ?e5 ?m2 ?U ?m1 ?hi ?hl ?hn ?s0 ?s1 ?b0 ?b1 ?_; (case F => k_asm); (case N => k_asm); (case e2 => exact rfl); (case B => k_asm); (case X => k_asm); (case T => k_asm); (case hf => exact rfl); (case hke => exact rfl); (case e1 => exact rfl); (case e3 => exact rfl); (case e4 => exact Nat.le_of_ble_eq_true rfl); (case e5 => exact Nat.le_of_ble_eq_true rfl); (case m1 => k_mem); (case m2 => k_mem); (case U => intro t9; k_upd); (case hi => k_asm); (case hl => k_asm); (case hn => first | assumption | omega); (case s0 => first | assumption | omega); (case s1 => first | assumption | omega); (case b0 => first | decide | omega); (case b1 => first | decide | omega))
  intro h' q2 t9 t9' c2 c20 c21 F' N'
  k_steps
  refine Parked.get ?_
  k_dflt (refine' cut_here ?X ?T ?B ?F ?N ?e2 ?hf ?hke ?e1 ?e3 ?e4 ?e5 ?m2 ?U ?m1 ?hi ?hl ?hn ?s0 ?s1 ?b0 ?b1 ?_; (case F => k_asm); (case N => k_asm); (case e2 => exact rfl); (case B => k_asm); (case X => k_asm); (case T => k_asm); (case hf => exact rfl); (case hke => exact rfl); (case e1 => exact rfl); (case e3 => exact rfl); (case e4 => exact Nat.le_of_ble_eq_true rfl); (case e5 => exact Nat.le_of_ble_eq_true rfl); (case m1 => k_mem); (case m2 => k_mem); (case U => intro t9; k_upd); (case hi => k_asm); (case hl => k_asm); (case hn => first | assumption | omega); (case s0 => first | assumption | omega); (case s1 => first | assumption | omega); (case b0 => first | decide | omega); (case b1 => first | decide | omega))
  intro h' tk' t9 t9' c3 c30 c31 F' N'
  k_dflt (refine' item_menu (fun v => 1 ≤ v ∧ v ≤ 64) ?k1 ?k2 ?k3 ?k6 ?k7 ?_ ?k8; (case k1 => is_list); (case k2 => omega); (case k3 => (simp only [List.length_cons, List.length_nil]; omega)); (case k6 => omega); (case k7 => repeat (first | exact List.forall_mem_nil _ | refine' List.forall_mem_cons.mpr ⟨⟨_, _, rfl, by omega⟩, ?_⟩)); (case k8 => with_unfolding_all rfl))
  intro wd tq2 hwd
  have hn1 : 1 ≤ 1 + c2 := by omega
  have hn8 : 1 + c2 ≤ 8 := by omega
  k_steps
  refine Parked.get ?_
  rename News _ _ _ _ => N8
  refine nameN3 N8 fun me2 sz me3 e1 e2 e3 => ?_
  subst e1 e2 e3
  have hrs : roll < sz := And.left (And.right (by assumption))
  k_dflt (refine' neww_here (T := [(roll, _), (sl, _), (344, _)]) ?C ?e4 ?e5 ?m1 ?hT ?_; (case C => (refine' ⟨?X, ?T, ?B, ?F, ?N, ?e2, ?hf, ?hke, ?e1, ?e3⟩; (case F => k_asm); (case N => k_asm); (case e2 => exact rfl); (case B => k_asm); (case X => k_asm); (case T => k_asm); (case hf => exact rfl); (case hke => exact rfl); (case e1 => exact rfl); (case e3 => exact rfl))); (case e4 => exact Nat.le_of_ble_eq_true rfl); (case e5 => exact Nat.le_of_ble_eq_true rfl); (case m1 => k_mem); (case hT => repeat (first | exact List.forall_mem_nil _ | refine List.forall_mem_cons.mpr ⟨by k_mem, ?_⟩)))
  clear N8
  intro h' tk' pc wr wd8 k1 k2 k3 k4 t1 t2 F' N' lw1 lw2 lw3 lw4
  k_lt2 lw1
  k_lt2 lw2
  simp only [AllLt, and_true] at lw3 lw4
  k_steps
  refine Parked.get ?_
  rename Fr _ _ _ _ => F8
  rename News _ _ _ _ => N8
  refine nameNews2 N8 fun me4 tl e1 e2 => ?_
  subst e1 e2
  k_dflt (refine' For_invVF F8 ?k1 ?k2 ?_ ?hs hE; (case k1 => exact rfl); (case k2 => exact rfl); (case hs => intro _; rfl))
  k_steps
  refine Parked.get ?_
  k_dflt (refine' cut_here ?X ?T ?B ?F ?N ?e2 ?hf ?hke ?e1 ?e3 ?e4 ?e5 ?m2 ?U ?m1 ?hi ?hl ?hn ?s0 ?s1 ?b0 ?b1 ?_; (case F => k_asm); (case N => k_asm); (case e2 => exact rfl); (case B => k_asm); (case X => k_asm); (case T => k_asm); (case hf => exact rfl); (case hke => exact rfl); (case e1 => exact rfl); (case e3 => exact rfl); (case e4 => exact Nat.le_of_ble_eq_true rfl); (case e5 => exact Nat.le_of_ble_eq_true rfl); (case m1 => k_mem); (case m2 => k_mem); (case U => intro t9; k_upd); (case hi => k_asm); (case hl => k_asm); (case hn => first | assumption | omega); (case s0 => first | assumption | omega); (case s1 => first | assumption | omega); (case b0 => first | decide | omega); (case b1 => first | decide | omega))
  intro h' tk' t9 t9' c4 c40 c41 F' N'
  k_steps
  refine Parked.get ?_
  rename Fr _ _ _ _ => F8
  rename News _ _ _ _ => N8
  k_dflt (refine' range1_rows F8 N8 ?_)
  intro h' tk' ra1 ra2 ra3 hrg F8 N8 _
  rename List Value => ws
  rename IntsAre ws _ => hI9
  have hd1 : wr ≠ wd8 := by k_ne
  have hd2 : wr ≠ pc := by k_ne
  have hd3 : wd8 ≠ pc := by k_ne
  k_dflt (refine' loopF_range (σ := LSt) (n := (4 + c4).toNat) (fun st => (tl, listOf (st.zs.map fun z => Value.ref z.1).toArray st.nt) :: (pc, listOf st.P st.n) :: (wr, instObj 302 wd8) :: (wd8, dictOf (wrD w ls (1 + c2) pc k1 k2 k3 k4 t1 t2) 4) :: (sz, tupO [.int ls q1, .int (1 + c2) q2]) :: (roll, listOf #[.ref sl, .int st.spot st.ts] 0) :: (sl, listOf ws.toArray 0) :: (344, tabObj #[]) :: st.tx) (Str.ofString "octets") (fun st => .bytes st.O st.tO) [Str.ofString "thing", Str.ofString "is_let", Str.ofString "behind", Str.ofString "piece"] ⟨_, 0, #[], _, [], 0, _, _, []⟩ (LJ ls (1 + c2) [tl, pc, wr, wd8, sz, roll, sl, 344]) ?F ?N ?hh ?hr ?hb ?hb1 ?hn ?hm ?hj ?_ ?_; (case F => exact F8); (case N => exact News.sub N8 fun q hq => List.Mem.tail _ hq); (case hh => exact rfl); (case hr => exact hrg); (case hb => omega); (case hb1 => omega); (case hm => exact rfl); (case hn => exact rfl))
  case hj => exact ⟨PA_nil, Nat.le_refl 0, Nat.le_refl 0, rfl, Nat.le_refl 0, (by dsimp only; omega), (by dsimp only; omega), (fun _ z => nomatch z), (fun _ z => nomatch z)⟩
  · rintro i9 ti ⟨P8, n8, O8, tO8, zs8, nt8, sp8, ts8, tx8⟩ u9 I9 oI9 h9 tk9 hi9 ⟨pa8, ps8, os8, oz8, zl8, s08, s18, rz8, of8⟩ off9 F9 N9
    dsimp only at pa8 ps8 os8 oz8 zl8 s08 s18 rz8 of8 off9 F9 N9
    simp only [LCg.Off1] at off9
    have hi6 : i9 ≤ 6 := lw_i6 hi9 c41
    have of8' : OwnOff tx8 (I9 :: [tl, pc, wr, wd8, sz, roll, sl, 344]) := fun q hq b hb => by
      rcases List.mem_cons.mp hb with rfl | hb
      · exact off1_mem off9.2.2.2.2.2.2.2.2 q hq
      · exact of8 q hq b hb
    clear N8 F8 hrg
    k_steps
    refine Parked.get ?_
    k_dflt (refine' thing_here (known := (fun sp tt => (I9, oI9) :: (tl, listOf (zs8.map fun z => Value.ref z.1).toArray nt8) :: (pc, listOf P8 n8) :: (wr, instObj 302 wd8) :: (wd8, dictOf (wrD w ls (1 + c2) pc k1 k2 k3 k4 t1 t2) 4) :: (sz, tupO [.int ls q1, .int (1 + c2) q2]) :: (roll, listOf #[.ref sl, .int sp tt] 0) :: (sl, listOf ws.toArray 0) :: (344, tabObj #[]) :: [])) (tx := tx8) ?C ?e4 ?e5 ?m1 ?m2 ?m3 ?U ?ad of8' hI9 hlen9 hsr s08 ?s1 hls.1 hls.2 ?n0 ?n1 hrs ?_; (case C => (refine' ⟨?X, ?T, ?B, ?F, ?N, ?e2, ?hf, ?hke, ?e1, ?e3⟩; (case F => k_asm); (case N => k_asm); (case e2 => exact rfl); (case B => k_asm); (case X => k_asm); (case T => k_asm); (case hf => exact rfl); (case hke => exact rfl); (case e1 => exact rfl); (case e3 => exact rfl))); (case e4 => exact Nat.le_of_ble_eq_true rfl); (case e5 => exact Nat.le_of_ble_eq_true rfl); (case m1 => k_mem); (case m2 => k_mem); (case m3 => k_mem); (case U => intro sp9' tt9'; k_upd); (case s1 => exact lw_s8 hi6 s18); (case n0 => exact hn1); (case n1 => exact hn8); (case ad => simp only [List.forall_mem_cons]; exact ⟨⟨_, by k_mem⟩, ⟨_, by k_mem⟩, ⟨_, by k_mem⟩, ⟨_, by k_mem⟩, ⟨_, by k_mem⟩, ⟨_, by k_mem⟩, ⟨_, by k_mem⟩, ⟨_, by k_mem⟩, ⟨_, by k_mem⟩, fun _ z => nomatch z⟩))
    intro h' tk' r9 t9 sp9 tt9 tx9 hgd hsp1 hsp2 hsub of9 hrep F' N'
    simp only [List.cons_append, List.nil_append] at N'
    have hrep' := hrep
    obtain ⟨t5, t6, t7, t8, wide, ok, szv, ra, ho, hok, hsz, _⟩ := hrep'
    have hr1 := neN (of9 _ ho tl (by k_mem))
    have hr2 := neN (of9 _ ho pc (by k_mem))
    dsimp only at hr1 hr2
    k_steps
    refine Parked.get ?_
    k_dflt (refine' put_here (t := t9) ?C ?e4 ?e5 ?m1 ?m2 ?U (hrep.mono ?mono) hgd hls.1 hls.2 ?n0 ?n1 hd1 hd2 hd3 pa8 ?hPs ?hb ?_ ?_; (case C => (refine' ⟨?X, ?T, ?B, ?F, ?N, ?e2, ?hf, ?hke, ?e1, ?e3⟩; (case F => k_asm); (case N => k_asm); (case e2 => exact rfl); (case B => k_asm); (case X => k_asm); (case T => k_asm); (case hf => exact rfl); (case hke => exact rfl); (case e1 => exact rfl); (case e3 => exact rfl))); (case e4 => exact Nat.le_of_ble_eq_true rfl); (case e5 => exact Nat.le_of_ble_eq_true rfl); (case mono => exact fun a o h => ⟨by repeat (first | exact h | refine List.Mem.tail _ ?_), of9 _ h wr (by k_mem), of9 _ h wd8 (by k_mem), of9 _ h pc (by k_mem)⟩); (case m1 => k_mem); (case m2 => k_mem); (case U => intro P' n'; k_upd); (case n0 => exact hn1); (case n1 => exact hn8); (case hPs => exact lw_pb hi6 ps8); (case hb => exact lw_ob hi6 os8))
    · intro h' tk' P9 n9 r8 x8 xt8 hft pa9 ps9 hx8 F' N' hnr
      replace hnr := off1_of hnr
      simp only [LCg.Off1] at hnr
      have hokT : ok = true := hok.mpr hft
      subst hokT
      have N10 := News.cons_of N' (by repeat (first | exact ho | refine List.Mem.tail _ ?_))
      clear N'
      have hel := enc_le hgd hls.1 hls.2 hn1 hn8
      have hel2 := enc_len (ls := ls) (ns := 1 + c2) hgd (Int.le_trans (by decide) hls.1) (Int.le_trans (by decide) hn1)
      have hxz : x8.size = O8.size + (t9.enc ls (1 + c2)).length := by rw [← Array.length_toList, hx8, List.length_append, Array.length_toList]
      k_steps
      refine Parked.get ?_
      rename Array UInt8 => xa
      rename xa.toList = _ => hxa
      rename xa.size = _ => hza
      refine ne_bytes_same (by rw [hxa, hx8, Int.toNat_natCast, ← Array.length_toList, List.take_left']; rfl) ?_
      k_steps
      · exfalso
        rename Array UInt8 => xb
        rename xb.size = _ => hzb
        exact (by assumption : ¬ ((xb.size : Int) = szv)) (lw_pc hzb hxz hel2 hsz)
      rename Array UInt8 => xb
      rename xb.toList = _ => hxb
      refine Parked.get ?_
      k_dflt (refine' neww_here (T := (I9, oI9) :: (tl, _) :: (pc, _) :: (wr, _) :: (wd8, _) :: (roll, _) :: (sl, _) :: (344, _) :: tx9) ?C ?e4 ?e5 ?m1 ?hT ?_; (case C => (refine' ⟨?X, ?T, ?B, ?F, ?N, ?e2, ?hf, ?hke, ?e1, ?e3⟩; (case F => k_asm); (case N => k_asm); (case e2 => exact rfl); (case B => k_asm); (case X => k_asm); (case T => k_asm); (case hf => exact rfl); (case hke => exact rfl); (case e1 => exact rfl); (case e3 => exact rfl))); (case e4 => exact Nat.le_of_ble_eq_true rfl); (case e5 => exact Nat.le_of_ble_eq_true rfl); (case m1 => k_mem); (case hT => (repeat (refine List.forall_mem_cons.mpr ⟨by k_mem, ?_⟩)); exact fun q h => by repeat (first | exact h | refine List.Mem.tail _ ?_)))
      intro h' tk' pc2 wr2 wd2 j1 j2 j3 j4 jt1 jt2 F' N7 lw5 hw3 lw7 lw8
      k_lt2 lw5
      k_lt2 hw3
      simp only [AllLt] at lw7 lw8
      k_steps
      refine Parked.get ?_
      have hw2 : AllLt wd2 tx9 := by tbn_find
      have hw4 : AllLt pc2 tx9 := by tbn_find
      k_dflt (refine' put_here (t := t9) (b := []) ?C ?e4 ?e5 ?m1 ?m2 ?U (hrep.mono ?mono) hgd hls.1 hls.2 hn1 hn8 ?n1 ?n2 ?n3 PA_nil ?hPs ?hb ?_ ?_; (case C => (refine' ⟨?X, ?T, ?B, ?F, ?N, ?e2, ?hf, ?hke, ?e1, ?e3⟩; (case N => exact N7); (case F => k_asm); (case e2 => exact rfl); (case B => k_asm); (case X => k_asm); (case T => k_asm); (case hf => exact rfl); (case hke => exact rfl); (case e1 => exact rfl); (case e3 => exact rfl))); (case e4 => exact Nat.le_of_ble_eq_true rfl); (case e5 => exact Nat.le_of_ble_eq_true rfl); (case m1 => k_mem); (case m2 => k_mem); (case U => intro P' n'; k_upd); (case n1 => k_ne); (case n2 => k_ne); (case n3 => k_ne); (case hPs => exact Nat.le_of_ble_eq_true rfl); (case hb => exact Nat.zero_le _); (case mono => exact fun a o h => ⟨by repeat (first | exact h | refine List.Mem.tail _ ?_), ne_lt2 h hw2 lw5, ne_lt h hw2, ne_lt h hw4⟩))
      rotate_left
      · intro h' tk' r7 x7 xt7 hno
        exact absurd hft hno
      intro h' tk' P7 n7 r7 x7 xt7 _ pa7 ps7 hx7 F' N' hnr7
      clear N7
      k_steps
      refine Parked.get ?_
      rename News g _ _ _ => N8
      refine ne_pair (t := xt7) (News.isTup N8 (by k_mem)) (News.isTup N8 (by k_mem)) (Nat.le_of_ble_eq_true rfl) (by rw [hx7, hxb, hx8, Int.toNat_natCast, ← Array.length_toList, List.drop_left]; rfl) ?_
      k_steps
      rename Fr g _ _ _ => F8
      have N6 := News.sub (b := (I9, oI9) :: (tl, listOf (zs8.map (fun z => Value.ref z.1) ++ [Value.ref r9]).toArray (nt8 + 1)) :: (pc, listOf P9 n9) :: (wr, instObj 302 wd8) :: (wd8, dictOf (wrD w ls (1 + c2) pc k1 k2 k3 k4 t1 t2) 4) :: (sz, tupO [.int ls q1, .int (1 + c2) q2]) :: (roll, listOf #[.ref sl, .int sp9 tt9] 0) :: (sl, listOf ws.toArray 0) :: (344, tabObj #[]) :: tx9) N8 (by
        (repeat (refine List.forall_mem_cons.mpr ⟨by k_mem, ?_⟩))
        exact fun q h => by repeat (first | exact h | refine List.Mem.tail _ ?_))
      rw [← refs_snoc (t := t9)] at N6
      refine ⟨_, _, _, ⟨P9, n9, x8, xt8, zs8 ++ [(r9, t9)], nt8 + 1, sp9, tt9, tx9⟩, rfl, F8, N6, by simp only [LCg.Off1]; exact ⟨off9.1, off9.2.1, off9.2.2.1, off9.2.2.2.1, off9.2.2.2.2.1, off9.2.2.2.2.2.1, off9.2.2.2.2.2.2.1, off9.2.2.2.2.2.2.2.1, off1_of fun q hq => of9 q hq I9 (.head _)⟩, rfl, ?_, ?_⟩
      · intro z h1 h2 h3
        obtain ⟨g1, g2, g3, g4⟩ := ds4 h3
        simp only [frF, mmOf, if_neg h1, if_neg h2, if_neg g1, if_neg g2, if_neg g3, if_neg g4, h3, Bool.false_eq_true, if_false]
      · refine ⟨PAcast pa9 hx8.symm, lw_ps ps9 ps8, lw_os hxz hel os8, by rw [hx8, oz8, encs_snoc], by dsimp only; rw [List.length_append]; exact Nat.succ_le_succ zl8, Int.le_trans s08 hsp1, lw_s1 hsp2 s18, ?_, fun q hq b hb => of9 q hq b (.tail _ hb)⟩
        intro z hz
        rcases List.mem_append.mp hz with hz | hz
        · obtain ⟨a1, a2, a3⟩ := rz8 z hz
          exact ⟨a1.mono fun a o h => hsub _ h, a2, a3⟩
        · rw [List.mem_singleton.mp hz]; exact ⟨hrep, hgd, hft⟩
    · intro h' tk' r8 x8 xt8 hnf hx8 F' N' hnr
      replace hnr := off1_of hnr
      simp only [LCg.Off1] at hnr
      have hokF : ok = false := by
        cases ok with
        | false => rfl
        | true => exact absurd (hok.mp rfl) hnf
      subst hokF
      have N10 := News.cons_of N' (by repeat (first | exact ho | refine List.Mem.tail _ ?_))
      clear N'
      have hxz : x8.size = O8.size := by rw [← Array.length_toList, hx8, Array.length_toList]
      k_steps
      refine Parked.get ?_
      rename Array UInt8 => xa
      rename xa.toList = _ => hxa
      refine ne_bytes_same (by rw [hxa, hx8, Int.toNat_natCast, ← Array.length_toList, List.take_length]) ?_
      k_steps
      refine Parked.get ?_
      rename Array UInt8 => xb
      rename xb.toList = _ => hxb
      refine ne_bytes_same (by rw [hxb, hx8, Int.toNat_natCast, ← Array.length_toList, List.drop_length]) ?_
      k_steps
      rename News g _ _ _ => N8
      rename Fr g _ _ _ => F8
      have N6 := News.sub (b := (I9, oI9) :: (tl, listOf (zs8.map (fun z => Value.ref z.1)).toArray nt8) :: (pc, listOf P8 n8) :: (wr, instObj 302 wd8) :: (wd8, dictOf (wrD w ls (1 + c2) pc k1 k2 k3 k4 t1 t2) 4) :: (sz, tupO [.int ls q1, .int (1 + c2) q2]) :: (roll, listOf #[.ref sl, .int sp9 tt9] 0) :: (sl, listOf ws.toArray 0) :: (344, tabObj #[]) :: tx9) N8 (fun q hq => by repeat (first | exact hq | refine List.Mem.tail _ ?_))
      refine ⟨_, _, _, ⟨P8, n8, x8, xt8, zs8, nt8, sp9, tt9, tx9⟩, rfl, F8, N6, by simp only [LCg.Off1]; exact ⟨off9.1, off9.2.1, off9.2.2.1, off9.2.2.2.1, off9.2.2.2.2.1, off9.2.2.2.2.2.1, off9.2.2.2.2.2.2.1, off9.2.2.2.2.2.2.2.1, off1_of fun q hq => of9 q hq I9 (.head _)⟩, rfl, ?_, ?_⟩
      · intro z h1 h2 h3
        obtain ⟨g1, g2, g3, g4⟩ := ds4 h3
        simp only [frF, mmOf, if_neg h1, if_neg h2, if_neg g1, if_neg g2, if_neg g3, if_neg g4, h3, Bool.false_eq_true, if_false]
      · exact ⟨PAcast pa8 hx8.symm, lw_ps0 ps8, lw_os0 hxz os8, by rw [hx8, oz8], lw_zl zl8, Int.le_trans s08 hsp1, lw_s1 hsp2 s18, fun z hz => ⟨(rz8 z hz).1.mono fun a o h => hsub _ h, (rz8 z hz).2⟩, fun q hq b hb => of9 q hq b (.tail _ hb)⟩
  · rintro u9 ux9 ⟨P8, n8, O8, tO8, zs8, nt8, sp8, ts8, tx8⟩ h9 tk9 ⟨pa8, ps8, os8, oz8, zl8, s08, s18, rz8, of8⟩ F9 N9
    dsimp only at pa8 ps8 os8 oz8 zl8 s08 s18 rz8 of8 F9 N9
    clear N8 F8 hrg
    have hO8 : O8.size ≤ 50000 := by omega
    k_steps
    refine Parked.get ?_
    k_dflt (refine' read_here (cx := []) (tx := tx8) ?C ?e4 ?e5 ?m1 ?m2 ?U ?mt HC ?n1 ?n2 ?n3 ?cn (fun _ z => nomatch z) (.inl ⟨rfl, rfl⟩) rz8 oz8 hls.1 hls.2 hn1 hn8 hwd.1 hwd.2 hO8 ?s0 ?s1 ?_; (case C => (refine' ⟨?X, ?T, ?B, ?F, ?N, ?e2, ?hf, ?hke, ?e1, ?e3⟩; (case F => k_asm); (case N => k_asm); (case e2 => exact rfl); (case B => k_asm); (case X => k_asm); (case T => k_asm); (case hf => exact rfl); (case hke => exact rfl); (case e1 => exact rfl); (case e3 => exact rfl))); (case e4 => exact Nat.le_of_ble_eq_true rfl); (case e5 => exact Nat.le_of_ble_eq_true rfl); (case m1 => k_mem); (case m2 => k_mem); (case U => intro ps9; k_upd); (case n1 => k_ne); (case n2 => k_ne); (case n3 => k_ne); (case s0 => omega); (case s1 => omega); (case mt => exact fun q h => by rw [List.append_nil] at h; repeat (first | exact h | refine List.Mem.tail _ ?_)); (case cn => exact fun q h => by rw [List.append_nil] at h; exact ⟨of8 q h tl (by k_mem), of8 q h sz (by k_mem), of8 q h 344 (by k_mem)⟩))
    intro h' tk' c9 oc9 vs9 tc9 F' N' hc9 hcf d19 d29
    have hcf9 := hcf.resolve_right (fun z => nomatch z)
    clear hcf
    obtain ⟨ng1, ng2, ng3⟩ := none_up (h' := h9) F9 N9 hcf9 (fr_some F9)
    have Nc := News.push F' N' hc9 ng2 ng1
    have hf9 : 0 ≤ (O8.size : Int).fdiv 60 ∧ (O8.size : Int).fdiv 60 ≤ 50000 := by rw [Int.fdiv_eq_ediv_of_nonneg _ (by decide)]; omega
    have ngl := off1_of ng3
    simp only [LCg.Off1] at ngl
    k_steps
    refine Parked.get ?_
    k_dflt (refine' cut_here ?X ?T ?B ?F ?N ?e2 ?hf ?hke ?e1 ?e3 ?e4 ?e5 ?m2 ?U ?m1 ?hi ?hl ?hn ?s0 ?s1 ?b0 ?b1 ?_; (case F => k_asm); (case N => k_asm); (case e2 => exact rfl); (case B => k_asm); (case X => k_asm); (case T => k_asm); (case hf => exact rfl); (case hke => exact rfl); (case e1 => exact rfl); (case e3 => exact rfl); (case e4 => exact Nat.le_of_ble_eq_true rfl); (case e5 => exact Nat.le_of_ble_eq_true rfl); (case m1 => k_mem); (case m2 => k_mem); (case U => intro t9; k_upd); (case hi => k_asm); (case hl => k_asm); (case hn => first | assumption | omega); (case s0 => first | assumption | omega); (case s1 => first | assumption | omega); (case b0 => first | decide | omega); (case b1 => first | decide | omega))
    intro h' tk' t9 t9' c5 c50 c51 F' N'
    k_steps
    refine Parked.get ?_
    k_dflt (refine' read_here (cx := [(c9, oc9)]) (tx := tx8) ?C ?e4 ?e5 ?m1 ?m2 ?U ?mt HC ?n1 ?n2 ?n3 ?cn ?ct (.inr ⟨c9, oc9, vs9, tc9, rfl, rfl, d19, d29⟩) rz8 oz8 hls.1 hls.2 hn1 hn8 hwd.1 hwd.2 hO8 ?s0 ?s1 ?_; (case C => (refine' ⟨?X, ?T, ?B, ?F, ?N, ?e2, ?hf, ?hke, ?e1, ?e3⟩; (case F => k_asm); (case N => k_asm); (case e2 => exact rfl); (case B => k_asm); (case X => k_asm); (case T => k_asm); (case hf => exact rfl); (case hke => exact rfl); (case e1 => exact rfl); (case e3 => exact rfl))); (case e4 => exact Nat.le_of_ble_eq_true rfl); (case e5 => exact Nat.le_of_ble_eq_true rfl); (case m1 => k_mem); (case m2 => k_mem); (case U => intro ps9; k_upd); (case n1 => k_ne); (case n2 => k_ne); (case n3 => k_ne); (case s0 => omega); (case s1 => omega))
    case mt =>
      intro q h
      rcases List.mem_append.mp h with h | h
      · repeat (first | exact h | refine List.Mem.tail _ ?_)
      · rw [List.mem_singleton.mp h]; exact .head _
    case cn =>
      intro q h
      rcases List.mem_append.mp h with h | h
      · exact ⟨of8 q h tl (by k_mem), of8 q h sz (by k_mem), of8 q h 344 (by k_mem)⟩
      · rw [List.mem_singleton.mp h]; exact ⟨by k_ne, by k_ne, by k_ne⟩
    case ct =>
      intro q h r hr
      rw [List.mem_singleton.mp h]
      exact off1_mem ngl.2.2.2.2.2.2.2.2 r hr
    intro h' tk' c' oc' vs' t' F' N' _ _ _ _
    exact hQ _ _ ⟨_, News.get N' (by k_mem)⟩ F'.keep
end Mine
open Mine
theorem PySem.Challenge.cw_sm0057_01_holds : PySem.Challenge.rw_sm0057_01.Holds := by
  w_on
  refine holds_law said_ok fun said => ?_
  refine holds_open (q := vw) (loose := loose) (Xt := fun s => xlAt vw lv s && recOk (RowW.records RWW) s) (XP := XL vw lv) (Yf := Hook.obs (kmHook KF asK hook_ok [344])) (Ya := Hook.val (kmHook KF asK hook_ok [344])) (YP := Hook.says (kmHook KF asK hook_ok [344])) (N := 4922) left_ok (Hook.of (kmHook KF asK hook_ok [344])) (Hook.keeps (kmHook KF asK hook_ok [344])) (fun s e => xl_of s (Bool.and_eq_true_iff.mp e).1) XL.keeps (by rfl) (by rfl) (by rfl) (fun s e => recFacts_of (Bool.and_eq_true_iff.mp e).2) (by rfl) (by first | assumption | decide +kernel) ends_ok bare_ok ?hw ?hc
  case hw => w_witness2
  w_strict (k_go0; (all_goals try k_fold); skip)
  rename List Int => ns0
  rename IntsAre _ ns0 => hI0
  rename ¬ (_ < (ns0.length : Int)) => hlen0
  refine' law_core ?ho ?hb ?hsc ?X ?T ?B ?F ?N ?l0 ?HC ?hI ?li ?le ?hQ ?hE
  case ho => k_is
  case hb => exact rfl
  case hsc => exact rfl
  case F => k_dflt k_asm
  case N => k_dflt k_asm
  case X => k_dflt k_asm
  case T => k_dflt k_asm
  case B => k_dflt k_asm
  case l0 => assumption
  case HC => assumption
  case hI => exact hI0
  case li => assumption
  case le => omega
  case hQ =>
    intro h' tk' hgr hst
    refine ⟨⟨.inl ⟨.bool true, .bool true, [], rfl, (fun _ => rfl), .bool true, ?hp, fun _ => ⟨.nil, fun _ z => nomatch z⟩⟩, hst, rfl, ?_⟩, hgr, trivial⟩
    case hp => first | rfl | with_unfolding_all rfl | kernel_rfl | decide
    · assumption
  case hE => passes_own
