import PyProof.Rows.All
import Wide.All
import OpenK.AllK
import Wide.FinOn
import Lean
import PySem.Challenge.RW_pb0006_01
open PySem PySem.W PyProof.Rows PySem.Calls PySem.Spec
set_option Elab.async false
namespace Mine
section
set_option maxRecDepth 100000
abbrev pw := PySem.Challenge.pw_pb0006_01
def dfn (i : Nat) : Option (Arguments × List Stmt × Scope) := match pw.main.body[i]? with
  | some (.FunctionDef _ a b _ _ _ sc _ _ _) => some (a, b, sc)
  | some (.ClassDef _ _ _ (.FunctionDef _ a b _ _ _ sc _ _ _ :: _) _ _ _ _ _ _ _) => some (a, b, sc)
  | _ => none
set_option maxHeartbeats 0 in
noncomputable def heapK : Params → Frag := by
  refine (?f : dfn 1 = some (?A28, ?B28, ?S28) → dfn 2 = some (?A48, ?B48, ?S48) → dfn 4 = some (?A67, ?B67, ?S67) → dfn 5 = some (?A88, ?B88, ?S88) → dfn 6 = some (?A100, ?B100, ?S100) → dfn 7 = some (?A105, ?B105, ?S105) → dfn 8 = some (?A112, ?B112, ?S112) → dfn 9 = some (?A117, ?B117, ?S117) → dfn 10 = some (?A122, ?B122, ?S122) → dfn 12 = some (?A129, ?B129, ?S129) → dfn 13 = some (?A136, ?B136, ?S136) → dfn 14 = some (?A143, ?B143, ?S143) → dfn 15 = some (?A150, ?B150, ?S150) → dfn 16 = some (?A157, ?B157, ?S157) → dfn 17 = some (?A162, ?B162, ?S162) → dfn 18 = some (?A167, ?B167, ?S167) → dfn 19 = some (?A172, ?B172, ?S172) → dfn 20 = some (?A179, ?B179, ?S179) → dfn 21 = some (?A184, ?B184, ?S184) → dfn 25 = some (?A191, ?B191, ?S191) → dfn 26 = some (?A198, ?B198, ?S198) → dfn 27 = some (?A203, ?B203, ?S203) → dfn 28 = some (?A208, ?B208, ?S208) → dfn 29 = some (?A213, ?B213, ?S213) → dfn 30 = some (?A218, ?B218, ?S218) → dfn 31 = some (?A225, ?B225, ?S225) → dfn 32 = some (?A232, ?B232, ?S232) → dfn 33 = some (?A239, ?B239, ?S239) → dfn 34 = some (?A246, ?B246, ?S246) → dfn 35 = some (?A251, ?B251, ?S251) → dfn 36 = some (?A256, ?B256, ?S256) → Params → Frag) ?e28 ?e48 ?e67 ?e88 ?e100 ?e105 ?e112 ?e117 ?e122 ?e129 ?e136 ?e143 ?e150 ?e157 ?e162 ?e167 ?e172 ?e179 ?e184 ?e191 ?e198 ?e203 ?e208 ?e213 ?e218 ?e225 ?e232 ?e239 ?e246 ?e251 ?e256
  rotate_left
  iterate 31 (· exact rfl)
  intro _ _ _ _ _ _ _ _ _ _ _ _ _ _ _ _ _ _ _ _ _ _ _ _ _ _ _ _ _ _ _
  exact fun P => ((nat_lit 2, ({ cls := Value.none, data := Data.dict #[{ hash := PyData.keyHash P (Str.ofString "type.__subclasses__.Exception.0"), key := Value.str (Str.ofString "type.__subclasses__.Exception.0") 214, val := Value.int 31 0 }, { hash := PyData.keyHash P (Str.ofString "type.__subclasses__.Exception.n"), key := Value.str (Str.ofString "type.__subclasses__.Exception.n") 215, val := Value.int 1 0 }] 2 } : Obj)) ::
    (nat_lit 3, ({ cls := Value.type "dict", data := Data.dict (List.toArray ({ hash := PyData.keyHash P (Str.ofString "__name__"), key := Value.str (Str.ofString "__name__") 165, val := Value.str (Str.ofString "law_pb0006_01") 425 } :: { hash := PyData.keyHash P (Str.ofString "__doc__"), key := Value.str (Str.ofString "__doc__") 166, val := Value.none } :: { hash := PyData.keyHash P (Str.ofString "__package__"), key := Value.str (Str.ofString "__package__") 167, val := Value.none } :: { hash := PyData.keyHash P (Str.ofString "__loader__"), key := Value.str (Str.ofString "__loader__") 168, val := Value.builtin "__main__.__loader__#opaque" } :: { hash := PyData.keyHash P (Str.ofString "__spec__"), key := Value.str (Str.ofString "__spec__") 169, val := Value.none } :: { hash := PyData.keyHash P (Str.ofString "__annotations__"), key := Value.str (Str.ofString "__annotations__") 170, val := Value.ref 6 } :: { hash := PyData.keyHash P (Str.ofString "__builtins__"), key := Value.str (Str.ofString "__builtins__") 171, val := Value.ref 4 } :: { hash := PyData.keyHash P (Str.ofString "__file__"), key := Value.str (Str.ofString "__file__") 173, val := Value.str (Str.ofString "/claim/cut.py") 172 } :: { hash := PyData.keyHash P (Str.ofString "__cached__"), key := Value.str (Str.ofString "__cached__") 174, val := Value.none } :: { hash := PyData.keyHash P (Str.ofString "AdaError"), key := Value.str (Str.ofString "AdaError") 217, val := Value.ref 31 } :: { hash := PyData.keyHash P (Str.ofString "AdaRaise"), key := Value.str (Str.ofString "AdaRaise") 246, val := Value.ref 51 } :: { hash := PyData.keyHash P (Str.ofString "ArrayValue"), key := Value.str (Str.ofString "ArrayValue") 279, val := Value.ref 70 } :: { hash := PyData.keyHash P (Str.ofString "RecordValue"), key := Value.str (Str.ofString "RecordValue") 310, val := Value.ref 91 } :: { hash := PyData.keyHash P (Str.ofString "copy_value"), key := Value.str (Str.ofString "copy_value") 316, val := Value.ref 100 } :: { hash := PyData.keyHash P (Str.ofString "lengths_of"), key := Value.str (Str.ofString "lengths_of") 322, val := Value.ref 105 } :: { hash := PyData.keyHash P (Str.ofString "slice_items"), key := Value.str (Str.ofString "slice_items") 332, val := Value.ref 112 } :: { hash := PyData.keyHash P (Str.ofString "read_place"), key := Value.str (Str.ofString "read_place") 338, val := Value.ref 117 } :: { hash := PyData.keyHash P (Str.ofString "write_place"), key := Value.str (Str.ofString "write_place") 344, val := Value.ref 122 } :: { hash := PyData.keyHash P (Str.ofString "raise_constraint"), key := Value.str (Str.ofString "raise_constraint") 353, val := Value.ref 129 } :: { hash := PyData.keyHash P (Str.ofString "dim_length"), key := Value.str (Str.ofString "dim_length") 361, val := Value.ref 136 } :: { hash := PyData.keyHash P (Str.ofString "item_offset"), key := Value.str (Str.ofString "item_offset") 373, val := Value.ref 143 } :: { hash := PyData.keyHash P (Str.ofString "get_item"), key := Value.str (Str.ofString "get_item") 381, val := Value.ref 150 } :: { hash := PyData.keyHash P (Str.ofString "slice_place"), key := Value.str (Str.ofString "slice_place") 392, val := Value.ref 157 } :: { hash := PyData.keyHash P (Str.ofString "slice_value"), key := Value.str (Str.ofString "slice_value") 398, val := Value.ref 162 } :: { hash := PyData.keyHash P (Str.ofString "check_lengths"), key := Value.str (Str.ofString "check_lengths") 404, val := Value.ref 167 } :: { hash := PyData.keyHash P (Str.ofString "slide_array"), key := Value.str (Str.ofString "slide_array") 410, val := Value.ref 172 } :: { hash := PyData.keyHash P (Str.ofString "one_item"), key := Value.str (Str.ofString "one_item") 418, val := Value.ref 179 } :: { hash := PyData.keyHash P (Str.ofString "concat_arrays"), key := Value.str (Str.ofString "concat_arrays") 424, val := Value.ref 184 } :: { hash := PyData.keyHash P (Str.ofString "_law_least"), key := Value.str (Str.ofString "_law_least") 429, val := Value.int (-6) 428 } :: { hash := PyData.keyHash P (Str.ofString "_law_most"), key := Value.str (Str.ofString "_law_most") 431, val := Value.int 9 430 } :: { hash := PyData.keyHash P (Str.ofString "_law_pull"), key := Value.str (Str.ofString "_law_pull") 440, val := Value.ref 191 } :: { hash := PyData.keyHash P (Str.ofString "_law_row"), key := Value.str (Str.ofString "_law_row") 451, val := Value.ref 198 } :: { hash := PyData.keyHash P (Str.ofString "_law_value"), key := Value.str (Str.ofString "_law_value") 457, val := Value.ref 203 } :: { hash := PyData.keyHash P (Str.ofString "_law_part"), key := Value.str (Str.ofString "_law_part") 463, val := Value.ref 208 } :: { hash := PyData.keyHash P (Str.ofString "_law_moved"), key := Value.str (Str.ofString "_law_moved") 469, val := Value.ref 213 } :: { hash := PyData.keyHash P (Str.ofString "_law_behind"), key := Value.str (Str.ofString "_law_behind") 475, val := Value.ref 218 } :: { hash := PyData.keyHash P (Str.ofString "_law_given"), key := Value.str (Str.ofString "_law_given") 489, val := Value.ref 225 } :: { hash := PyData.keyHash P (Str.ofString "_law_done"), key := Value.str (Str.ofString "_law_done") 501, val := Value.ref 232 } :: { hash := PyData.keyHash P (Str.ofString "_law_due"), key := Value.str (Str.ofString "_law_due") 511, val := Value.ref 239 } :: { hash := PyData.keyHash P (Str.ofString "_law_heard"), key := Value.str (Str.ofString "_law_heard") 522, val := Value.ref 246 } :: { hash := PyData.keyHash P (Str.ofString "_law_alike"), key := Value.str (Str.ofString "_law_alike") 528, val := Value.ref 251 } :: { hash := PyData.keyHash P (Str.ofString "law"), key := Value.str (Str.ofString "law") 534, val := Value.ref 256 } :: [])) 42 } : Obj)) ::
    (nat_lit 15, ({ cls := Value.type "tuple", data := Data.seq #[Value.type "Exception"] } : Obj)) ::
    (nat_lit 22, ({ cls := Value.type "tuple", data := Data.seq #[] } : Obj)) ::
    (nat_lit 24, ({ cls := Value.type "tuple", data := Data.seq #[Value.str (Str.ofString "self") 204, Value.str (Str.ofString "text") 205] } : Obj)) ::
    (nat_lit 25, ({ cls := Value.type "tuple", data := Data.seq #[] } : Obj)) ::
    (nat_lit 27, ({ cls := Value.type "code", data := Data.fields #[Value.str (Str.ofString "__init__") 201, Value.str (Str.ofString "AdaError.__init__") 202, Value.str (Str.ofString "/claim/cut.py") 203, Value.int 4 0, Value.int 2 0, Value.int 0 0, Value.int 0 0, Value.int 3 0, Value.ref 22, Value.bool true, Value.int 181 0, Value.ref 23, Value.none, Value.ref 24, Value.ref 25, Value.ref 26, Value.int 206 0, Value.int 4 0, Value.str (Str.ofString "/claim/cut.py") 207] } : Obj)) ::
    (nat_lit 28, ({ cls := Value.type "function", data := Data.func { name := Str.ofString "__init__", qualname := Str.ofString "AdaError.__init__", params := ?A28, body := FuncBody.stmts ?B28, scope := ?S28, globals := 3, closure := [], defaults := Value.none, kwdefaults := Value.none, pyModule := Value.str (Str.ofString "adacore.errors") 187, code := Value.ref 27 } } : Obj)) ::
    (nat_lit 29, ({ cls := Value.type "tuple", data := Data.seq #[Value.str (Str.ofString "text") 209] } : Obj)) ::
    (nat_lit 30, ({ cls := Value.type "dict", data := Data.dict #[{ hash := PyData.keyHash P (Str.ofString "__module__"), key := Value.str (Str.ofString "__module__") 196, val := Value.str (Str.ofString "adacore.errors") 187 }, { hash := PyData.keyHash P (Str.ofString "__firstlineno__"), key := Value.str (Str.ofString "__firstlineno__") 200, val := Value.int 2 199 }, { hash := PyData.keyHash P (Str.ofString "__init__"), key := Value.str (Str.ofString "__init__") 208, val := Value.ref 28 }, { hash := PyData.keyHash P (Str.ofString "__static_attributes__"), key := Value.str (Str.ofString "__static_attributes__") 210, val := Value.ref 29 }, { hash := PyData.keyHash P (Str.ofString "__weakref__"), key := Value.str (Str.ofString "__weakref__") 212, val := Value.ref 32 }, { hash := PyData.keyHash P (Str.ofString "__doc__"), key := Value.str (Str.ofString "__doc__") 213, val := Value.none }] 3 } : Obj)) ::
    (nat_lit 31, ({ cls := Value.type "type", data := Data.cls { name := Str.ofString "AdaError", bases := [Value.type "Exception"], mro := [Value.ref 31, Value.type "Exception", Value.type "BaseException", Value.type "object"], ns := 30, qualname := Str.ofString "AdaError", subclasses := [Value.ref 51] }, slots := #[some (Value.ref 15), none, some (Value.str (Str.ofString "AdaError") 189), some (Value.str (Str.ofString "AdaError") 197), some (Value.builtin "Exception.__new__"), some (Value.bool true)] } : Obj)) ::
    (nat_lit 32, ({ cls := Value.type "getset_descriptor", data := Data.fields #[Value.str (Str.ofString "__weakref__") 211, Value.ref 31, Value.builtin "ExceptionGroup.__weakref__", Value.none] } : Obj)) ::
    (nat_lit 35, ({ cls := Value.type "tuple", data := Data.seq #[Value.ref 31] } : Obj)) ::
    (nat_lit 42, ({ cls := Value.type "tuple", data := Data.seq #[] } : Obj)) ::
    (nat_lit 44, ({ cls := Value.type "tuple", data := Data.seq #[Value.str (Str.ofString "self") 233, Value.str (Str.ofString "name") 234, Value.str (Str.ofString "line") 235, Value.str (Str.ofString "text") 236] } : Obj)) ::
    (nat_lit 45, ({ cls := Value.type "tuple", data := Data.seq #[] } : Obj)) ::
    (nat_lit 47, ({ cls := Value.type "code", data := Data.fields #[Value.str (Str.ofString "__init__") 230, Value.str (Str.ofString "AdaRaise.__init__") 231, Value.str (Str.ofString "/claim/cut.py") 232, Value.int 9 0, Value.int 4 0, Value.int 0 0, Value.int 0 0, Value.int 3 0, Value.ref 42, Value.bool true, Value.int 181 0, Value.ref 43, Value.none, Value.ref 44, Value.ref 45, Value.ref 46, Value.int 237 0, Value.int 9 0, Value.str (Str.ofString "/claim/cut.py") 238] } : Obj)) ::
    (nat_lit 48, ({ cls := Value.type "function", data := Data.func { name := Str.ofString "__init__", qualname := Str.ofString "AdaRaise.__init__", params := ?A48, body := FuncBody.stmts ?B48, scope := ?S48, globals := 3, closure := [], defaults := Value.none, kwdefaults := Value.none, pyModule := Value.str (Str.ofString "adacore.errors") 187, code := Value.ref 47 } } : Obj)) ::
    (nat_lit 49, ({ cls := Value.type "tuple", data := Data.seq #[Value.str (Str.ofString "line") 240, Value.str (Str.ofString "name") 241, Value.str (Str.ofString "word") 242] } : Obj)) ::
    (nat_lit 50, ({ cls := Value.type "dict", data := Data.dict #[{ hash := PyData.keyHash P (Str.ofString "__module__"), key := Value.str (Str.ofString "__module__") 225, val := Value.str (Str.ofString "adacore.errors") 187 }, { hash := PyData.keyHash P (Str.ofString "__firstlineno__"), key := Value.str (Str.ofString "__firstlineno__") 229, val := Value.int 7 228 }, { hash := PyData.keyHash P (Str.ofString "__init__"), key := Value.str (Str.ofString "__init__") 239, val := Value.ref 48 }, { hash := PyData.keyHash P (Str.ofString "__static_attributes__"), key := Value.str (Str.ofString "__static_attributes__") 243, val := Value.ref 49 }, { hash := PyData.keyHash P (Str.ofString "__doc__"), key := Value.str (Str.ofString "__doc__") 244, val := Value.none }] 2 } : Obj)) ::
    (nat_lit 51, ({ cls := Value.type "type", data := Data.cls { name := Str.ofString "AdaRaise", bases := [Value.ref 31], mro := [Value.ref 51, Value.ref 31, Value.type "Exception", Value.type "BaseException", Value.type "object"], ns := 50, qualname := Str.ofString "AdaRaise" }, slots := #[some (Value.ref 35), none, some (Value.str (Str.ofString "AdaRaise") 218), some (Value.str (Str.ofString "AdaRaise") 226), some (Value.builtin "Exception.__new__"), some (Value.bool true)] } : Obj)) ::
    (nat_lit 61, ({ cls := Value.type "tuple", data := Data.seq #[] } : Obj)) ::
    (nat_lit 63, ({ cls := Value.type "tuple", data := Data.seq #[Value.str (Str.ofString "self") 264, Value.str (Str.ofString "bounds") 265, Value.str (Str.ofString "items") 266] } : Obj)) ::
    (nat_lit 64, ({ cls := Value.type "tuple", data := Data.seq #[] } : Obj)) ::
    (nat_lit 66, ({ cls := Value.type "code", data := Data.fields #[Value.str (Str.ofString "__init__") 261, Value.str (Str.ofString "ArrayValue.__init__") 262, Value.str (Str.ofString "/claim/cut.py") 263, Value.int 17 0, Value.int 3 0, Value.int 0 0, Value.int 0 0, Value.int 3 0, Value.ref 61, Value.bool true, Value.int 181 0, Value.ref 62, Value.none, Value.ref 63, Value.ref 64, Value.ref 65, Value.int 267 0, Value.int 17 0, Value.str (Str.ofString "/claim/cut.py") 268] } : Obj)) ::
    (nat_lit 67, ({ cls := Value.type "function", data := Data.func { name := Str.ofString "__init__", qualname := Str.ofString "ArrayValue.__init__", params := ?A67, body := FuncBody.stmts ?B67, scope := ?S67, globals := 3, closure := [], defaults := Value.none, kwdefaults := Value.none, pyModule := Value.str (Str.ofString "adacore.values") 247, code := Value.ref 66 } } : Obj)) ::
    (nat_lit 68, ({ cls := Value.type "tuple", data := Data.seq #[Value.str (Str.ofString "bounds") 270, Value.str (Str.ofString "items") 271] } : Obj)) ::
    (nat_lit 69, ({ cls := Value.type "dict", data := Data.dict #[{ hash := PyData.keyHash P (Str.ofString "__module__"), key := Value.str (Str.ofString "__module__") 256, val := Value.str (Str.ofString "adacore.values") 247 }, { hash := PyData.keyHash P (Str.ofString "__firstlineno__"), key := Value.str (Str.ofString "__firstlineno__") 260, val := Value.int 15 259 }, { hash := PyData.keyHash P (Str.ofString "__init__"), key := Value.str (Str.ofString "__init__") 269, val := Value.ref 67 }, { hash := PyData.keyHash P (Str.ofString "__static_attributes__"), key := Value.str (Str.ofString "__static_attributes__") 272, val := Value.ref 68 }, { hash := PyData.keyHash P (Str.ofString "__dict__"), key := Value.str (Str.ofString "__dict__") 274, val := Value.ref 71 }, { hash := PyData.keyHash P (Str.ofString "__weakref__"), key := Value.str (Str.ofString "__weakref__") 276, val := Value.ref 72 }, { hash := PyData.keyHash P (Str.ofString "__doc__"), key := Value.str (Str.ofString "__doc__") 277, val := Value.none }] 4 } : Obj)) ::
    (nat_lit 70, ({ cls := Value.type "type", data := Data.cls { name := Str.ofString "ArrayValue", bases := [Value.type "object"], mro := [Value.ref 70, Value.type "object"], ns := 69, qualname := Str.ofString "ArrayValue" }, slots := #[none, none, some (Value.str (Str.ofString "ArrayValue") 249), some (Value.str (Str.ofString "ArrayValue") 257), some (Value.builtin "object.__new__"), some (Value.bool true)] } : Obj)) ::
    (nat_lit 71, ({ cls := Value.type "getset_descriptor", data := Data.fields #[Value.str (Str.ofString "__dict__") 273, Value.ref 70, Value.builtin "function.__dict__", Value.builtin "function.__dict__#set"] } : Obj)) ::
    (nat_lit 72, ({ cls := Value.type "getset_descriptor", data := Data.fields #[Value.str (Str.ofString "__weakref__") 275, Value.ref 70, Value.builtin "ExceptionGroup.__weakref__", Value.none] } : Obj)) ::
    (nat_lit 82, ({ cls := Value.type "tuple", data := Data.seq #[] } : Obj)) ::
    (nat_lit 84, ({ cls := Value.type "tuple", data := Data.seq #[Value.str (Str.ofString "self") 295, Value.str (Str.ofString "t") 296, Value.str (Str.ofString "fields") 297] } : Obj)) ::
    (nat_lit 85, ({ cls := Value.type "tuple", data := Data.seq #[] } : Obj)) ::
    (nat_lit 87, ({ cls := Value.type "code", data := Data.fields #[Value.str (Str.ofString "__init__") 292, Value.str (Str.ofString "RecordValue.__init__") 293, Value.str (Str.ofString "/claim/cut.py") 294, Value.int 22 0, Value.int 3 0, Value.int 0 0, Value.int 0 0, Value.int 3 0, Value.ref 82, Value.bool true, Value.int 181 0, Value.ref 83, Value.none, Value.ref 84, Value.ref 85, Value.ref 86, Value.int 298 0, Value.int 22 0, Value.str (Str.ofString "/claim/cut.py") 299] } : Obj)) ::
    (nat_lit 88, ({ cls := Value.type "function", data := Data.func { name := Str.ofString "__init__", qualname := Str.ofString "RecordValue.__init__", params := ?A88, body := FuncBody.stmts ?B88, scope := ?S88, globals := 3, closure := [], defaults := Value.none, kwdefaults := Value.none, pyModule := Value.str (Str.ofString "adacore.values") 247, code := Value.ref 87 } } : Obj)) ::
    (nat_lit 89, ({ cls := Value.type "tuple", data := Data.seq #[Value.str (Str.ofString "fields") 301, Value.str (Str.ofString "type") 302] } : Obj)) ::
    (nat_lit 90, ({ cls := Value.type "dict", data := Data.dict #[{ hash := PyData.keyHash P (Str.ofString "__module__"), key := Value.str (Str.ofString "__module__") 287, val := Value.str (Str.ofString "adacore.values") 247 }, { hash := PyData.keyHash P (Str.ofString "__firstlineno__"), key := Value.str (Str.ofString "__firstlineno__") 291, val := Value.int 20 290 }, { hash := PyData.keyHash P (Str.ofString "__init__"), key := Value.str (Str.ofString "__init__") 300, val := Value.ref 88 }, { hash := PyData.keyHash P (Str.ofString "__static_attributes__"), key := Value.str (Str.ofString "__static_attributes__") 303, val := Value.ref 89 }, { hash := PyData.keyHash P (Str.ofString "__dict__"), key := Value.str (Str.ofString "__dict__") 305, val := Value.ref 92 }, { hash := PyData.keyHash P (Str.ofString "__weakref__"), key := Value.str (Str.ofString "__weakref__") 307, val := Value.ref 93 }, { hash := PyData.keyHash P (Str.ofString "__doc__"), key := Value.str (Str.ofString "__doc__") 308, val := Value.none }] 4 } : Obj)) ::
    (nat_lit 91, ({ cls := Value.type "type", data := Data.cls { name := Str.ofString "RecordValue", bases := [Value.type "object"], mro := [Value.ref 91, Value.type "object"], ns := 90, qualname := Str.ofString "RecordValue" }, slots := #[none, none, some (Value.str (Str.ofString "RecordValue") 280), some (Value.str (Str.ofString "RecordValue") 288), some (Value.builtin "object.__new__"), some (Value.bool true)] } : Obj)) ::
    (nat_lit 92, ({ cls := Value.type "getset_descriptor", data := Data.fields #[Value.str (Str.ofString "__dict__") 304, Value.ref 91, Value.builtin "function.__dict__", Value.builtin "function.__dict__#set"] } : Obj)) ::
    (nat_lit 93, ({ cls := Value.type "getset_descriptor", data := Data.fields #[Value.str (Str.ofString "__weakref__") 306, Value.ref 91, Value.builtin "ExceptionGroup.__weakref__", Value.none] } : Obj)) ::
    (nat_lit 96, ({ cls := Value.type "tuple", data := Data.seq #[] } : Obj)) ::
    (nat_lit 99, ({ cls := Value.type "code", data := Data.fields #[Value.str (Str.ofString "copy_value") 311, Value.str (Str.ofString "copy_value") 312, Value.str (Str.ofString "/claim/cut.py") 313, Value.int 25 0, Value.int 1 0, Value.int 0 0, Value.int 0 0, Value.int 3 0, Value.ref 96, Value.bool true, Value.int 181 0, Value.ref 97, Value.none, Value.none, Value.none, Value.ref 98, Value.int 314 0, Value.int 25 0, Value.str (Str.ofString "/claim/cut.py") 315] } : Obj)) ::
    (nat_lit 100, ({ cls := Value.type "function", data := Data.func { name := Str.ofString "copy_value", qualname := Str.ofString "copy_value", params := ?A100, body := FuncBody.stmts ?B100, scope := ?S100, globals := 3, closure := [], defaults := Value.none, kwdefaults := Value.none, pyModule := Value.str (Str.ofString "adacore.values") 247, code := Value.ref 99 } } : Obj)) ::
    (nat_lit 101, ({ cls := Value.type "tuple", data := Data.seq #[] } : Obj)) ::
    (nat_lit 104, ({ cls := Value.type "code", data := Data.fields #[Value.str (Str.ofString "lengths_of") 317, Value.str (Str.ofString "lengths_of") 318, Value.str (Str.ofString "/claim/cut.py") 319, Value.int 34 0, Value.int 1 0, Value.int 0 0, Value.int 0 0, Value.int 3 0, Value.ref 101, Value.bool true, Value.int 181 0, Value.ref 102, Value.none, Value.none, Value.none, Value.ref 103, Value.int 320 0, Value.int 34 0, Value.str (Str.ofString "/claim/cut.py") 321] } : Obj)) ::
    (nat_lit 105, ({ cls := Value.type "function", data := Data.func { name := Str.ofString "lengths_of", qualname := Str.ofString "lengths_of", params := ?A105, body := FuncBody.stmts ?B105, scope := ?S105, globals := 3, closure := [], defaults := Value.none, kwdefaults := Value.none, pyModule := Value.str (Str.ofString "adacore.values") 247, code := Value.ref 104 } } : Obj)) ::
    (nat_lit 106, ({ cls := Value.type "tuple", data := Data.seq #[] } : Obj)) ::
    (nat_lit 108, ({ cls := Value.type "tuple", data := Data.seq #[Value.str (Str.ofString "place") 326, Value.str (Str.ofString "low") 327, Value.str (Str.ofString "high") 328, Value.str (Str.ofString "count") 329] } : Obj)) ::
    (nat_lit 109, ({ cls := Value.type "tuple", data := Data.seq #[] } : Obj)) ::
    (nat_lit 111, ({ cls := Value.type "code", data := Data.fields #[Value.str (Str.ofString "slice_items") 323, Value.str (Str.ofString "slice_items") 324, Value.str (Str.ofString "/claim/cut.py") 325, Value.int 36 0, Value.int 1 0, Value.int 0 0, Value.int 0 0, Value.int 3 0, Value.ref 106, Value.bool true, Value.int 181 0, Value.ref 107, Value.none, Value.ref 108, Value.ref 109, Value.ref 110, Value.int 330 0, Value.int 36 0, Value.str (Str.ofString "/claim/cut.py") 331] } : Obj)) ::
    (nat_lit 112, ({ cls := Value.type "function", data := Data.func { name := Str.ofString "slice_items", qualname := Str.ofString "slice_items", params := ?A112, body := FuncBody.stmts ?B112, scope := ?S112, globals := 3, closure := [], defaults := Value.none, kwdefaults := Value.none, pyModule := Value.str (Str.ofString "adacore.values") 247, code := Value.ref 111 } } : Obj)) ::
    (nat_lit 113, ({ cls := Value.type "tuple", data := Data.seq #[] } : Obj)) ::
    (nat_lit 116, ({ cls := Value.type "code", data := Data.fields #[Value.str (Str.ofString "read_place") 333, Value.str (Str.ofString "read_place") 334, Value.str (Str.ofString "/claim/cut.py") 335, Value.int 40 0, Value.int 1 0, Value.int 0 0, Value.int 0 0, Value.int 3 0, Value.ref 113, Value.bool true, Value.int 181 0, Value.ref 114, Value.none, Value.none, Value.none, Value.ref 115, Value.int 336 0, Value.int 40 0, Value.str (Str.ofString "/claim/cut.py") 337] } : Obj)) ::
    (nat_lit 117, ({ cls := Value.type "function", data := Data.func { name := Str.ofString "read_place", qualname := Str.ofString "read_place", params := ?A117, body := FuncBody.stmts ?B117, scope := ?S117, globals := 3, closure := [], defaults := Value.none, kwdefaults := Value.none, pyModule := Value.str (Str.ofString "adacore.values") 247, code := Value.ref 116 } } : Obj)) ::
    (nat_lit 118, ({ cls := Value.type "tuple", data := Data.seq #[] } : Obj)) ::
    (nat_lit 121, ({ cls := Value.type "code", data := Data.fields #[Value.str (Str.ofString "write_place") 339, Value.str (Str.ofString "write_place") 340, Value.str (Str.ofString "/claim/cut.py") 341, Value.int 51 0, Value.int 2 0, Value.int 0 0, Value.int 0 0, Value.int 3 0, Value.ref 118, Value.bool true, Value.int 181 0, Value.ref 119, Value.none, Value.none, Value.none, Value.ref 120, Value.int 342 0, Value.int 51 0, Value.str (Str.ofString "/claim/cut.py") 343] } : Obj)) ::
    (nat_lit 122, ({ cls := Value.type "function", data := Data.func { name := Str.ofString "write_place", qualname := Str.ofString "write_place", params := ?A122, body := FuncBody.stmts ?B122, scope := ?S122, globals := 3, closure := [], defaults := Value.none, kwdefaults := Value.none, pyModule := Value.str (Str.ofString "adacore.values") 247, code := Value.ref 121 } } : Obj)) ::
    (nat_lit 123, ({ cls := Value.type "tuple", data := Data.seq #[] } : Obj)) ::
    (nat_lit 125, ({ cls := Value.type "tuple", data := Data.seq #[Value.str (Str.ofString "text") 350] } : Obj)) ::
    (nat_lit 126, ({ cls := Value.type "tuple", data := Data.seq #[] } : Obj)) ::
    (nat_lit 128, ({ cls := Value.type "code", data := Data.fields #[Value.str (Str.ofString "raise_constraint") 347, Value.str (Str.ofString "raise_constraint") 348, Value.str (Str.ofString "/claim/cut.py") 349, Value.int 66 0, Value.int 1 0, Value.int 0 0, Value.int 0 0, Value.int 3 0, Value.ref 123, Value.bool true, Value.int 181 0, Value.ref 124, Value.none, Value.ref 125, Value.ref 126, Value.ref 127, Value.int 351 0, Value.int 66 0, Value.str (Str.ofString "/claim/cut.py") 352] } : Obj)) ::
    (nat_lit 129, ({ cls := Value.type "function", data := Data.func { name := Str.ofString "raise_constraint", qualname := Str.ofString "raise_constraint", params := ?A129, body := FuncBody.stmts ?B129, scope := ?S129, globals := 3, closure := [], defaults := Value.none, kwdefaults := Value.none, pyModule := Value.str (Str.ofString "adacore.arrays") 345, code := Value.ref 128 } } : Obj)) ::
    (nat_lit 130, ({ cls := Value.type "tuple", data := Data.seq #[] } : Obj)) ::
    (nat_lit 132, ({ cls := Value.type "tuple", data := Data.seq #[Value.str (Str.ofString "low") 357, Value.str (Str.ofString "high") 358] } : Obj)) ::
    (nat_lit 133, ({ cls := Value.type "tuple", data := Data.seq #[] } : Obj)) ::
    (nat_lit 135, ({ cls := Value.type "code", data := Data.fields #[Value.str (Str.ofString "dim_length") 354, Value.str (Str.ofString "dim_length") 355, Value.str (Str.ofString "/claim/cut.py") 356, Value.int 68 0, Value.int 2 0, Value.int 0 0, Value.int 0 0, Value.int 3 0, Value.ref 130, Value.bool true, Value.int 181 0, Value.ref 131, Value.none, Value.ref 132, Value.ref 133, Value.ref 134, Value.int 359 0, Value.int 68 0, Value.str (Str.ofString "/claim/cut.py") 360] } : Obj)) ::
    (nat_lit 136, ({ cls := Value.type "function", data := Data.func { name := Str.ofString "dim_length", qualname := Str.ofString "dim_length", params := ?A136, body := FuncBody.stmts ?B136, scope := ?S136, globals := 3, closure := [], defaults := Value.none, kwdefaults := Value.none, pyModule := Value.str (Str.ofString "adacore.arrays") 345, code := Value.ref 135 } } : Obj)) ::
    (nat_lit 137, ({ cls := Value.type "tuple", data := Data.seq #[] } : Obj)) ::
    (nat_lit 139, ({ cls := Value.type "tuple", data := Data.seq #[Value.str (Str.ofString "value") 365, Value.str (Str.ofString "indexes") 366, Value.str (Str.ofString "offset") 367, Value.str (Str.ofString "place") 368, Value.str (Str.ofString "low") 369, Value.str (Str.ofString "high") 370] } : Obj)) ::
    (nat_lit 140, ({ cls := Value.type "tuple", data := Data.seq #[] } : Obj)) ::
    (nat_lit 142, ({ cls := Value.type "code", data := Data.fields #[Value.str (Str.ofString "item_offset") 362, Value.str (Str.ofString "item_offset") 363, Value.str (Str.ofString "/claim/cut.py") 364, Value.int 70 0, Value.int 2 0, Value.int 0 0, Value.int 0 0, Value.int 3 0, Value.ref 137, Value.bool true, Value.int 181 0, Value.ref 138, Value.none, Value.ref 139, Value.ref 140, Value.ref 141, Value.int 371 0, Value.int 70 0, Value.str (Str.ofString "/claim/cut.py") 372] } : Obj)) ::
    (nat_lit 143, ({ cls := Value.type "function", data := Data.func { name := Str.ofString "item_offset", qualname := Str.ofString "item_offset", params := ?A143, body := FuncBody.stmts ?B143, scope := ?S143, globals := 3, closure := [], defaults := Value.none, kwdefaults := Value.none, pyModule := Value.str (Str.ofString "adacore.arrays") 345, code := Value.ref 142 } } : Obj)) ::
    (nat_lit 144, ({ cls := Value.type "tuple", data := Data.seq #[] } : Obj)) ::
    (nat_lit 146, ({ cls := Value.type "tuple", data := Data.seq #[Value.str (Str.ofString "value") 377, Value.str (Str.ofString "indexes") 378] } : Obj)) ::
    (nat_lit 147, ({ cls := Value.type "tuple", data := Data.seq #[] } : Obj)) ::
    (nat_lit 149, ({ cls := Value.type "code", data := Data.fields #[Value.str (Str.ofString "get_item") 374, Value.str (Str.ofString "get_item") 375, Value.str (Str.ofString "/claim/cut.py") 376, Value.int 78 0, Value.int 2 0, Value.int 0 0, Value.int 0 0, Value.int 3 0, Value.ref 144, Value.bool true, Value.int 181 0, Value.ref 145, Value.none, Value.ref 146, Value.ref 147, Value.ref 148, Value.int 379 0, Value.int 78 0, Value.str (Str.ofString "/claim/cut.py") 380] } : Obj)) ::
    (nat_lit 150, ({ cls := Value.type "function", data := Data.func { name := Str.ofString "get_item", qualname := Str.ofString "get_item", params := ?A150, body := FuncBody.stmts ?B150, scope := ?S150, globals := 3, closure := [], defaults := Value.none, kwdefaults := Value.none, pyModule := Value.str (Str.ofString "adacore.arrays") 345, code := Value.ref 149 } } : Obj)) ::
    (nat_lit 151, ({ cls := Value.type "tuple", data := Data.seq #[] } : Obj)) ::
    (nat_lit 153, ({ cls := Value.type "tuple", data := Data.seq #[Value.str (Str.ofString "value") 385, Value.str (Str.ofString "low") 386, Value.str (Str.ofString "high") 387, Value.str (Str.ofString "first") 388, Value.str (Str.ofString "last") 389] } : Obj)) ::
    (nat_lit 154, ({ cls := Value.type "tuple", data := Data.seq #[] } : Obj)) ::
    (nat_lit 156, ({ cls := Value.type "code", data := Data.fields #[Value.str (Str.ofString "slice_place") 382, Value.str (Str.ofString "slice_place") 383, Value.str (Str.ofString "/claim/cut.py") 384, Value.int 80 0, Value.int 3 0, Value.int 0 0, Value.int 0 0, Value.int 3 0, Value.ref 151, Value.bool true, Value.int 181 0, Value.ref 152, Value.none, Value.ref 153, Value.ref 154, Value.ref 155, Value.int 390 0, Value.int 80 0, Value.str (Str.ofString "/claim/cut.py") 391] } : Obj)) ::
    (nat_lit 157, ({ cls := Value.type "function", data := Data.func { name := Str.ofString "slice_place", qualname := Str.ofString "slice_place", params := ?A157, body := FuncBody.stmts ?B157, scope := ?S157, globals := 3, closure := [], defaults := Value.none, kwdefaults := Value.none, pyModule := Value.str (Str.ofString "adacore.arrays") 345, code := Value.ref 156 } } : Obj)) ::
    (nat_lit 158, ({ cls := Value.type "tuple", data := Data.seq #[] } : Obj)) ::
    (nat_lit 161, ({ cls := Value.type "code", data := Data.fields #[Value.str (Str.ofString "slice_value") 393, Value.str (Str.ofString "slice_value") 394, Value.str (Str.ofString "/claim/cut.py") 395, Value.int 87 0, Value.int 3 0, Value.int 0 0, Value.int 0 0, Value.int 3 0, Value.ref 158, Value.bool true, Value.int 181 0, Value.ref 159, Value.none, Value.none, Value.none, Value.ref 160, Value.int 396 0, Value.int 87 0, Value.str (Str.ofString "/claim/cut.py") 397] } : Obj)) ::
    (nat_lit 162, ({ cls := Value.type "function", data := Data.func { name := Str.ofString "slice_value", qualname := Str.ofString "slice_value", params := ?A162, body := FuncBody.stmts ?B162, scope := ?S162, globals := 3, closure := [], defaults := Value.none, kwdefaults := Value.none, pyModule := Value.str (Str.ofString "adacore.arrays") 345, code := Value.ref 161 } } : Obj)) ::
    (nat_lit 163, ({ cls := Value.type "tuple", data := Data.seq #[] } : Obj)) ::
    (nat_lit 166, ({ cls := Value.type "code", data := Data.fields #[Value.str (Str.ofString "check_lengths") 399, Value.str (Str.ofString "check_lengths") 400, Value.str (Str.ofString "/claim/cut.py") 401, Value.int 91 0, Value.int 2 0, Value.int 0 0, Value.int 0 0, Value.int 3 0, Value.ref 163, Value.bool true, Value.int 181 0, Value.ref 164, Value.none, Value.none, Value.none, Value.ref 165, Value.int 402 0, Value.int 91 0, Value.str (Str.ofString "/claim/cut.py") 403] } : Obj)) ::
    (nat_lit 167, ({ cls := Value.type "function", data := Data.func { name := Str.ofString "check_lengths", qualname := Str.ofString "check_lengths", params := ?A167, body := FuncBody.stmts ?B167, scope := ?S167, globals := 3, closure := [], defaults := Value.none, kwdefaults := Value.none, pyModule := Value.str (Str.ofString "adacore.arrays") 345, code := Value.ref 166 } } : Obj)) ::
    (nat_lit 168, ({ cls := Value.type "tuple", data := Data.seq #[] } : Obj)) ::
    (nat_lit 171, ({ cls := Value.type "code", data := Data.fields #[Value.str (Str.ofString "slide_array") 405, Value.str (Str.ofString "slide_array") 406, Value.str (Str.ofString "/claim/cut.py") 407, Value.int 94 0, Value.int 2 0, Value.int 0 0, Value.int 0 0, Value.int 3 0, Value.ref 168, Value.bool true, Value.int 181 0, Value.ref 169, Value.none, Value.none, Value.none, Value.ref 170, Value.int 408 0, Value.int 94 0, Value.str (Str.ofString "/claim/cut.py") 409] } : Obj)) ::
    (nat_lit 172, ({ cls := Value.type "function", data := Data.func { name := Str.ofString "slide_array", qualname := Str.ofString "slide_array", params := ?A172, body := FuncBody.stmts ?B172, scope := ?S172, globals := 3, closure := [], defaults := Value.none, kwdefaults := Value.none, pyModule := Value.str (Str.ofString "adacore.arrays") 345, code := Value.ref 171 } } : Obj)) ::
    (nat_lit 173, ({ cls := Value.type "tuple", data := Data.seq #[] } : Obj)) ::
    (nat_lit 175, ({ cls := Value.type "tuple", data := Data.seq #[Value.str (Str.ofString "item") 414, Value.str (Str.ofString "low") 415] } : Obj)) ::
    (nat_lit 176, ({ cls := Value.type "tuple", data := Data.seq #[] } : Obj)) ::
    (nat_lit 178, ({ cls := Value.type "code", data := Data.fields #[Value.str (Str.ofString "one_item") 411, Value.str (Str.ofString "one_item") 412, Value.str (Str.ofString "/claim/cut.py") 413, Value.int 97 0, Value.int 2 0, Value.int 0 0, Value.int 0 0, Value.int 3 0, Value.ref 173, Value.bool true, Value.int 181 0, Value.ref 174, Value.none, Value.ref 175, Value.ref 176, Value.ref 177, Value.int 416 0, Value.int 97 0, Value.str (Str.ofString "/claim/cut.py") 417] } : Obj)) ::
    (nat_lit 179, ({ cls := Value.type "function", data := Data.func { name := Str.ofString "one_item", qualname := Str.ofString "one_item", params := ?A179, body := FuncBody.stmts ?B179, scope := ?S179, globals := 3, closure := [], defaults := Value.none, kwdefaults := Value.none, pyModule := Value.str (Str.ofString "adacore.arrays") 345, code := Value.ref 178 } } : Obj)) ::
    (nat_lit 180, ({ cls := Value.type "tuple", data := Data.seq #[] } : Obj)) ::
    (nat_lit 183, ({ cls := Value.type "code", data := Data.fields #[Value.str (Str.ofString "concat_arrays") 419, Value.str (Str.ofString "concat_arrays") 420, Value.str (Str.ofString "/claim/cut.py") 421, Value.int 99 0, Value.int 5 0, Value.int 0 0, Value.int 0 0, Value.int 3 0, Value.ref 180, Value.bool true, Value.int 181 0, Value.ref 181, Value.none, Value.none, Value.none, Value.ref 182, Value.int 422 0, Value.int 99 0, Value.str (Str.ofString "/claim/cut.py") 423] } : Obj)) ::
    (nat_lit 184, ({ cls := Value.type "function", data := Data.func { name := Str.ofString "concat_arrays", qualname := Str.ofString "concat_arrays", params := ?A184, body := FuncBody.stmts ?B184, scope := ?S184, globals := 3, closure := [], defaults := Value.none, kwdefaults := Value.none, pyModule := Value.str (Str.ofString "adacore.arrays") 345, code := Value.ref 183 } } : Obj)) ::
    (nat_lit 185, ({ cls := Value.type "tuple", data := Data.seq #[] } : Obj)) ::
    (nat_lit 187, ({ cls := Value.type "tuple", data := Data.seq #[Value.str (Str.ofString "deck") 435, Value.str (Str.ofString "many") 436, Value.str (Str.ofString "at") 437] } : Obj)) ::
    (nat_lit 188, ({ cls := Value.type "tuple", data := Data.seq #[] } : Obj)) ::
    (nat_lit 190, ({ cls := Value.type "code", data := Data.fields #[Value.str (Str.ofString "_law_pull") 432, Value.str (Str.ofString "_law_pull") 433, Value.str (Str.ofString "/claim/cut.py") 434, Value.int 112 0, Value.int 2 0, Value.int 0 0, Value.int 0 0, Value.int 3 0, Value.ref 185, Value.bool true, Value.int 181 0, Value.ref 186, Value.none, Value.ref 187, Value.ref 188, Value.ref 189, Value.int 438 0, Value.int 112 0, Value.str (Str.ofString "/claim/cut.py") 439] } : Obj)) ::
    (nat_lit 191, ({ cls := Value.type "function", data := Data.func { name := Str.ofString "_law_pull", qualname := Str.ofString "_law_pull", params := ?A191, body := FuncBody.stmts ?B191, scope := ?S191, globals := 3, closure := [], defaults := Value.none, kwdefaults := Value.none, pyModule := Value.str (Str.ofString "law_pb0006_01") 425, code := Value.ref 190 } } : Obj)) ::
    (nat_lit 192, ({ cls := Value.type "tuple", data := Data.seq #[] } : Obj)) ::
    (nat_lit 194, ({ cls := Value.type "tuple", data := Data.seq #[Value.str (Str.ofString "deck") 444, Value.str (Str.ofString "low") 445, Value.str (Str.ofString "count") 446, Value.str (Str.ofString "held") 447, Value.str (Str.ofString "nth") 448] } : Obj)) ::
    (nat_lit 195, ({ cls := Value.type "tuple", data := Data.seq #[] } : Obj)) ::
    (nat_lit 197, ({ cls := Value.type "code", data := Data.fields #[Value.str (Str.ofString "_law_row") 441, Value.str (Str.ofString "_law_row") 442, Value.str (Str.ofString "/claim/cut.py") 443, Value.int 118 0, Value.int 1 0, Value.int 0 0, Value.int 0 0, Value.int 3 0, Value.ref 192, Value.bool true, Value.int 181 0, Value.ref 193, Value.none, Value.ref 194, Value.ref 195, Value.ref 196, Value.int 449 0, Value.int 118 0, Value.str (Str.ofString "/claim/cut.py") 450] } : Obj)) ::
    (nat_lit 198, ({ cls := Value.type "function", data := Data.func { name := Str.ofString "_law_row", qualname := Str.ofString "_law_row", params := ?A198, body := FuncBody.stmts ?B198, scope := ?S198, globals := 3, closure := [], defaults := Value.none, kwdefaults := Value.none, pyModule := Value.str (Str.ofString "law_pb0006_01") 425, code := Value.ref 197 } } : Obj)) ::
    (nat_lit 199, ({ cls := Value.type "tuple", data := Data.seq #[] } : Obj)) ::
    (nat_lit 202, ({ cls := Value.type "code", data := Data.fields #[Value.str (Str.ofString "_law_value") 452, Value.str (Str.ofString "_law_value") 453, Value.str (Str.ofString "/claim/cut.py") 454, Value.int 125 0, Value.int 1 0, Value.int 0 0, Value.int 0 0, Value.int 3 0, Value.ref 199, Value.bool true, Value.int 181 0, Value.ref 200, Value.none, Value.none, Value.none, Value.ref 201, Value.int 455 0, Value.int 125 0, Value.str (Str.ofString "/claim/cut.py") 456] } : Obj)) ::
    (nat_lit 203, ({ cls := Value.type "function", data := Data.func { name := Str.ofString "_law_value", qualname := Str.ofString "_law_value", params := ?A203, body := FuncBody.stmts ?B203, scope := ?S203, globals := 3, closure := [], defaults := Value.none, kwdefaults := Value.none, pyModule := Value.str (Str.ofString "law_pb0006_01") 425, code := Value.ref 202 } } : Obj)) ::
    (nat_lit 204, ({ cls := Value.type "tuple", data := Data.seq #[] } : Obj)) ::
    (nat_lit 207, ({ cls := Value.type "code", data := Data.fields #[Value.str (Str.ofString "_law_part") 458, Value.str (Str.ofString "_law_part") 459, Value.str (Str.ofString "/claim/cut.py") 460, Value.int 127 0, Value.int 3 0, Value.int 0 0, Value.int 0 0, Value.int 3 0, Value.ref 204, Value.bool true, Value.int 181 0, Value.ref 205, Value.none, Value.none, Value.none, Value.ref 206, Value.int 461 0, Value.int 127 0, Value.str (Str.ofString "/claim/cut.py") 462] } : Obj)) ::
    (nat_lit 208, ({ cls := Value.type "function", data := Data.func { name := Str.ofString "_law_part", qualname := Str.ofString "_law_part", params := ?A208, body := FuncBody.stmts ?B208, scope := ?S208, globals := 3, closure := [], defaults := Value.none, kwdefaults := Value.none, pyModule := Value.str (Str.ofString "law_pb0006_01") 425, code := Value.ref 207 } } : Obj)) ::
    (nat_lit 209, ({ cls := Value.type "tuple", data := Data.seq #[] } : Obj)) ::
    (nat_lit 212, ({ cls := Value.type "code", data := Data.fields #[Value.str (Str.ofString "_law_moved") 464, Value.str (Str.ofString "_law_moved") 465, Value.str (Str.ofString "/claim/cut.py") 466, Value.int 134 0, Value.int 3 0, Value.int 0 0, Value.int 0 0, Value.int 3 0, Value.ref 209, Value.bool true, Value.int 181 0, Value.ref 210, Value.none, Value.none, Value.none, Value.ref 211, Value.int 467 0, Value.int 134 0, Value.str (Str.ofString "/claim/cut.py") 468] } : Obj)) ::
    (nat_lit 213, ({ cls := Value.type "function", data := Data.func { name := Str.ofString "_law_moved", qualname := Str.ofString "_law_moved", params := ?A213, body := FuncBody.stmts ?B213, scope := ?S213, globals := 3, closure := [], defaults := Value.none, kwdefaults := Value.none, pyModule := Value.str (Str.ofString "law_pb0006_01") 425, code := Value.ref 212 } } : Obj)) ::
    (nat_lit 214, ({ cls := Value.type "tuple", data := Data.seq #[] } : Obj)) ::
    (nat_lit 217, ({ cls := Value.type "code", data := Data.fields #[Value.str (Str.ofString "_law_behind") 470, Value.str (Str.ofString "_law_behind") 471, Value.str (Str.ofString "/claim/cut.py") 472, Value.int 140 0, Value.int 3 0, Value.int 0 0, Value.int 0 0, Value.int 3 0, Value.ref 214, Value.bool true, Value.int 181 0, Value.ref 215, Value.none, Value.none, Value.none, Value.ref 216, Value.int 473 0, Value.int 140 0, Value.str (Str.ofString "/claim/cut.py") 474] } : Obj)) ::
    (nat_lit 218, ({ cls := Value.type "function", data := Data.func { name := Str.ofString "_law_behind", qualname := Str.ofString "_law_behind", params := ?A218, body := FuncBody.stmts ?B218, scope := ?S218, globals := 3, closure := [], defaults := Value.none, kwdefaults := Value.none, pyModule := Value.str (Str.ofString "law_pb0006_01") 425, code := Value.ref 217 } } : Obj)) ::
    (nat_lit 219, ({ cls := Value.type "tuple", data := Data.seq #[] } : Obj)) ::
    (nat_lit 221, ({ cls := Value.type "tuple", data := Data.seq #[Value.str (Str.ofString "row") 479, Value.str (Str.ofString "low") 480, Value.str (Str.ofString "high") 481, Value.str (Str.ofString "other_low") 482, Value.str (Str.ofString "other_high") 483, Value.str (Str.ofString "taken") 484, Value.str (Str.ofString "moved") 485, Value.str (Str.ofString "held") 486] } : Obj)) ::
    (nat_lit 222, ({ cls := Value.type "tuple", data := Data.seq #[] } : Obj)) ::
    (nat_lit 224, ({ cls := Value.type "code", data := Data.fields #[Value.str (Str.ofString "_law_given") 476, Value.str (Str.ofString "_law_given") 477, Value.str (Str.ofString "/claim/cut.py") 478, Value.int 148 0, Value.int 5 0, Value.int 0 0, Value.int 0 0, Value.int 3 0, Value.ref 219, Value.bool true, Value.int 181 0, Value.ref 220, Value.none, Value.ref 221, Value.ref 222, Value.ref 223, Value.int 487 0, Value.int 148 0, Value.str (Str.ofString "/claim/cut.py") 488] } : Obj)) ::
    (nat_lit 225, ({ cls := Value.type "function", data := Data.func { name := Str.ofString "_law_given", qualname := Str.ofString "_law_given", params := ?A225, body := FuncBody.stmts ?B225, scope := ?S225, globals := 3, closure := [], defaults := Value.none, kwdefaults := Value.none, pyModule := Value.str (Str.ofString "law_pb0006_01") 425, code := Value.ref 224 } } : Obj)) ::
    (nat_lit 226, ({ cls := Value.type "tuple", data := Data.seq #[] } : Obj)) ::
    (nat_lit 228, ({ cls := Value.type "tuple", data := Data.seq #[Value.str (Str.ofString "way") 493, Value.str (Str.ofString "value") 494, Value.str (Str.ofString "other") 495, Value.str (Str.ofString "ends") 496, Value.str (Str.ofString "place") 497, Value.str (Str.ofString "taken") 498] } : Obj)) ::
    (nat_lit 229, ({ cls := Value.type "tuple", data := Data.seq #[] } : Obj)) ::
    (nat_lit 231, ({ cls := Value.type "code", data := Data.fields #[Value.str (Str.ofString "_law_done") 490, Value.str (Str.ofString "_law_done") 491, Value.str (Str.ofString "/claim/cut.py") 492, Value.int 158 0, Value.int 4 0, Value.int 0 0, Value.int 0 0, Value.int 3 0, Value.ref 226, Value.bool true, Value.int 181 0, Value.ref 227, Value.none, Value.ref 228, Value.ref 229, Value.ref 230, Value.int 499 0, Value.int 158 0, Value.str (Str.ofString "/claim/cut.py") 500] } : Obj)) ::
    (nat_lit 232, ({ cls := Value.type "function", data := Data.func { name := Str.ofString "_law_done", qualname := Str.ofString "_law_done", params := ?A232, body := FuncBody.stmts ?B232, scope := ?S232, globals := 3, closure := [], defaults := Value.none, kwdefaults := Value.none, pyModule := Value.str (Str.ofString "law_pb0006_01") 425, code := Value.ref 231 } } : Obj)) ::
    (nat_lit 233, ({ cls := Value.type "tuple", data := Data.seq #[] } : Obj)) ::
    (nat_lit 235, ({ cls := Value.type "tuple", data := Data.seq #[Value.str (Str.ofString "way") 505, Value.str (Str.ofString "row") 506, Value.str (Str.ofString "other") 507, Value.str (Str.ofString "ends") 508] } : Obj)) ::
    (nat_lit 236, ({ cls := Value.type "tuple", data := Data.seq #[] } : Obj)) ::
    (nat_lit 238, ({ cls := Value.type "code", data := Data.fields #[Value.str (Str.ofString "_law_due") 502, Value.str (Str.ofString "_law_due") 503, Value.str (Str.ofString "/claim/cut.py") 504, Value.int 176 0, Value.int 4 0, Value.int 0 0, Value.int 0 0, Value.int 3 0, Value.ref 233, Value.bool true, Value.int 181 0, Value.ref 234, Value.none, Value.ref 235, Value.ref 236, Value.ref 237, Value.int 509 0, Value.int 176 0, Value.str (Str.ofString "/claim/cut.py") 510] } : Obj)) ::
    (nat_lit 239, ({ cls := Value.type "function", data := Data.func { name := Str.ofString "_law_due", qualname := Str.ofString "_law_due", params := ?A239, body := FuncBody.stmts ?B239, scope := ?S239, globals := 3, closure := [], defaults := Value.none, kwdefaults := Value.none, pyModule := Value.str (Str.ofString "law_pb0006_01") 425, code := Value.ref 238 } } : Obj)) ::
    (nat_lit 240, ({ cls := Value.type "tuple", data := Data.seq #[] } : Obj)) ::
    (nat_lit 242, ({ cls := Value.type "tuple", data := Data.seq #[Value.str (Str.ofString "way") 515, Value.str (Str.ofString "value") 516, Value.str (Str.ofString "other") 517, Value.str (Str.ofString "ends") 518, Value.str (Str.ofString "fault") 519] } : Obj)) ::
    (nat_lit 243, ({ cls := Value.type "tuple", data := Data.seq #[] } : Obj)) ::
    (nat_lit 245, ({ cls := Value.type "code", data := Data.fields #[Value.str (Str.ofString "_law_heard") 512, Value.str (Str.ofString "_law_heard") 513, Value.str (Str.ofString "/claim/cut.py") 514, Value.int 190 0, Value.int 4 0, Value.int 0 0, Value.int 0 0, Value.int 3 0, Value.ref 240, Value.bool true, Value.int 181 0, Value.ref 241, Value.none, Value.ref 242, Value.ref 243, Value.ref 244, Value.int 520 0, Value.int 190 0, Value.str (Str.ofString "/claim/cut.py") 521] } : Obj)) ::
    (nat_lit 246, ({ cls := Value.type "function", data := Data.func { name := Str.ofString "_law_heard", qualname := Str.ofString "_law_heard", params := ?A246, body := FuncBody.stmts ?B246, scope := ?S246, globals := 3, closure := [], defaults := Value.none, kwdefaults := Value.none, pyModule := Value.str (Str.ofString "law_pb0006_01") 425, code := Value.ref 245 } } : Obj)) ::
    (nat_lit 247, ({ cls := Value.type "tuple", data := Data.seq #[] } : Obj)) ::
    (nat_lit 250, ({ cls := Value.type "code", data := Data.fields #[Value.str (Str.ofString "_law_alike") 523, Value.str (Str.ofString "_law_alike") 524, Value.str (Str.ofString "/claim/cut.py") 525, Value.int 195 0, Value.int 2 0, Value.int 0 0, Value.int 0 0, Value.int 3 0, Value.ref 247, Value.bool true, Value.int 181 0, Value.ref 248, Value.none, Value.none, Value.none, Value.ref 249, Value.int 526 0, Value.int 195 0, Value.str (Str.ofString "/claim/cut.py") 527] } : Obj)) ::
    (nat_lit 251, ({ cls := Value.type "function", data := Data.func { name := Str.ofString "_law_alike", qualname := Str.ofString "_law_alike", params := ?A251, body := FuncBody.stmts ?B251, scope := ?S251, globals := 3, closure := [], defaults := Value.none, kwdefaults := Value.none, pyModule := Value.str (Str.ofString "law_pb0006_01") 425, code := Value.ref 250 } } : Obj)) ::
    (nat_lit 252, ({ cls := Value.type "tuple", data := Data.seq #[] } : Obj)) ::
    (nat_lit 255, ({ cls := Value.type "code", data := Data.fields #[Value.str (Str.ofString "law") 529, Value.str (Str.ofString "law") 530, Value.str (Str.ofString "/claim/cut.py") 531, Value.int 203 0, Value.int 1 0, Value.int 0 0, Value.int 0 0, Value.int 3 0, Value.ref 252, Value.bool true, Value.int 181 0, Value.ref 253, Value.none, Value.none, Value.none, Value.ref 254, Value.int 532 0, Value.int 203 0, Value.str (Str.ofString "/claim/cut.py") 533] } : Obj)) ::
    (nat_lit 256, ({ cls := Value.type "function", data := Data.func { name := Str.ofString "law", qualname := Str.ofString "law", params := ?A256, body := FuncBody.stmts ?B256, scope := ?S256, globals := 3, closure := [], defaults := Value.none, kwdefaults := Value.none, pyModule := Value.str (Str.ofString "law_pb0006_01") 425, code := Value.ref 255 } } : Obj)) :: [] : List (Nat × Obj))
noncomputable def heapA : List Addr := [2, 3, 15, 22, 24, 25, 27, 28, 29, 30, 31, 32, 35, 42, 44, 45, 47, 48, 49, 50, 51, 61, 63, 64, 66, 67, 68, 69, 70, 71, 72, 82, 84, 85, 87, 88, 89, 90, 91, 92, 93, 96, 99, 100, 101, 104, 105, 106, 108, 109, 111, 112, 113, 116, 117, 118, 121, 122, 123, 125, 126, 128, 129, 130, 132, 133, 135, 136, 137, 139, 140, 142, 143, 144, 146, 147, 149, 150, 151, 153, 154, 156, 157, 158, 161, 162, 163, 166, 167, 168, 171, 172, 173, 175, 176, 178, 179, 180, 183, 184, 185, 187, 188, 190, 191, 192, 194, 195, 197, 198, 199, 202, 203, 204, 207, 208, 209, 212, 213, 214, 217, 218, 219, 221, 222, 224, 225, 226, 228, 229, 231, 232, 233, 235, 236, 238, 239, 240, 242, 243, 245, 246, 247, 250, 251, 252, 255, 256]
abbrev keepV : List Nat := [1, 2, 4, 5, 6, 7, 8, 9, 10, 12, 13, 14, 15, 16, 17, 18, 19, 20, 21, 23, 24, 25, 26, 27, 28, 29, 30, 31, 32, 33, 34, 35, 36]
noncomputable def viewV : Program := by
  refine (?f : keepV.filterMap (fun i => pw.main.body[i]?) = (?s1 :: ?s2 :: ?s4 :: ?s5 :: ?s6 :: ?s7 :: ?s8 :: ?s9 :: ?s10 :: ?s12 :: ?s13 :: ?s14 :: ?s15 :: ?s16 :: ?s17 :: ?s18 :: ?s19 :: ?s20 :: ?s21 :: ?s23 :: ?s24 :: ?s25 :: ?s26 :: ?s27 :: ?s28 :: ?s29 :: ?s30 :: ?s31 :: ?s32 :: ?s33 :: ?s34 :: ?s35 :: ?s36 :: []) → Program) ?e
  rotate_left
  · exact rfl
  intro _
  exact { pw with main := { pw.main with body := ?s1 :: ?s2 :: ?s4 :: ?s5 :: ?s6 :: ?s7 :: ?s8 :: ?s9 :: ?s10 :: ?s12 :: ?s13 :: ?s14 :: ?s15 :: ?s16 :: ?s17 :: ?s18 :: ?s19 :: ?s20 :: ?s21 :: ?s23 :: ?s24 :: ?s25 :: ?s26 :: ?s27 :: ?s28 :: ?s29 :: ?s30 :: ?s31 :: ?s32 :: ?s33 :: ?s34 :: ?s35 :: ?s36 :: [] } }

end
section
set_option maxRecDepth 100000
noncomputable def dG (i : Nat) : Arguments × List Stmt × Scope := (dfn i).getD default
noncomputable def ob11_0 (_ : Params) : Obj := { cls := Value.type "tuple", data := Data.seq #[] }
noncomputable def ob12_0 (_ : Params) : Obj := { cls := Value.none, data := Data.fields #[] }
noncomputable def ob13_0 (_ : Params) : Obj := { cls := Value.type "code", data := Data.fields #[Value.str (Str.ofString "<module>") 182, Value.str (Str.ofString "<module>") 183, Value.str (Str.ofString "/claim/cut.py") 184, Value.int 1 0, Value.int 0 0, Value.int 0 0, Value.int 0 0, Value.int 0 0, Value.ref 11, Value.bool false, Value.int 181 0, Value.ref 12, Value.none, Value.none, Value.none, Value.none, Value.int 185 0, Value.int 1 0, Value.str (Str.ofString "/claim/cut.py") 186] }
noncomputable def ob14_0 (_ : Params) : Obj := { cls := Value.type "frame", slots := #[some (Value.ref 13), some (Value.ref 3), some (Value.ref 3), none, some (Value.str (Str.ofString "__main__") 164), none, some (Value.ref 0)] }
noncomputable def ob2_1 (P : Params) : Obj := { cls := Value.none, data := Data.dict #[{ hash := PyData.keyHash P (Str.ofString "type.__subclasses__.Exception.0"), key := Value.str (Str.ofString "type.__subclasses__.Exception.0") 214, val := Value.int 31 0 }, { hash := PyData.keyHash P (Str.ofString "type.__subclasses__.Exception.n"), key := Value.str (Str.ofString "type.__subclasses__.Exception.n") 215, val := Value.int 1 0 }] 2 }
noncomputable def ob3_1 (P : Params) : Obj := { cls := Value.type "dict", data := Data.dict #[{ hash := PyData.keyHash P (Str.ofString "__name__"), key := Value.str (Str.ofString "__name__") 165, val := Value.str (Str.ofString "adacore.errors") 187 }, { hash := PyData.keyHash P (Str.ofString "__doc__"), key := Value.str (Str.ofString "__doc__") 166, val := Value.none }, { hash := PyData.keyHash P (Str.ofString "__package__"), key := Value.str (Str.ofString "__package__") 167, val := Value.none }, { hash := PyData.keyHash P (Str.ofString "__loader__"), key := Value.str (Str.ofString "__loader__") 168, val := Value.builtin "__main__.__loader__#opaque" }, { hash := PyData.keyHash P (Str.ofString "__spec__"), key := Value.str (Str.ofString "__spec__") 169, val := Value.none }, { hash := PyData.keyHash P (Str.ofString "__annotations__"), key := Value.str (Str.ofString "__annotations__") 170, val := Value.ref 6 }, { hash := PyData.keyHash P (Str.ofString "__builtins__"), key := Value.str (Str.ofString "__builtins__") 171, val := Value.ref 4 }, { hash := PyData.keyHash P (Str.ofString "__file__"), key := Value.str (Str.ofString "__file__") 173, val := Value.str (Str.ofString "/claim/cut.py") 172 }, { hash := PyData.keyHash P (Str.ofString "__cached__"), key := Value.str (Str.ofString "__cached__") 174, val := Value.none }, { hash := PyData.keyHash P (Str.ofString "AdaError"), key := Value.str (Str.ofString "AdaError") 217, val := Value.ref 31 }] 10 }
noncomputable def ob12_1 (_ : Params) : Obj := { cls := Value.none, data := Data.fields #[Value.int 2 0, Value.int 0 0, Value.ref 20] }
noncomputable def ob15_1 (_ : Params) : Obj := { cls := Value.type "tuple", data := Data.seq #[Value.type "Exception"] }
noncomputable def ob16_1 (_ : Params) : Obj := { cls := Value.type "builtin_function_or_method", data := Data.fields #[Value.builtin "type.__prepare__", Value.type "type"] }
noncomputable def ob17_1 (P : Params) : Obj := { cls := Value.type "dict", data := Data.dict #[{ hash := PyData.keyHash P (Str.ofString "__module__"), key := Value.str (Str.ofString "__module__") 196, val := Value.str (Str.ofString "adacore.errors") 187 }, { hash := PyData.keyHash P (Str.ofString "__qualname__"), key := Value.str (Str.ofString "__qualname__") 198, val := Value.str (Str.ofString "AdaError") 197 }, { hash := PyData.keyHash P (Str.ofString "__firstlineno__"), key := Value.str (Str.ofString "__firstlineno__") 200, val := Value.int 2 199 }, { hash := PyData.keyHash P (Str.ofString "__init__"), key := Value.str (Str.ofString "__init__") 208, val := Value.ref 28 }, { hash := PyData.keyHash P (Str.ofString "__static_attributes__"), key := Value.str (Str.ofString "__static_attributes__") 210, val := Value.ref 29 }] 5 }
noncomputable def ob18_1 (_ : Params) : Obj := { cls := Value.type "tuple", data := Data.seq #[] }
noncomputable def ob19_1 (_ : Params) : Obj := { cls := Value.none, data := Data.fields #[Value.int 4 0, Value.int 4 0, Value.ref 27] }
noncomputable def ob20_1 (_ : Params) : Obj := { cls := Value.type "code", data := Data.fields #[Value.str (Str.ofString "AdaError") 191, Value.str (Str.ofString "AdaError") 192, Value.str (Str.ofString "/claim/cut.py") 193, Value.int 2 0, Value.int 0 0, Value.int 0 0, Value.int 0 0, Value.int 0 0, Value.ref 18, Value.bool false, Value.int 181 0, Value.ref 19, Value.none, Value.none, Value.none, Value.none, Value.int 194 0, Value.int 2 0, Value.str (Str.ofString "/claim/cut.py") 195] }
noncomputable def ob21_1 (_ : Params) : Obj := { cls := Value.type "frame", slots := #[some (Value.ref 20), some (Value.ref 3), some (Value.ref 17), none, some (Value.str (Str.ofString "adacore.errors") 187), none, some (Value.ref 0)] }
noncomputable def ob22_1 (_ : Params) : Obj := { cls := Value.type "tuple", data := Data.seq #[] }
noncomputable def ob23_1 (_ : Params) : Obj := { cls := Value.none, data := Data.fields #[] }
noncomputable def ob24_1 (_ : Params) : Obj := { cls := Value.type "tuple", data := Data.seq #[Value.str (Str.ofString "self") 204, Value.str (Str.ofString "text") 205] }
noncomputable def ob25_1 (_ : Params) : Obj := { cls := Value.type "tuple", data := Data.seq #[] }
noncomputable def ob26_1 (_ : Params) : Obj := { cls := Value.none, data := Data.func { name := Str.ofString "__init__", qualname := Str.ofString "AdaError.__init__", params := (dG 1).1, body := FuncBody.stmts (dG 1).2.1, scope := (dG 1).2.2, globals := 0, closure := [], defaults := Value.none, kwdefaults := Value.none } }
noncomputable def ob27_1 (_ : Params) : Obj := { cls := Value.type "code", data := Data.fields #[Value.str (Str.ofString "__init__") 201, Value.str (Str.ofString "AdaError.__init__") 202, Value.str (Str.ofString "/claim/cut.py") 203, Value.int 4 0, Value.int 2 0, Value.int 0 0, Value.int 0 0, Value.int 3 0, Value.ref 22, Value.bool true, Value.int 181 0, Value.ref 23, Value.none, Value.ref 24, Value.ref 25, Value.ref 26, Value.int 206 0, Value.int 4 0, Value.str (Str.ofString "/claim/cut.py") 207] }
noncomputable def ob28_1 (_ : Params) : Obj := { cls := Value.type "function", data := Data.func { name := Str.ofString "__init__", qualname := Str.ofString "AdaError.__init__", params := (dG 1).1, body := FuncBody.stmts (dG 1).2.1, scope := (dG 1).2.2, globals := 3, closure := [], defaults := Value.none, kwdefaults := Value.none, pyModule := Value.str (Str.ofString "adacore.errors") 187, code := Value.ref 27 } }
noncomputable def ob29_1 (_ : Params) : Obj := { cls := Value.type "tuple", data := Data.seq #[Value.str (Str.ofString "text") 209] }
noncomputable def ob30_1 (P : Params) : Obj := { cls := Value.type "dict", data := Data.dict #[{ hash := PyData.keyHash P (Str.ofString "__module__"), key := Value.str (Str.ofString "__module__") 196, val := Value.str (Str.ofString "adacore.errors") 187 }, { hash := PyData.keyHash P (Str.ofString "__firstlineno__"), key := Value.str (Str.ofString "__firstlineno__") 200, val := Value.int 2 199 }, { hash := PyData.keyHash P (Str.ofString "__init__"), key := Value.str (Str.ofString "__init__") 208, val := Value.ref 28 }, { hash := PyData.keyHash P (Str.ofString "__static_attributes__"), key := Value.str (Str.ofString "__static_attributes__") 210, val := Value.ref 29 }, { hash := PyData.keyHash P (Str.ofString "__weakref__"), key := Value.str (Str.ofString "__weakref__") 212, val := Value.ref 32 }, { hash := PyData.keyHash P (Str.ofString "__doc__"), key := Value.str (Str.ofString "__doc__") 213, val := Value.none }] 3 }
noncomputable def ob31_1 (_ : Params) : Obj := { cls := Value.type "type", data := Data.cls { name := Str.ofString "AdaError", bases := [Value.type "Exception"], mro := [Value.ref 31, Value.type "Exception", Value.type "BaseException", Value.type "object"], ns := 30, qualname := Str.ofString "AdaError" }, slots := #[some (Value.ref 15), none, some (Value.str (Str.ofString "AdaError") 189), some (Value.str (Str.ofString "AdaError") 197), some (Value.builtin "Exception.__new__"), some (Value.bool true)] }
noncomputable def ob32_1 (_ : Params) : Obj := { cls := Value.type "getset_descriptor", data := Data.fields #[Value.str (Str.ofString "__weakref__") 211, Value.ref 31, Value.builtin "ExceptionGroup.__weakref__", Value.none] }
noncomputable def ob33_1 (_ : Params) : Obj := { cls := Value.type "super", data := Data.fields #[Value.ref 31, Value.ref 31, Value.ref 31] }
noncomputable def ob34_1 (_ : Params) : Obj := { cls := Value.type "builtin_function_or_method", data := Data.fields #[Value.builtin "object.__init_subclass__", Value.ref 31] }
noncomputable def ob3_2 (P : Params) : Obj := { cls := Value.type "dict", data := Data.dict #[{ hash := PyData.keyHash P (Str.ofString "__name__"), key := Value.str (Str.ofString "__name__") 165, val := Value.str (Str.ofString "adacore.values") 247 }, { hash := PyData.keyHash P (Str.ofString "__doc__"), key := Value.str (Str.ofString "__doc__") 166, val := Value.none }, { hash := PyData.keyHash P (Str.ofString "__package__"), key := Value.str (Str.ofString "__package__") 167, val := Value.none }, { hash := PyData.keyHash P (Str.ofString "__loader__"), key := Value.str (Str.ofString "__loader__") 168, val := Value.builtin "__main__.__loader__#opaque" }, { hash := PyData.keyHash P (Str.ofString "__spec__"), key := Value.str (Str.ofString "__spec__") 169, val := Value.none }, { hash := PyData.keyHash P (Str.ofString "__annotations__"), key := Value.str (Str.ofString "__annotations__") 170, val := Value.ref 6 }, { hash := PyData.keyHash P (Str.ofString "__builtins__"), key := Value.str (Str.ofString "__builtins__") 171, val := Value.ref 4 }, { hash := PyData.keyHash P (Str.ofString "__file__"), key := Value.str (Str.ofString "__file__") 173, val := Value.str (Str.ofString "/claim/cut.py") 172 }, { hash := PyData.keyHash P (Str.ofString "__cached__"), key := Value.str (Str.ofString "__cached__") 174, val := Value.none }, { hash := PyData.keyHash P (Str.ofString "AdaError"), key := Value.str (Str.ofString "AdaError") 217, val := Value.ref 31 }, { hash := PyData.keyHash P (Str.ofString "AdaRaise"), key := Value.str (Str.ofString "AdaRaise") 246, val := Value.ref 51 }] 11 }
noncomputable def ob12_2 (_ : Params) : Obj := { cls := Value.none, data := Data.fields #[Value.int 2 0, Value.int 0 0, Value.ref 20, Value.int 7 0, Value.int 0 0, Value.ref 40] }
noncomputable def ob31_2 (_ : Params) : Obj := { cls := Value.type "type", data := Data.cls { name := Str.ofString "AdaError", bases := [Value.type "Exception"], mro := [Value.ref 31, Value.type "Exception", Value.type "BaseException", Value.type "object"], ns := 30, qualname := Str.ofString "AdaError", subclasses := [Value.ref 51] }, slots := #[some (Value.ref 15), none, some (Value.str (Str.ofString "AdaError") 189), some (Value.str (Str.ofString "AdaError") 197), some (Value.builtin "Exception.__new__"), some (Value.bool true)] }
noncomputable def ob35_2 (_ : Params) : Obj := { cls := Value.type "tuple", data := Data.seq #[Value.ref 31] }
noncomputable def ob36_2 (_ : Params) : Obj := { cls := Value.type "builtin_function_or_method", data := Data.fields #[Value.builtin "type.__prepare__", Value.type "type"] }
noncomputable def ob37_2 (P : Params) : Obj := { cls := Value.type "dict", data := Data.dict #[{ hash := PyData.keyHash P (Str.ofString "__module__"), key := Value.str (Str.ofString "__module__") 225, val := Value.str (Str.ofString "adacore.errors") 187 }, { hash := PyData.keyHash P (Str.ofString "__qualname__"), key := Value.str (Str.ofString "__qualname__") 227, val := Value.str (Str.ofString "AdaRaise") 226 }, { hash := PyData.keyHash P (Str.ofString "__firstlineno__"), key := Value.str (Str.ofString "__firstlineno__") 229, val := Value.int 7 228 }, { hash := PyData.keyHash P (Str.ofString "__init__"), key := Value.str (Str.ofString "__init__") 239, val := Value.ref 48 }, { hash := PyData.keyHash P (Str.ofString "__static_attributes__"), key := Value.str (Str.ofString "__static_attributes__") 243, val := Value.ref 49 }] 5 }
noncomputable def ob38_2 (_ : Params) : Obj := { cls := Value.type "tuple", data := Data.seq #[] }
noncomputable def ob39_2 (_ : Params) : Obj := { cls := Value.none, data := Data.fields #[Value.int 9 0, Value.int 4 0, Value.ref 47] }
noncomputable def ob40_2 (_ : Params) : Obj := { cls := Value.type "code", data := Data.fields #[Value.str (Str.ofString "AdaRaise") 220, Value.str (Str.ofString "AdaRaise") 221, Value.str (Str.ofString "/claim/cut.py") 222, Value.int 7 0, Value.int 0 0, Value.int 0 0, Value.int 0 0, Value.int 0 0, Value.ref 38, Value.bool false, Value.int 181 0, Value.ref 39, Value.none, Value.none, Value.none, Value.none, Value.int 223 0, Value.int 7 0, Value.str (Str.ofString "/claim/cut.py") 224] }
noncomputable def ob41_2 (_ : Params) : Obj := { cls := Value.type "frame", slots := #[some (Value.ref 40), some (Value.ref 3), some (Value.ref 37), none, some (Value.str (Str.ofString "adacore.errors") 187), none, some (Value.ref 0)] }
noncomputable def ob42_2 (_ : Params) : Obj := { cls := Value.type "tuple", data := Data.seq #[] }
noncomputable def ob43_2 (_ : Params) : Obj := { cls := Value.none, data := Data.fields #[] }
noncomputable def ob44_2 (_ : Params) : Obj := { cls := Value.type "tuple", data := Data.seq #[Value.str (Str.ofString "self") 233, Value.str (Str.ofString "name") 234, Value.str (Str.ofString "line") 235, Value.str (Str.ofString "text") 236] }
noncomputable def ob45_2 (_ : Params) : Obj := { cls := Value.type "tuple", data := Data.seq #[] }
noncomputable def ob46_2 (_ : Params) : Obj := { cls := Value.none, data := Data.func { name := Str.ofString "__init__", qualname := Str.ofString "AdaRaise.__init__", params := (dG 2).1, body := FuncBody.stmts (dG 2).2.1, scope := (dG 2).2.2, globals := 0, closure := [], defaults := Value.none, kwdefaults := Value.none } }
noncomputable def ob47_2 (_ : Params) : Obj := { cls := Value.type "code", data := Data.fields #[Value.str (Str.ofString "__init__") 230, Value.str (Str.ofString "AdaRaise.__init__") 231, Value.str (Str.ofString "/claim/cut.py") 232, Value.int 9 0, Value.int 4 0, Value.int 0 0, Value.int 0 0, Value.int 3 0, Value.ref 42, Value.bool true, Value.int 181 0, Value.ref 43, Value.none, Value.ref 44, Value.ref 45, Value.ref 46, Value.int 237 0, Value.int 9 0, Value.str (Str.ofString "/claim/cut.py") 238] }
noncomputable def ob48_2 (_ : Params) : Obj := { cls := Value.type "function", data := Data.func { name := Str.ofString "__init__", qualname := Str.ofString "AdaRaise.__init__", params := (dG 2).1, body := FuncBody.stmts (dG 2).2.1, scope := (dG 2).2.2, globals := 3, closure := [], defaults := Value.none, kwdefaults := Value.none, pyModule := Value.str (Str.ofString "adacore.errors") 187, code := Value.ref 47 } }
noncomputable def ob49_2 (_ : Params) : Obj := { cls := Value.type "tuple", data := Data.seq #[Value.str (Str.ofString "line") 240, Value.str (Str.ofString "name") 241, Value.str (Str.ofString "word") 242] }
noncomputable def ob50_2 (P : Params) : Obj := { cls := Value.type "dict", data := Data.dict #[{ hash := PyData.keyHash P (Str.ofString "__module__"), key := Value.str (Str.ofString "__module__") 225, val := Value.str (Str.ofString "adacore.errors") 187 }, { hash := PyData.keyHash P (Str.ofString "__firstlineno__"), key := Value.str (Str.ofString "__firstlineno__") 229, val := Value.int 7 228 }, { hash := PyData.keyHash P (Str.ofString "__init__"), key := Value.str (Str.ofString "__init__") 239, val := Value.ref 48 }, { hash := PyData.keyHash P (Str.ofString "__static_attributes__"), key := Value.str (Str.ofString "__static_attributes__") 243, val := Value.ref 49 }, { hash := PyData.keyHash P (Str.ofString "__doc__"), key := Value.str (Str.ofString "__doc__") 244, val := Value.none }] 2 }
noncomputable def ob51_2 (_ : Params) : Obj := { cls := Value.type "type", data := Data.cls { name := Str.ofString "AdaRaise", bases := [Value.ref 31], mro := [Value.ref 51, Value.ref 31, Value.type "Exception", Value.type "BaseException", Value.type "object"], ns := 50, qualname := Str.ofString "AdaRaise" }, slots := #[some (Value.ref 35), none, some (Value.str (Str.ofString "AdaRaise") 218), some (Value.str (Str.ofString "AdaRaise") 226), some (Value.builtin "Exception.__new__"), some (Value.bool true)] }
noncomputable def ob52_2 (_ : Params) : Obj := { cls := Value.type "super", data := Data.fields #[Value.ref 51, Value.ref 51, Value.ref 51] }
noncomputable def ob53_2 (_ : Params) : Obj := { cls := Value.type "builtin_function_or_method", data := Data.fields #[Value.builtin "object.__init_subclass__", Value.ref 51] }
noncomputable def ob3_3 (P : Params) : Obj := { cls := Value.type "dict", data := Data.dict #[{ hash := PyData.keyHash P (Str.ofString "__name__"), key := Value.str (Str.ofString "__name__") 165, val := Value.str (Str.ofString "adacore.values") 247 }, { hash := PyData.keyHash P (Str.ofString "__doc__"), key := Value.str (Str.ofString "__doc__") 166, val := Value.none }, { hash := PyData.keyHash P (Str.ofString "__package__"), key := Value.str (Str.ofString "__package__") 167, val := Value.none }, { hash := PyData.keyHash P (Str.ofString "__loader__"), key := Value.str (Str.ofString "__loader__") 168, val := Value.builtin "__main__.__loader__#opaque" }, { hash := PyData.keyHash P (Str.ofString "__spec__"), key := Value.str (Str.ofString "__spec__") 169, val := Value.none }, { hash := PyData.keyHash P (Str.ofString "__annotations__"), key := Value.str (Str.ofString "__annotations__") 170, val := Value.ref 6 }, { hash := PyData.keyHash P (Str.ofString "__builtins__"), key := Value.str (Str.ofString "__builtins__") 171, val := Value.ref 4 }, { hash := PyData.keyHash P (Str.ofString "__file__"), key := Value.str (Str.ofString "__file__") 173, val := Value.str (Str.ofString "/claim/cut.py") 172 }, { hash := PyData.keyHash P (Str.ofString "__cached__"), key := Value.str (Str.ofString "__cached__") 174, val := Value.none }, { hash := PyData.keyHash P (Str.ofString "AdaError"), key := Value.str (Str.ofString "AdaError") 217, val := Value.ref 31 }, { hash := PyData.keyHash P (Str.ofString "AdaRaise"), key := Value.str (Str.ofString "AdaRaise") 246, val := Value.ref 51 }, { hash := PyData.keyHash P (Str.ofString "ArrayValue"), key := Value.str (Str.ofString "ArrayValue") 279, val := Value.ref 70 }] 12 }
noncomputable def ob12_3 (_ : Params) : Obj := { cls := Value.none, data := Data.fields #[Value.int 2 0, Value.int 0 0, Value.ref 20, Value.int 7 0, Value.int 0 0, Value.ref 40, Value.int 15 0, Value.int 0 0, Value.ref 59] }
noncomputable def ob54_3 (_ : Params) : Obj := { cls := Value.type "tuple", data := Data.seq #[] }
noncomputable def ob55_3 (_ : Params) : Obj := { cls := Value.type "builtin_function_or_method", data := Data.fields #[Value.builtin "type.__prepare__", Value.type "type"] }
noncomputable def ob56_3 (P : Params) : Obj := { cls := Value.type "dict", data := Data.dict #[{ hash := PyData.keyHash P (Str.ofString "__module__"), key := Value.str (Str.ofString "__module__") 256, val := Value.str (Str.ofString "adacore.values") 247 }, { hash := PyData.keyHash P (Str.ofString "__qualname__"), key := Value.str (Str.ofString "__qualname__") 258, val := Value.str (Str.ofString "ArrayValue") 257 }, { hash := PyData.keyHash P (Str.ofString "__firstlineno__"), key := Value.str (Str.ofString "__firstlineno__") 260, val := Value.int 15 259 }, { hash := PyData.keyHash P (Str.ofString "__init__"), key := Value.str (Str.ofString "__init__") 269, val := Value.ref 67 }, { hash := PyData.keyHash P (Str.ofString "__static_attributes__"), key := Value.str (Str.ofString "__static_attributes__") 272, val := Value.ref 68 }] 5 }
noncomputable def ob57_3 (_ : Params) : Obj := { cls := Value.type "tuple", data := Data.seq #[] }
noncomputable def ob58_3 (_ : Params) : Obj := { cls := Value.none, data := Data.fields #[Value.int 17 0, Value.int 4 0, Value.ref 66] }
noncomputable def ob59_3 (_ : Params) : Obj := { cls := Value.type "code", data := Data.fields #[Value.str (Str.ofString "ArrayValue") 251, Value.str (Str.ofString "ArrayValue") 252, Value.str (Str.ofString "/claim/cut.py") 253, Value.int 15 0, Value.int 0 0, Value.int 0 0, Value.int 0 0, Value.int 0 0, Value.ref 57, Value.bool false, Value.int 181 0, Value.ref 58, Value.none, Value.none, Value.none, Value.none, Value.int 254 0, Value.int 15 0, Value.str (Str.ofString "/claim/cut.py") 255] }
noncomputable def ob60_3 (_ : Params) : Obj := { cls := Value.type "frame", slots := #[some (Value.ref 59), some (Value.ref 3), some (Value.ref 56), none, some (Value.str (Str.ofString "adacore.values") 247), none, some (Value.ref 0)] }
noncomputable def ob61_3 (_ : Params) : Obj := { cls := Value.type "tuple", data := Data.seq #[] }
noncomputable def ob62_3 (_ : Params) : Obj := { cls := Value.none, data := Data.fields #[] }
noncomputable def ob63_3 (_ : Params) : Obj := { cls := Value.type "tuple", data := Data.seq #[Value.str (Str.ofString "self") 264, Value.str (Str.ofString "bounds") 265, Value.str (Str.ofString "items") 266] }
noncomputable def ob64_3 (_ : Params) : Obj := { cls := Value.type "tuple", data := Data.seq #[] }
noncomputable def ob65_3 (_ : Params) : Obj := { cls := Value.none, data := Data.func { name := Str.ofString "__init__", qualname := Str.ofString "ArrayValue.__init__", params := (dG 4).1, body := FuncBody.stmts (dG 4).2.1, scope := (dG 4).2.2, globals := 0, closure := [], defaults := Value.none, kwdefaults := Value.none } }
noncomputable def ob66_3 (_ : Params) : Obj := { cls := Value.type "code", data := Data.fields #[Value.str (Str.ofString "__init__") 261, Value.str (Str.ofString "ArrayValue.__init__") 262, Value.str (Str.ofString "/claim/cut.py") 263, Value.int 17 0, Value.int 3 0, Value.int 0 0, Value.int 0 0, Value.int 3 0, Value.ref 61, Value.bool true, Value.int 181 0, Value.ref 62, Value.none, Value.ref 63, Value.ref 64, Value.ref 65, Value.int 267 0, Value.int 17 0, Value.str (Str.ofString "/claim/cut.py") 268] }
noncomputable def ob67_3 (_ : Params) : Obj := { cls := Value.type "function", data := Data.func { name := Str.ofString "__init__", qualname := Str.ofString "ArrayValue.__init__", params := (dG 4).1, body := FuncBody.stmts (dG 4).2.1, scope := (dG 4).2.2, globals := 3, closure := [], defaults := Value.none, kwdefaults := Value.none, pyModule := Value.str (Str.ofString "adacore.values") 247, code := Value.ref 66 } }
noncomputable def ob68_3 (_ : Params) : Obj := { cls := Value.type "tuple", data := Data.seq #[Value.str (Str.ofString "bounds") 270, Value.str (Str.ofString "items") 271] }
noncomputable def ob69_3 (P : Params) : Obj := { cls := Value.type "dict", data := Data.dict #[{ hash := PyData.keyHash P (Str.ofString "__module__"), key := Value.str (Str.ofString "__module__") 256, val := Value.str (Str.ofString "adacore.values") 247 }, { hash := PyData.keyHash P (Str.ofString "__firstlineno__"), key := Value.str (Str.ofString "__firstlineno__") 260, val := Value.int 15 259 }, { hash := PyData.keyHash P (Str.ofString "__init__"), key := Value.str (Str.ofString "__init__") 269, val := Value.ref 67 }, { hash := PyData.keyHash P (Str.ofString "__static_attributes__"), key := Value.str (Str.ofString "__static_attributes__") 272, val := Value.ref 68 }, { hash := PyData.keyHash P (Str.ofString "__dict__"), key := Value.str (Str.ofString "__dict__") 274, val := Value.ref 71 }, { hash := PyData.keyHash P (Str.ofString "__weakref__"), key := Value.str (Str.ofString "__weakref__") 276, val := Value.ref 72 }, { hash := PyData.keyHash P (Str.ofString "__doc__"), key := Value.str (Str.ofString "__doc__") 277, val := Value.none }] 4 }
noncomputable def ob70_3 (_ : Params) : Obj := { cls := Value.type "type", data := Data.cls { name := Str.ofString "ArrayValue", bases := [Value.type "object"], mro := [Value.ref 70, Value.type "object"], ns := 69, qualname := Str.ofString "ArrayValue" }, slots := #[none, none, some (Value.str (Str.ofString "ArrayValue") 249), some (Value.str (Str.ofString "ArrayValue") 257), some (Value.builtin "object.__new__"), some (Value.bool true)] }
noncomputable def ob71_3 (_ : Params) : Obj := { cls := Value.type "getset_descriptor", data := Data.fields #[Value.str (Str.ofString "__dict__") 273, Value.ref 70, Value.builtin "function.__dict__", Value.builtin "function.__dict__#set"] }
noncomputable def ob72_3 (_ : Params) : Obj := { cls := Value.type "getset_descriptor", data := Data.fields #[Value.str (Str.ofString "__weakref__") 275, Value.ref 70, Value.builtin "ExceptionGroup.__weakref__", Value.none] }
noncomputable def ob73_3 (_ : Params) : Obj := { cls := Value.type "super", data := Data.fields #[Value.ref 70, Value.ref 70, Value.ref 70] }
noncomputable def ob74_3 (_ : Params) : Obj := { cls := Value.type "builtin_function_or_method", data := Data.fields #[Value.builtin "object.__init_subclass__", Value.ref 70] }
noncomputable def ob3_4 (P : Params) : Obj := { cls := Value.type "dict", data := Data.dict #[{ hash := PyData.keyHash P (Str.ofString "__name__"), key := Value.str (Str.ofString "__name__") 165, val := Value.str (Str.ofString "adacore.values") 247 }, { hash := PyData.keyHash P (Str.ofString "__doc__"), key := Value.str (Str.ofString "__doc__") 166, val := Value.none }, { hash := PyData.keyHash P (Str.ofString "__package__"), key := Value.str (Str.ofString "__package__") 167, val := Value.none }, { hash := PyData.keyHash P (Str.ofString "__loader__"), key := Value.str (Str.ofString "__loader__") 168, val := Value.builtin "__main__.__loader__#opaque" }, { hash := PyData.keyHash P (Str.ofString "__spec__"), key := Value.str (Str.ofString "__spec__") 169, val := Value.none }, { hash := PyData.keyHash P (Str.ofString "__annotations__"), key := Value.str (Str.ofString "__annotations__") 170, val := Value.ref 6 }, { hash := PyData.keyHash P (Str.ofString "__builtins__"), key := Value.str (Str.ofString "__builtins__") 171, val := Value.ref 4 }, { hash := PyData.keyHash P (Str.ofString "__file__"), key := Value.str (Str.ofString "__file__") 173, val := Value.str (Str.ofString "/claim/cut.py") 172 }, { hash := PyData.keyHash P (Str.ofString "__cached__"), key := Value.str (Str.ofString "__cached__") 174, val := Value.none }, { hash := PyData.keyHash P (Str.ofString "AdaError"), key := Value.str (Str.ofString "AdaError") 217, val := Value.ref 31 }, { hash := PyData.keyHash P (Str.ofString "AdaRaise"), key := Value.str (Str.ofString "AdaRaise") 246, val := Value.ref 51 }, { hash := PyData.keyHash P (Str.ofString "ArrayValue"), key := Value.str (Str.ofString "ArrayValue") 279, val := Value.ref 70 }, { hash := PyData.keyHash P (Str.ofString "RecordValue"), key := Value.str (Str.ofString "RecordValue") 310, val := Value.ref 91 }, { hash := PyData.keyHash P (Str.ofString "copy_value"), key := Value.str (Str.ofString "copy_value") 316, val := Value.ref 100 }] 14 }
noncomputable def ob12_4 (_ : Params) : Obj := { cls := Value.none, data := Data.fields #[Value.int 2 0, Value.int 0 0, Value.ref 20, Value.int 7 0, Value.int 0 0, Value.ref 40, Value.int 15 0, Value.int 0 0, Value.ref 59, Value.int 20 0, Value.int 0 0, Value.ref 80, Value.int 25 0, Value.int 0 0, Value.ref 99] }
noncomputable def ob75_4 (_ : Params) : Obj := { cls := Value.type "tuple", data := Data.seq #[] }
noncomputable def ob76_4 (_ : Params) : Obj := { cls := Value.type "builtin_function_or_method", data := Data.fields #[Value.builtin "type.__prepare__", Value.type "type"] }
noncomputable def ob77_4 (P : Params) : Obj := { cls := Value.type "dict", data := Data.dict #[{ hash := PyData.keyHash P (Str.ofString "__module__"), key := Value.str (Str.ofString "__module__") 287, val := Value.str (Str.ofString "adacore.values") 247 }, { hash := PyData.keyHash P (Str.ofString "__qualname__"), key := Value.str (Str.ofString "__qualname__") 289, val := Value.str (Str.ofString "RecordValue") 288 }, { hash := PyData.keyHash P (Str.ofString "__firstlineno__"), key := Value.str (Str.ofString "__firstlineno__") 291, val := Value.int 20 290 }, { hash := PyData.keyHash P (Str.ofString "__init__"), key := Value.str (Str.ofString "__init__") 300, val := Value.ref 88 }, { hash := PyData.keyHash P (Str.ofString "__static_attributes__"), key := Value.str (Str.ofString "__static_attributes__") 303, val := Value.ref 89 }] 5 }
noncomputable def ob78_4 (_ : Params) : Obj := { cls := Value.type "tuple", data := Data.seq #[] }
noncomputable def ob79_4 (_ : Params) : Obj := { cls := Value.none, data := Data.fields #[Value.int 22 0, Value.int 4 0, Value.ref 87] }
noncomputable def ob80_4 (_ : Params) : Obj := { cls := Value.type "code", data := Data.fields #[Value.str (Str.ofString "RecordValue") 282, Value.str (Str.ofString "RecordValue") 283, Value.str (Str.ofString "/claim/cut.py") 284, Value.int 20 0, Value.int 0 0, Value.int 0 0, Value.int 0 0, Value.int 0 0, Value.ref 78, Value.bool false, Value.int 181 0, Value.ref 79, Value.none, Value.none, Value.none, Value.none, Value.int 285 0, Value.int 20 0, Value.str (Str.ofString "/claim/cut.py") 286] }
noncomputable def ob81_4 (_ : Params) : Obj := { cls := Value.type "frame", slots := #[some (Value.ref 80), some (Value.ref 3), some (Value.ref 77), none, some (Value.str (Str.ofString "adacore.values") 247), none, some (Value.ref 0)] }
noncomputable def ob82_4 (_ : Params) : Obj := { cls := Value.type "tuple", data := Data.seq #[] }
noncomputable def ob83_4 (_ : Params) : Obj := { cls := Value.none, data := Data.fields #[] }
noncomputable def ob84_4 (_ : Params) : Obj := { cls := Value.type "tuple", data := Data.seq #[Value.str (Str.ofString "self") 295, Value.str (Str.ofString "t") 296, Value.str (Str.ofString "fields") 297] }
noncomputable def ob85_4 (_ : Params) : Obj := { cls := Value.type "tuple", data := Data.seq #[] }
noncomputable def ob86_4 (_ : Params) : Obj := { cls := Value.none, data := Data.func { name := Str.ofString "__init__", qualname := Str.ofString "RecordValue.__init__", params := (dG 5).1, body := FuncBody.stmts (dG 5).2.1, scope := (dG 5).2.2, globals := 0, closure := [], defaults := Value.none, kwdefaults := Value.none } }
noncomputable def ob87_4 (_ : Params) : Obj := { cls := Value.type "code", data := Data.fields #[Value.str (Str.ofString "__init__") 292, Value.str (Str.ofString "RecordValue.__init__") 293, Value.str (Str.ofString "/claim/cut.py") 294, Value.int 22 0, Value.int 3 0, Value.int 0 0, Value.int 0 0, Value.int 3 0, Value.ref 82, Value.bool true, Value.int 181 0, Value.ref 83, Value.none, Value.ref 84, Value.ref 85, Value.ref 86, Value.int 298 0, Value.int 22 0, Value.str (Str.ofString "/claim/cut.py") 299] }
noncomputable def ob88_4 (_ : Params) : Obj := { cls := Value.type "function", data := Data.func { name := Str.ofString "__init__", qualname := Str.ofString "RecordValue.__init__", params := (dG 5).1, body := FuncBody.stmts (dG 5).2.1, scope := (dG 5).2.2, globals := 3, closure := [], defaults := Value.none, kwdefaults := Value.none, pyModule := Value.str (Str.ofString "adacore.values") 247, code := Value.ref 87 } }
noncomputable def ob89_4 (_ : Params) : Obj := { cls := Value.type "tuple", data := Data.seq #[Value.str (Str.ofString "fields") 301, Value.str (Str.ofString "type") 302] }
noncomputable def ob90_4 (P : Params) : Obj := { cls := Value.type "dict", data := Data.dict #[{ hash := PyData.keyHash P (Str.ofString "__module__"), key := Value.str (Str.ofString "__module__") 287, val := Value.str (Str.ofString "adacore.values") 247 }, { hash := PyData.keyHash P (Str.ofString "__firstlineno__"), key := Value.str (Str.ofString "__firstlineno__") 291, val := Value.int 20 290 }, { hash := PyData.keyHash P (Str.ofString "__init__"), key := Value.str (Str.ofString "__init__") 300, val := Value.ref 88 }, { hash := PyData.keyHash P (Str.ofString "__static_attributes__"), key := Value.str (Str.ofString "__static_attributes__") 303, val := Value.ref 89 }, { hash := PyData.keyHash P (Str.ofString "__dict__"), key := Value.str (Str.ofString "__dict__") 305, val := Value.ref 92 }, { hash := PyData.keyHash P (Str.ofString "__weakref__"), key := Value.str (Str.ofString "__weakref__") 307, val := Value.ref 93 }, { hash := PyData.keyHash P (Str.ofString "__doc__"), key := Value.str (Str.ofString "__doc__") 308, val := Value.none }] 4 }
noncomputable def ob91_4 (_ : Params) : Obj := { cls := Value.type "type", data := Data.cls { name := Str.ofString "RecordValue", bases := [Value.type "object"], mro := [Value.ref 91, Value.type "object"], ns := 90, qualname := Str.ofString "RecordValue" }, slots := #[none, none, some (Value.str (Str.ofString "RecordValue") 280), some (Value.str (Str.ofString "RecordValue") 288), some (Value.builtin "object.__new__"), some (Value.bool true)] }
noncomputable def ob92_4 (_ : Params) : Obj := { cls := Value.type "getset_descriptor", data := Data.fields #[Value.str (Str.ofString "__dict__") 304, Value.ref 91, Value.builtin "function.__dict__", Value.builtin "function.__dict__#set"] }
noncomputable def ob93_4 (_ : Params) : Obj := { cls := Value.type "getset_descriptor", data := Data.fields #[Value.str (Str.ofString "__weakref__") 306, Value.ref 91, Value.builtin "ExceptionGroup.__weakref__", Value.none] }
noncomputable def ob94_4 (_ : Params) : Obj := { cls := Value.type "super", data := Data.fields #[Value.ref 91, Value.ref 91, Value.ref 91] }
noncomputable def ob95_4 (_ : Params) : Obj := { cls := Value.type "builtin_function_or_method", data := Data.fields #[Value.builtin "object.__init_subclass__", Value.ref 91] }
noncomputable def ob96_4 (_ : Params) : Obj := { cls := Value.type "tuple", data := Data.seq #[] }
noncomputable def ob97_4 (_ : Params) : Obj := { cls := Value.none, data := Data.fields #[] }
noncomputable def ob98_4 (_ : Params) : Obj := { cls := Value.none, data := Data.func { name := Str.ofString "copy_value", qualname := Str.ofString "copy_value", params := (dG 6).1, body := FuncBody.stmts (dG 6).2.1, scope := (dG 6).2.2, globals := 0, closure := [], defaults := Value.none, kwdefaults := Value.none } }
noncomputable def ob99_4 (_ : Params) : Obj := { cls := Value.type "code", data := Data.fields #[Value.str (Str.ofString "copy_value") 311, Value.str (Str.ofString "copy_value") 312, Value.str (Str.ofString "/claim/cut.py") 313, Value.int 25 0, Value.int 1 0, Value.int 0 0, Value.int 0 0, Value.int 3 0, Value.ref 96, Value.bool true, Value.int 181 0, Value.ref 97, Value.none, Value.none, Value.none, Value.ref 98, Value.int 314 0, Value.int 25 0, Value.str (Str.ofString "/claim/cut.py") 315] }
noncomputable def ob100_4 (_ : Params) : Obj := { cls := Value.type "function", data := Data.func { name := Str.ofString "copy_value", qualname := Str.ofString "copy_value", params := (dG 6).1, body := FuncBody.stmts (dG 6).2.1, scope := (dG 6).2.2, globals := 3, closure := [], defaults := Value.none, kwdefaults := Value.none, pyModule := Value.str (Str.ofString "adacore.values") 247, code := Value.ref 99 } }
noncomputable def ob3_5 (P : Params) : Obj := { cls := Value.type "dict", data := Data.dict #[{ hash := PyData.keyHash P (Str.ofString "__name__"), key := Value.str (Str.ofString "__name__") 165, val := Value.str (Str.ofString "adacore.arrays") 345 }, { hash := PyData.keyHash P (Str.ofString "__doc__"), key := Value.str (Str.ofString "__doc__") 166, val := Value.none }, { hash := PyData.keyHash P (Str.ofString "__package__"), key := Value.str (Str.ofString "__package__") 167, val := Value.none }, { hash := PyData.keyHash P (Str.ofString "__loader__"), key := Value.str (Str.ofString "__loader__") 168, val := Value.builtin "__main__.__loader__#opaque" }, { hash := PyData.keyHash P (Str.ofString "__spec__"), key := Value.str (Str.ofString "__spec__") 169, val := Value.none }, { hash := PyData.keyHash P (Str.ofString "__annotations__"), key := Value.str (Str.ofString "__annotations__") 170, val := Value.ref 6 }, { hash := PyData.keyHash P (Str.ofString "__builtins__"), key := Value.str (Str.ofString "__builtins__") 171, val := Value.ref 4 }, { hash := PyData.keyHash P (Str.ofString "__file__"), key := Value.str (Str.ofString "__file__") 173, val := Value.str (Str.ofString "/claim/cut.py") 172 }, { hash := PyData.keyHash P (Str.ofString "__cached__"), key := Value.str (Str.ofString "__cached__") 174, val := Value.none }, { hash := PyData.keyHash P (Str.ofString "AdaError"), key := Value.str (Str.ofString "AdaError") 217, val := Value.ref 31 }, { hash := PyData.keyHash P (Str.ofString "AdaRaise"), key := Value.str (Str.ofString "AdaRaise") 246, val := Value.ref 51 }, { hash := PyData.keyHash P (Str.ofString "ArrayValue"), key := Value.str (Str.ofString "ArrayValue") 279, val := Value.ref 70 }, { hash := PyData.keyHash P (Str.ofString "RecordValue"), key := Value.str (Str.ofString "RecordValue") 310, val := Value.ref 91 }, { hash := PyData.keyHash P (Str.ofString "copy_value"), key := Value.str (Str.ofString "copy_value") 316, val := Value.ref 100 }, { hash := PyData.keyHash P (Str.ofString "lengths_of"), key := Value.str (Str.ofString "lengths_of") 322, val := Value.ref 105 }, { hash := PyData.keyHash P (Str.ofString "slice_items"), key := Value.str (Str.ofString "slice_items") 332, val := Value.ref 112 }, { hash := PyData.keyHash P (Str.ofString "read_place"), key := Value.str (Str.ofString "read_place") 338, val := Value.ref 117 }, { hash := PyData.keyHash P (Str.ofString "write_place"), key := Value.str (Str.ofString "write_place") 344, val := Value.ref 122 }, { hash := PyData.keyHash P (Str.ofString "raise_constraint"), key := Value.str (Str.ofString "raise_constraint") 353, val := Value.ref 129 }, { hash := PyData.keyHash P (Str.ofString "dim_length"), key := Value.str (Str.ofString "dim_length") 361, val := Value.ref 136 }, { hash := PyData.keyHash P (Str.ofString "item_offset"), key := Value.str (Str.ofString "item_offset") 373, val := Value.ref 143 }, { hash := PyData.keyHash P (Str.ofString "get_item"), key := Value.str (Str.ofString "get_item") 381, val := Value.ref 150 }] 22 }
noncomputable def ob12_5 (_ : Params) : Obj := { cls := Value.none, data := Data.fields (List.toArray (Value.int 2 0 :: Value.int 0 0 :: Value.ref 20 :: Value.int 7 0 :: Value.int 0 0 :: Value.ref 40 :: Value.int 15 0 :: Value.int 0 0 :: Value.ref 59 :: Value.int 20 0 :: Value.int 0 0 :: Value.ref 80 :: Value.int 25 0 :: Value.int 0 0 :: Value.ref 99 :: Value.int 34 0 :: Value.int 0 0 :: Value.ref 104 :: Value.int 36 0 :: Value.int 0 0 :: Value.ref 111 :: Value.int 40 0 :: Value.int 0 0 :: Value.ref 116 :: Value.int 51 0 :: Value.int 0 0 :: Value.ref 121 :: Value.int 66 0 :: Value.int 0 0 :: Value.ref 128 :: Value.int 68 0 :: Value.int 0 0 :: Value.ref 135 :: Value.int 70 0 :: Value.int 0 0 :: Value.ref 142 :: Value.int 78 0 :: Value.int 0 0 :: Value.ref 149 :: [])) }
noncomputable def ob101_5 (_ : Params) : Obj := { cls := Value.type "tuple", data := Data.seq #[] }
noncomputable def ob102_5 (_ : Params) : Obj := { cls := Value.none, data := Data.fields #[] }
noncomputable def ob103_5 (_ : Params) : Obj := { cls := Value.none, data := Data.func { name := Str.ofString "lengths_of", qualname := Str.ofString "lengths_of", params := (dG 7).1, body := FuncBody.stmts (dG 7).2.1, scope := (dG 7).2.2, globals := 0, closure := [], defaults := Value.none, kwdefaults := Value.none } }
noncomputable def ob104_5 (_ : Params) : Obj := { cls := Value.type "code", data := Data.fields #[Value.str (Str.ofString "lengths_of") 317, Value.str (Str.ofString "lengths_of") 318, Value.str (Str.ofString "/claim/cut.py") 319, Value.int 34 0, Value.int 1 0, Value.int 0 0, Value.int 0 0, Value.int 3 0, Value.ref 101, Value.bool true, Value.int 181 0, Value.ref 102, Value.none, Value.none, Value.none, Value.ref 103, Value.int 320 0, Value.int 34 0, Value.str (Str.ofString "/claim/cut.py") 321] }
noncomputable def ob105_5 (_ : Params) : Obj := { cls := Value.type "function", data := Data.func { name := Str.ofString "lengths_of", qualname := Str.ofString "lengths_of", params := (dG 7).1, body := FuncBody.stmts (dG 7).2.1, scope := (dG 7).2.2, globals := 3, closure := [], defaults := Value.none, kwdefaults := Value.none, pyModule := Value.str (Str.ofString "adacore.values") 247, code := Value.ref 104 } }
noncomputable def ob106_5 (_ : Params) : Obj := { cls := Value.type "tuple", data := Data.seq #[] }
noncomputable def ob107_5 (_ : Params) : Obj := { cls := Value.none, data := Data.fields #[] }
noncomputable def ob108_5 (_ : Params) : Obj := { cls := Value.type "tuple", data := Data.seq #[Value.str (Str.ofString "place") 326, Value.str (Str.ofString "low") 327, Value.str (Str.ofString "high") 328, Value.str (Str.ofString "count") 329] }
noncomputable def ob109_5 (_ : Params) : Obj := { cls := Value.type "tuple", data := Data.seq #[] }
noncomputable def ob110_5 (_ : Params) : Obj := { cls := Value.none, data := Data.func { name := Str.ofString "slice_items", qualname := Str.ofString "slice_items", params := (dG 8).1, body := FuncBody.stmts (dG 8).2.1, scope := (dG 8).2.2, globals := 0, closure := [], defaults := Value.none, kwdefaults := Value.none } }
noncomputable def ob111_5 (_ : Params) : Obj := { cls := Value.type "code", data := Data.fields #[Value.str (Str.ofString "slice_items") 323, Value.str (Str.ofString "slice_items") 324, Value.str (Str.ofString "/claim/cut.py") 325, Value.int 36 0, Value.int 1 0, Value.int 0 0, Value.int 0 0, Value.int 3 0, Value.ref 106, Value.bool true, Value.int 181 0, Value.ref 107, Value.none, Value.ref 108, Value.ref 109, Value.ref 110, Value.int 330 0, Value.int 36 0, Value.str (Str.ofString "/claim/cut.py") 331] }
noncomputable def ob112_5 (_ : Params) : Obj := { cls := Value.type "function", data := Data.func { name := Str.ofString "slice_items", qualname := Str.ofString "slice_items", params := (dG 8).1, body := FuncBody.stmts (dG 8).2.1, scope := (dG 8).2.2, globals := 3, closure := [], defaults := Value.none, kwdefaults := Value.none, pyModule := Value.str (Str.ofString "adacore.values") 247, code := Value.ref 111 } }
noncomputable def ob113_5 (_ : Params) : Obj := { cls := Value.type "tuple", data := Data.seq #[] }
noncomputable def ob114_5 (_ : Params) : Obj := { cls := Value.none, data := Data.fields #[] }
noncomputable def ob115_5 (_ : Params) : Obj := { cls := Value.none, data := Data.func { name := Str.ofString "read_place", qualname := Str.ofString "read_place", params := (dG 9).1, body := FuncBody.stmts (dG 9).2.1, scope := (dG 9).2.2, globals := 0, closure := [], defaults := Value.none, kwdefaults := Value.none } }
noncomputable def ob116_5 (_ : Params) : Obj := { cls := Value.type "code", data := Data.fields #[Value.str (Str.ofString "read_place") 333, Value.str (Str.ofString "read_place") 334, Value.str (Str.ofString "/claim/cut.py") 335, Value.int 40 0, Value.int 1 0, Value.int 0 0, Value.int 0 0, Value.int 3 0, Value.ref 113, Value.bool true, Value.int 181 0, Value.ref 114, Value.none, Value.none, Value.none, Value.ref 115, Value.int 336 0, Value.int 40 0, Value.str (Str.ofString "/claim/cut.py") 337] }
noncomputable def ob117_5 (_ : Params) : Obj := { cls := Value.type "function", data := Data.func { name := Str.ofString "read_place", qualname := Str.ofString "read_place", params := (dG 9).1, body := FuncBody.stmts (dG 9).2.1, scope := (dG 9).2.2, globals := 3, closure := [], defaults := Value.none, kwdefaults := Value.none, pyModule := Value.str (Str.ofString "adacore.values") 247, code := Value.ref 116 } }
noncomputable def ob118_5 (_ : Params) : Obj := { cls := Value.type "tuple", data := Data.seq #[] }
noncomputable def ob119_5 (_ : Params) : Obj := { cls := Value.none, data := Data.fields #[] }
noncomputable def ob120_5 (_ : Params) : Obj := { cls := Value.none, data := Data.func { name := Str.ofString "write_place", qualname := Str.ofString "write_place", params := (dG 10).1, body := FuncBody.stmts (dG 10).2.1, scope := (dG 10).2.2, globals := 0, closure := [], defaults := Value.none, kwdefaults := Value.none } }
noncomputable def ob121_5 (_ : Params) : Obj := { cls := Value.type "code", data := Data.fields #[Value.str (Str.ofString "write_place") 339, Value.str (Str.ofString "write_place") 340, Value.str (Str.ofString "/claim/cut.py") 341, Value.int 51 0, Value.int 2 0, Value.int 0 0, Value.int 0 0, Value.int 3 0, Value.ref 118, Value.bool true, Value.int 181 0, Value.ref 119, Value.none, Value.none, Value.none, Value.ref 120, Value.int 342 0, Value.int 51 0, Value.str (Str.ofString "/claim/cut.py") 343] }
noncomputable def ob122_5 (_ : Params) : Obj := { cls := Value.type "function", data := Data.func { name := Str.ofString "write_place", qualname := Str.ofString "write_place", params := (dG 10).1, body := FuncBody.stmts (dG 10).2.1, scope := (dG 10).2.2, globals := 3, closure := [], defaults := Value.none, kwdefaults := Value.none, pyModule := Value.str (Str.ofString "adacore.values") 247, code := Value.ref 121 } }
noncomputable def ob123_5 (_ : Params) : Obj := { cls := Value.type "tuple", data := Data.seq #[] }
noncomputable def ob124_5 (_ : Params) : Obj := { cls := Value.none, data := Data.fields #[] }
noncomputable def ob125_5 (_ : Params) : Obj := { cls := Value.type "tuple", data := Data.seq #[Value.str (Str.ofString "text") 350] }
noncomputable def ob126_5 (_ : Params) : Obj := { cls := Value.type "tuple", data := Data.seq #[] }
noncomputable def ob127_5 (_ : Params) : Obj := { cls := Value.none, data := Data.func { name := Str.ofString "raise_constraint", qualname := Str.ofString "raise_constraint", params := (dG 12).1, body := FuncBody.stmts (dG 12).2.1, scope := (dG 12).2.2, globals := 0, closure := [], defaults := Value.none, kwdefaults := Value.none } }
noncomputable def ob128_5 (_ : Params) : Obj := { cls := Value.type "code", data := Data.fields #[Value.str (Str.ofString "raise_constraint") 347, Value.str (Str.ofString "raise_constraint") 348, Value.str (Str.ofString "/claim/cut.py") 349, Value.int 66 0, Value.int 1 0, Value.int 0 0, Value.int 0 0, Value.int 3 0, Value.ref 123, Value.bool true, Value.int 181 0, Value.ref 124, Value.none, Value.ref 125, Value.ref 126, Value.ref 127, Value.int 351 0, Value.int 66 0, Value.str (Str.ofString "/claim/cut.py") 352] }
noncomputable def ob129_5 (_ : Params) : Obj := { cls := Value.type "function", data := Data.func { name := Str.ofString "raise_constraint", qualname := Str.ofString "raise_constraint", params := (dG 12).1, body := FuncBody.stmts (dG 12).2.1, scope := (dG 12).2.2, globals := 3, closure := [], defaults := Value.none, kwdefaults := Value.none, pyModule := Value.str (Str.ofString "adacore.arrays") 345, code := Value.ref 128 } }
noncomputable def ob130_5 (_ : Params) : Obj := { cls := Value.type "tuple", data := Data.seq #[] }
noncomputable def ob131_5 (_ : Params) : Obj := { cls := Value.none, data := Data.fields #[] }
noncomputable def ob132_5 (_ : Params) : Obj := { cls := Value.type "tuple", data := Data.seq #[Value.str (Str.ofString "low") 357, Value.str (Str.ofString "high") 358] }
noncomputable def ob133_5 (_ : Params) : Obj := { cls := Value.type "tuple", data := Data.seq #[] }
noncomputable def ob134_5 (_ : Params) : Obj := { cls := Value.none, data := Data.func { name := Str.ofString "dim_length", qualname := Str.ofString "dim_length", params := (dG 13).1, body := FuncBody.stmts (dG 13).2.1, scope := (dG 13).2.2, globals := 0, closure := [], defaults := Value.none, kwdefaults := Value.none } }
noncomputable def ob135_5 (_ : Params) : Obj := { cls := Value.type "code", data := Data.fields #[Value.str (Str.ofString "dim_length") 354, Value.str (Str.ofString "dim_length") 355, Value.str (Str.ofString "/claim/cut.py") 356, Value.int 68 0, Value.int 2 0, Value.int 0 0, Value.int 0 0, Value.int 3 0, Value.ref 130, Value.bool true, Value.int 181 0, Value.ref 131, Value.none, Value.ref 132, Value.ref 133, Value.ref 134, Value.int 359 0, Value.int 68 0, Value.str (Str.ofString "/claim/cut.py") 360] }
noncomputable def ob136_5 (_ : Params) : Obj := { cls := Value.type "function", data := Data.func { name := Str.ofString "dim_length", qualname := Str.ofString "dim_length", params := (dG 13).1, body := FuncBody.stmts (dG 13).2.1, scope := (dG 13).2.2, globals := 3, closure := [], defaults := Value.none, kwdefaults := Value.none, pyModule := Value.str (Str.ofString "adacore.arrays") 345, code := Value.ref 135 } }
noncomputable def ob137_5 (_ : Params) : Obj := { cls := Value.type "tuple", data := Data.seq #[] }
noncomputable def ob138_5 (_ : Params) : Obj := { cls := Value.none, data := Data.fields #[] }
noncomputable def ob139_5 (_ : Params) : Obj := { cls := Value.type "tuple", data := Data.seq #[Value.str (Str.ofString "value") 365, Value.str (Str.ofString "indexes") 366, Value.str (Str.ofString "offset") 367, Value.str (Str.ofString "place") 368, Value.str (Str.ofString "low") 369, Value.str (Str.ofString "high") 370] }
noncomputable def ob140_5 (_ : Params) : Obj := { cls := Value.type "tuple", data := Data.seq #[] }
noncomputable def ob141_5 (_ : Params) : Obj := { cls := Value.none, data := Data.func { name := Str.ofString "item_offset", qualname := Str.ofString "item_offset", params := (dG 14).1, body := FuncBody.stmts (dG 14).2.1, scope := (dG 14).2.2, globals := 0, closure := [], defaults := Value.none, kwdefaults := Value.none } }
noncomputable def ob142_5 (_ : Params) : Obj := { cls := Value.type "code", data := Data.fields #[Value.str (Str.ofString "item_offset") 362, Value.str (Str.ofString "item_offset") 363, Value.str (Str.ofString "/claim/cut.py") 364, Value.int 70 0, Value.int 2 0, Value.int 0 0, Value.int 0 0, Value.int 3 0, Value.ref 137, Value.bool true, Value.int 181 0, Value.ref 138, Value.none, Value.ref 139, Value.ref 140, Value.ref 141, Value.int 371 0, Value.int 70 0, Value.str (Str.ofString "/claim/cut.py") 372] }
noncomputable def ob143_5 (_ : Params) : Obj := { cls := Value.type "function", data := Data.func { name := Str.ofString "item_offset", qualname := Str.ofString "item_offset", params := (dG 14).1, body := FuncBody.stmts (dG 14).2.1, scope := (dG 14).2.2, globals := 3, closure := [], defaults := Value.none, kwdefaults := Value.none, pyModule := Value.str (Str.ofString "adacore.arrays") 345, code := Value.ref 142 } }
noncomputable def ob144_5 (_ : Params) : Obj := { cls := Value.type "tuple", data := Data.seq #[] }
noncomputable def ob145_5 (_ : Params) : Obj := { cls := Value.none, data := Data.fields #[] }
noncomputable def ob146_5 (_ : Params) : Obj := { cls := Value.type "tuple", data := Data.seq #[Value.str (Str.ofString "value") 377, Value.str (Str.ofString "indexes") 378] }
noncomputable def ob147_5 (_ : Params) : Obj := { cls := Value.type "tuple", data := Data.seq #[] }
noncomputable def ob148_5 (_ : Params) : Obj := { cls := Value.none, data := Data.func { name := Str.ofString "get_item", qualname := Str.ofString "get_item", params := (dG 15).1, body := FuncBody.stmts (dG 15).2.1, scope := (dG 15).2.2, globals := 0, closure := [], defaults := Value.none, kwdefaults := Value.none } }
noncomputable def ob149_5 (_ : Params) : Obj := { cls := Value.type "code", data := Data.fields #[Value.str (Str.ofString "get_item") 374, Value.str (Str.ofString "get_item") 375, Value.str (Str.ofString "/claim/cut.py") 376, Value.int 78 0, Value.int 2 0, Value.int 0 0, Value.int 0 0, Value.int 3 0, Value.ref 144, Value.bool true, Value.int 181 0, Value.ref 145, Value.none, Value.ref 146, Value.ref 147, Value.ref 148, Value.int 379 0, Value.int 78 0, Value.str (Str.ofString "/claim/cut.py") 380] }
noncomputable def ob150_5 (_ : Params) : Obj := { cls := Value.type "function", data := Data.func { name := Str.ofString "get_item", qualname := Str.ofString "get_item", params := (dG 15).1, body := FuncBody.stmts (dG 15).2.1, scope := (dG 15).2.2, globals := 3, closure := [], defaults := Value.none, kwdefaults := Value.none, pyModule := Value.str (Str.ofString "adacore.arrays") 345, code := Value.ref 149 } }
noncomputable def ob3_6 (P : Params) : Obj := { cls := Value.type "dict", data := Data.dict (List.toArray ({ hash := PyData.keyHash P (Str.ofString "__name__"), key := Value.str (Str.ofString "__name__") 165, val := Value.str (Str.ofString "law_pb0006_01") 425 } :: { hash := PyData.keyHash P (Str.ofString "__doc__"), key := Value.str (Str.ofString "__doc__") 166, val := Value.none } :: { hash := PyData.keyHash P (Str.ofString "__package__"), key := Value.str (Str.ofString "__package__") 167, val := Value.none } :: { hash := PyData.keyHash P (Str.ofString "__loader__"), key := Value.str (Str.ofString "__loader__") 168, val := Value.builtin "__main__.__loader__#opaque" } :: { hash := PyData.keyHash P (Str.ofString "__spec__"), key := Value.str (Str.ofString "__spec__") 169, val := Value.none } :: { hash := PyData.keyHash P (Str.ofString "__annotations__"), key := Value.str (Str.ofString "__annotations__") 170, val := Value.ref 6 } :: { hash := PyData.keyHash P (Str.ofString "__builtins__"), key := Value.str (Str.ofString "__builtins__") 171, val := Value.ref 4 } :: { hash := PyData.keyHash P (Str.ofString "__file__"), key := Value.str (Str.ofString "__file__") 173, val := Value.str (Str.ofString "/claim/cut.py") 172 } :: { hash := PyData.keyHash P (Str.ofString "__cached__"), key := Value.str (Str.ofString "__cached__") 174, val := Value.none } :: { hash := PyData.keyHash P (Str.ofString "AdaError"), key := Value.str (Str.ofString "AdaError") 217, val := Value.ref 31 } :: { hash := PyData.keyHash P (Str.ofString "AdaRaise"), key := Value.str (Str.ofString "AdaRaise") 246, val := Value.ref 51 } :: { hash := PyData.keyHash P (Str.ofString "ArrayValue"), key := Value.str (Str.ofString "ArrayValue") 279, val := Value.ref 70 } :: { hash := PyData.keyHash P (Str.ofString "RecordValue"), key := Value.str (Str.ofString "RecordValue") 310, val := Value.ref 91 } :: { hash := PyData.keyHash P (Str.ofString "copy_value"), key := Value.str (Str.ofString "copy_value") 316, val := Value.ref 100 } :: { hash := PyData.keyHash P (Str.ofString "lengths_of"), key := Value.str (Str.ofString "lengths_of") 322, val := Value.ref 105 } :: { hash := PyData.keyHash P (Str.ofString "slice_items"), key := Value.str (Str.ofString "slice_items") 332, val := Value.ref 112 } :: { hash := PyData.keyHash P (Str.ofString "read_place"), key := Value.str (Str.ofString "read_place") 338, val := Value.ref 117 } :: { hash := PyData.keyHash P (Str.ofString "write_place"), key := Value.str (Str.ofString "write_place") 344, val := Value.ref 122 } :: { hash := PyData.keyHash P (Str.ofString "raise_constraint"), key := Value.str (Str.ofString "raise_constraint") 353, val := Value.ref 129 } :: { hash := PyData.keyHash P (Str.ofString "dim_length"), key := Value.str (Str.ofString "dim_length") 361, val := Value.ref 136 } :: { hash := PyData.keyHash P (Str.ofString "item_offset"), key := Value.str (Str.ofString "item_offset") 373, val := Value.ref 143 } :: { hash := PyData.keyHash P (Str.ofString "get_item"), key := Value.str (Str.ofString "get_item") 381, val := Value.ref 150 } :: { hash := PyData.keyHash P (Str.ofString "slice_place"), key := Value.str (Str.ofString "slice_place") 392, val := Value.ref 157 } :: { hash := PyData.keyHash P (Str.ofString "slice_value"), key := Value.str (Str.ofString "slice_value") 398, val := Value.ref 162 } :: { hash := PyData.keyHash P (Str.ofString "check_lengths"), key := Value.str (Str.ofString "check_lengths") 404, val := Value.ref 167 } :: { hash := PyData.keyHash P (Str.ofString "slide_array"), key := Value.str (Str.ofString "slide_array") 410, val := Value.ref 172 } :: { hash := PyData.keyHash P (Str.ofString "one_item"), key := Value.str (Str.ofString "one_item") 418, val := Value.ref 179 } :: { hash := PyData.keyHash P (Str.ofString "concat_arrays"), key := Value.str (Str.ofString "concat_arrays") 424, val := Value.ref 184 } :: { hash := PyData.keyHash P (Str.ofString "_law_least"), key := Value.str (Str.ofString "_law_least") 429, val := Value.int (-6) 428 } :: { hash := PyData.keyHash P (Str.ofString "_law_most"), key := Value.str (Str.ofString "_law_most") 431, val := Value.int 9 430 } :: { hash := PyData.keyHash P (Str.ofString "_law_pull"), key := Value.str (Str.ofString "_law_pull") 440, val := Value.ref 191 } :: [])) 31 }
noncomputable def ob12_6 (_ : Params) : Obj := { cls := Value.none, data := Data.fields (List.toArray (Value.int 2 0 :: Value.int 0 0 :: Value.ref 20 :: Value.int 7 0 :: Value.int 0 0 :: Value.ref 40 :: Value.int 15 0 :: Value.int 0 0 :: Value.ref 59 :: Value.int 20 0 :: Value.int 0 0 :: Value.ref 80 :: Value.int 25 0 :: Value.int 0 0 :: Value.ref 99 :: Value.int 34 0 :: Value.int 0 0 :: Value.ref 104 :: Value.int 36 0 :: Value.int 0 0 :: Value.ref 111 :: Value.int 40 0 :: Value.int 0 0 :: Value.ref 116 :: Value.int 51 0 :: Value.int 0 0 :: Value.ref 121 :: Value.int 66 0 :: Value.int 0 0 :: Value.ref 128 :: Value.int 68 0 :: Value.int 0 0 :: Value.ref 135 :: Value.int 70 0 :: Value.int 0 0 :: Value.ref 142 :: Value.int 78 0 :: Value.int 0 0 :: Value.ref 149 :: Value.int 80 0 :: Value.int 0 0 :: Value.ref 156 :: Value.int 87 0 :: Value.int 0 0 :: Value.ref 161 :: Value.int 91 0 :: Value.int 0 0 :: Value.ref 166 :: Value.int 94 0 :: Value.int 0 0 :: Value.ref 171 :: Value.int 97 0 :: Value.int 0 0 :: Value.ref 178 :: Value.int 99 0 :: Value.int 0 0 :: Value.ref 183 :: Value.int 112 0 :: Value.int 0 0 :: Value.ref 190 :: [])) }
noncomputable def ob151_6 (_ : Params) : Obj := { cls := Value.type "tuple", data := Data.seq #[] }
noncomputable def ob152_6 (_ : Params) : Obj := { cls := Value.none, data := Data.fields #[] }
noncomputable def ob153_6 (_ : Params) : Obj := { cls := Value.type "tuple", data := Data.seq #[Value.str (Str.ofString "value") 385, Value.str (Str.ofString "low") 386, Value.str (Str.ofString "high") 387, Value.str (Str.ofString "first") 388, Value.str (Str.ofString "last") 389] }
noncomputable def ob154_6 (_ : Params) : Obj := { cls := Value.type "tuple", data := Data.seq #[] }
noncomputable def ob155_6 (_ : Params) : Obj := { cls := Value.none, data := Data.func { name := Str.ofString "slice_place", qualname := Str.ofString "slice_place", params := (dG 16).1, body := FuncBody.stmts (dG 16).2.1, scope := (dG 16).2.2, globals := 0, closure := [], defaults := Value.none, kwdefaults := Value.none } }
noncomputable def ob156_6 (_ : Params) : Obj := { cls := Value.type "code", data := Data.fields #[Value.str (Str.ofString "slice_place") 382, Value.str (Str.ofString "slice_place") 383, Value.str (Str.ofString "/claim/cut.py") 384, Value.int 80 0, Value.int 3 0, Value.int 0 0, Value.int 0 0, Value.int 3 0, Value.ref 151, Value.bool true, Value.int 181 0, Value.ref 152, Value.none, Value.ref 153, Value.ref 154, Value.ref 155, Value.int 390 0, Value.int 80 0, Value.str (Str.ofString "/claim/cut.py") 391] }
noncomputable def ob157_6 (_ : Params) : Obj := { cls := Value.type "function", data := Data.func { name := Str.ofString "slice_place", qualname := Str.ofString "slice_place", params := (dG 16).1, body := FuncBody.stmts (dG 16).2.1, scope := (dG 16).2.2, globals := 3, closure := [], defaults := Value.none, kwdefaults := Value.none, pyModule := Value.str (Str.ofString "adacore.arrays") 345, code := Value.ref 156 } }
noncomputable def ob158_6 (_ : Params) : Obj := { cls := Value.type "tuple", data := Data.seq #[] }
noncomputable def ob159_6 (_ : Params) : Obj := { cls := Value.none, data := Data.fields #[] }
noncomputable def ob160_6 (_ : Params) : Obj := { cls := Value.none, data := Data.func { name := Str.ofString "slice_value", qualname := Str.ofString "slice_value", params := (dG 17).1, body := FuncBody.stmts (dG 17).2.1, scope := (dG 17).2.2, globals := 0, closure := [], defaults := Value.none, kwdefaults := Value.none } }
noncomputable def ob161_6 (_ : Params) : Obj := { cls := Value.type "code", data := Data.fields #[Value.str (Str.ofString "slice_value") 393, Value.str (Str.ofString "slice_value") 394, Value.str (Str.ofString "/claim/cut.py") 395, Value.int 87 0, Value.int 3 0, Value.int 0 0, Value.int 0 0, Value.int 3 0, Value.ref 158, Value.bool true, Value.int 181 0, Value.ref 159, Value.none, Value.none, Value.none, Value.ref 160, Value.int 396 0, Value.int 87 0, Value.str (Str.ofString "/claim/cut.py") 397] }
noncomputable def ob162_6 (_ : Params) : Obj := { cls := Value.type "function", data := Data.func { name := Str.ofString "slice_value", qualname := Str.ofString "slice_value", params := (dG 17).1, body := FuncBody.stmts (dG 17).2.1, scope := (dG 17).2.2, globals := 3, closure := [], defaults := Value.none, kwdefaults := Value.none, pyModule := Value.str (Str.ofString "adacore.arrays") 345, code := Value.ref 161 } }
noncomputable def ob163_6 (_ : Params) : Obj := { cls := Value.type "tuple", data := Data.seq #[] }
noncomputable def ob164_6 (_ : Params) : Obj := { cls := Value.none, data := Data.fields #[] }
noncomputable def ob165_6 (_ : Params) : Obj := { cls := Value.none, data := Data.func { name := Str.ofString "check_lengths", qualname := Str.ofString "check_lengths", params := (dG 18).1, body := FuncBody.stmts (dG 18).2.1, scope := (dG 18).2.2, globals := 0, closure := [], defaults := Value.none, kwdefaults := Value.none } }
noncomputable def ob166_6 (_ : Params) : Obj := { cls := Value.type "code", data := Data.fields #[Value.str (Str.ofString "check_lengths") 399, Value.str (Str.ofString "check_lengths") 400, Value.str (Str.ofString "/claim/cut.py") 401, Value.int 91 0, Value.int 2 0, Value.int 0 0, Value.int 0 0, Value.int 3 0, Value.ref 163, Value.bool true, Value.int 181 0, Value.ref 164, Value.none, Value.none, Value.none, Value.ref 165, Value.int 402 0, Value.int 91 0, Value.str (Str.ofString "/claim/cut.py") 403] }
noncomputable def ob167_6 (_ : Params) : Obj := { cls := Value.type "function", data := Data.func { name := Str.ofString "check_lengths", qualname := Str.ofString "check_lengths", params := (dG 18).1, body := FuncBody.stmts (dG 18).2.1, scope := (dG 18).2.2, globals := 3, closure := [], defaults := Value.none, kwdefaults := Value.none, pyModule := Value.str (Str.ofString "adacore.arrays") 345, code := Value.ref 166 } }
noncomputable def ob168_6 (_ : Params) : Obj := { cls := Value.type "tuple", data := Data.seq #[] }
noncomputable def ob169_6 (_ : Params) : Obj := { cls := Value.none, data := Data.fields #[] }
noncomputable def ob170_6 (_ : Params) : Obj := { cls := Value.none, data := Data.func { name := Str.ofString "slide_array", qualname := Str.ofString "slide_array", params := (dG 19).1, body := FuncBody.stmts (dG 19).2.1, scope := (dG 19).2.2, globals := 0, closure := [], defaults := Value.none, kwdefaults := Value.none } }
noncomputable def ob171_6 (_ : Params) : Obj := { cls := Value.type "code", data := Data.fields #[Value.str (Str.ofString "slide_array") 405, Value.str (Str.ofString "slide_array") 406, Value.str (Str.ofString "/claim/cut.py") 407, Value.int 94 0, Value.int 2 0, Value.int 0 0, Value.int 0 0, Value.int 3 0, Value.ref 168, Value.bool true, Value.int 181 0, Value.ref 169, Value.none, Value.none, Value.none, Value.ref 170, Value.int 408 0, Value.int 94 0, Value.str (Str.ofString "/claim/cut.py") 409] }
noncomputable def ob172_6 (_ : Params) : Obj := { cls := Value.type "function", data := Data.func { name := Str.ofString "slide_array", qualname := Str.ofString "slide_array", params := (dG 19).1, body := FuncBody.stmts (dG 19).2.1, scope := (dG 19).2.2, globals := 3, closure := [], defaults := Value.none, kwdefaults := Value.none, pyModule := Value.str (Str.ofString "adacore.arrays") 345, code := Value.ref 171 } }
noncomputable def ob173_6 (_ : Params) : Obj := { cls := Value.type "tuple", data := Data.seq #[] }
noncomputable def ob174_6 (_ : Params) : Obj := { cls := Value.none, data := Data.fields #[] }
noncomputable def ob175_6 (_ : Params) : Obj := { cls := Value.type "tuple", data := Data.seq #[Value.str (Str.ofString "item") 414, Value.str (Str.ofString "low") 415] }
noncomputable def ob176_6 (_ : Params) : Obj := { cls := Value.type "tuple", data := Data.seq #[] }
noncomputable def ob177_6 (_ : Params) : Obj := { cls := Value.none, data := Data.func { name := Str.ofString "one_item", qualname := Str.ofString "one_item", params := (dG 20).1, body := FuncBody.stmts (dG 20).2.1, scope := (dG 20).2.2, globals := 0, closure := [], defaults := Value.none, kwdefaults := Value.none } }
noncomputable def ob178_6 (_ : Params) : Obj := { cls := Value.type "code", data := Data.fields #[Value.str (Str.ofString "one_item") 411, Value.str (Str.ofString "one_item") 412, Value.str (Str.ofString "/claim/cut.py") 413, Value.int 97 0, Value.int 2 0, Value.int 0 0, Value.int 0 0, Value.int 3 0, Value.ref 173, Value.bool true, Value.int 181 0, Value.ref 174, Value.none, Value.ref 175, Value.ref 176, Value.ref 177, Value.int 416 0, Value.int 97 0, Value.str (Str.ofString "/claim/cut.py") 417] }
noncomputable def ob179_6 (_ : Params) : Obj := { cls := Value.type "function", data := Data.func { name := Str.ofString "one_item", qualname := Str.ofString "one_item", params := (dG 20).1, body := FuncBody.stmts (dG 20).2.1, scope := (dG 20).2.2, globals := 3, closure := [], defaults := Value.none, kwdefaults := Value.none, pyModule := Value.str (Str.ofString "adacore.arrays") 345, code := Value.ref 178 } }
noncomputable def ob180_6 (_ : Params) : Obj := { cls := Value.type "tuple", data := Data.seq #[] }
noncomputable def ob181_6 (_ : Params) : Obj := { cls := Value.none, data := Data.fields #[] }
noncomputable def ob182_6 (_ : Params) : Obj := { cls := Value.none, data := Data.func { name := Str.ofString "concat_arrays", qualname := Str.ofString "concat_arrays", params := (dG 21).1, body := FuncBody.stmts (dG 21).2.1, scope := (dG 21).2.2, globals := 0, closure := [], defaults := Value.none, kwdefaults := Value.none } }
noncomputable def ob183_6 (_ : Params) : Obj := { cls := Value.type "code", data := Data.fields #[Value.str (Str.ofString "concat_arrays") 419, Value.str (Str.ofString "concat_arrays") 420, Value.str (Str.ofString "/claim/cut.py") 421, Value.int 99 0, Value.int 5 0, Value.int 0 0, Value.int 0 0, Value.int 3 0, Value.ref 180, Value.bool true, Value.int 181 0, Value.ref 181, Value.none, Value.none, Value.none, Value.ref 182, Value.int 422 0, Value.int 99 0, Value.str (Str.ofString "/claim/cut.py") 423] }
noncomputable def ob184_6 (_ : Params) : Obj := { cls := Value.type "function", data := Data.func { name := Str.ofString "concat_arrays", qualname := Str.ofString "concat_arrays", params := (dG 21).1, body := FuncBody.stmts (dG 21).2.1, scope := (dG 21).2.2, globals := 3, closure := [], defaults := Value.none, kwdefaults := Value.none, pyModule := Value.str (Str.ofString "adacore.arrays") 345, code := Value.ref 183 } }
noncomputable def ob185_6 (_ : Params) : Obj := { cls := Value.type "tuple", data := Data.seq #[] }
noncomputable def ob186_6 (_ : Params) : Obj := { cls := Value.none, data := Data.fields #[] }
noncomputable def ob187_6 (_ : Params) : Obj := { cls := Value.type "tuple", data := Data.seq #[Value.str (Str.ofString "deck") 435, Value.str (Str.ofString "many") 436, Value.str (Str.ofString "at") 437] }
noncomputable def ob188_6 (_ : Params) : Obj := { cls := Value.type "tuple", data := Data.seq #[] }
noncomputable def ob189_6 (_ : Params) : Obj := { cls := Value.none, data := Data.func { name := Str.ofString "_law_pull", qualname := Str.ofString "_law_pull", params := (dG 25).1, body := FuncBody.stmts (dG 25).2.1, scope := (dG 25).2.2, globals := 0, closure := [], defaults := Value.none, kwdefaults := Value.none } }
noncomputable def ob190_6 (_ : Params) : Obj := { cls := Value.type "code", data := Data.fields #[Value.str (Str.ofString "_law_pull") 432, Value.str (Str.ofString "_law_pull") 433, Value.str (Str.ofString "/claim/cut.py") 434, Value.int 112 0, Value.int 2 0, Value.int 0 0, Value.int 0 0, Value.int 3 0, Value.ref 185, Value.bool true, Value.int 181 0, Value.ref 186, Value.none, Value.ref 187, Value.ref 188, Value.ref 189, Value.int 438 0, Value.int 112 0, Value.str (Str.ofString "/claim/cut.py") 439] }
noncomputable def ob191_6 (_ : Params) : Obj := { cls := Value.type "function", data := Data.func { name := Str.ofString "_law_pull", qualname := Str.ofString "_law_pull", params := (dG 25).1, body := FuncBody.stmts (dG 25).2.1, scope := (dG 25).2.2, globals := 3, closure := [], defaults := Value.none, kwdefaults := Value.none, pyModule := Value.str (Str.ofString "law_pb0006_01") 425, code := Value.ref 190 } }
noncomputable def ob3_7 (P : Params) : Obj := { cls := Value.type "dict", data := Data.dict (List.toArray ({ hash := PyData.keyHash P (Str.ofString "__name__"), key := Value.str (Str.ofString "__name__") 165, val := Value.str (Str.ofString "law_pb0006_01") 425 } :: { hash := PyData.keyHash P (Str.ofString "__doc__"), key := Value.str (Str.ofString "__doc__") 166, val := Value.none } :: { hash := PyData.keyHash P (Str.ofString "__package__"), key := Value.str (Str.ofString "__package__") 167, val := Value.none } :: { hash := PyData.keyHash P (Str.ofString "__loader__"), key := Value.str (Str.ofString "__loader__") 168, val := Value.builtin "__main__.__loader__#opaque" } :: { hash := PyData.keyHash P (Str.ofString "__spec__"), key := Value.str (Str.ofString "__spec__") 169, val := Value.none } :: { hash := PyData.keyHash P (Str.ofString "__annotations__"), key := Value.str (Str.ofString "__annotations__") 170, val := Value.ref 6 } :: { hash := PyData.keyHash P (Str.ofString "__builtins__"), key := Value.str (Str.ofString "__builtins__") 171, val := Value.ref 4 } :: { hash := PyData.keyHash P (Str.ofString "__file__"), key := Value.str (Str.ofString "__file__") 173, val := Value.str (Str.ofString "/claim/cut.py") 172 } :: { hash := PyData.keyHash P (Str.ofString "__cached__"), key := Value.str (Str.ofString "__cached__") 174, val := Value.none } :: { hash := PyData.keyHash P (Str.ofString "AdaError"), key := Value.str (Str.ofString "AdaError") 217, val := Value.ref 31 } :: { hash := PyData.keyHash P (Str.ofString "AdaRaise"), key := Value.str (Str.ofString "AdaRaise") 246, val := Value.ref 51 } :: { hash := PyData.keyHash P (Str.ofString "ArrayValue"), key := Value.str (Str.ofString "ArrayValue") 279, val := Value.ref 70 } :: { hash := PyData.keyHash P (Str.ofString "RecordValue"), key := Value.str (Str.ofString "RecordValue") 310, val := Value.ref 91 } :: { hash := PyData.keyHash P (Str.ofString "copy_value"), key := Value.str (Str.ofString "copy_value") 316, val := Value.ref 100 } :: { hash := PyData.keyHash P (Str.ofString "lengths_of"), key := Value.str (Str.ofString "lengths_of") 322, val := Value.ref 105 } :: { hash := PyData.keyHash P (Str.ofString "slice_items"), key := Value.str (Str.ofString "slice_items") 332, val := Value.ref 112 } :: { hash := PyData.keyHash P (Str.ofString "read_place"), key := Value.str (Str.ofString "read_place") 338, val := Value.ref 117 } :: { hash := PyData.keyHash P (Str.ofString "write_place"), key := Value.str (Str.ofString "write_place") 344, val := Value.ref 122 } :: { hash := PyData.keyHash P (Str.ofString "raise_constraint"), key := Value.str (Str.ofString "raise_constraint") 353, val := Value.ref 129 } :: { hash := PyData.keyHash P (Str.ofString "dim_length"), key := Value.str (Str.ofString "dim_length") 361, val := Value.ref 136 } :: { hash := PyData.keyHash P (Str.ofString "item_offset"), key := Value.str (Str.ofString "item_offset") 373, val := Value.ref 143 } :: { hash := PyData.keyHash P (Str.ofString "get_item"), key := Value.str (Str.ofString "get_item") 381, val := Value.ref 150 } :: { hash := PyData.keyHash P (Str.ofString "slice_place"), key := Value.str (Str.ofString "slice_place") 392, val := Value.ref 157 } :: { hash := PyData.keyHash P (Str.ofString "slice_value"), key := Value.str (Str.ofString "slice_value") 398, val := Value.ref 162 } :: { hash := PyData.keyHash P (Str.ofString "check_lengths"), key := Value.str (Str.ofString "check_lengths") 404, val := Value.ref 167 } :: { hash := PyData.keyHash P (Str.ofString "slide_array"), key := Value.str (Str.ofString "slide_array") 410, val := Value.ref 172 } :: { hash := PyData.keyHash P (Str.ofString "one_item"), key := Value.str (Str.ofString "one_item") 418, val := Value.ref 179 } :: { hash := PyData.keyHash P (Str.ofString "concat_arrays"), key := Value.str (Str.ofString "concat_arrays") 424, val := Value.ref 184 } :: { hash := PyData.keyHash P (Str.ofString "_law_least"), key := Value.str (Str.ofString "_law_least") 429, val := Value.int (-6) 428 } :: { hash := PyData.keyHash P (Str.ofString "_law_most"), key := Value.str (Str.ofString "_law_most") 431, val := Value.int 9 430 } :: { hash := PyData.keyHash P (Str.ofString "_law_pull"), key := Value.str (Str.ofString "_law_pull") 440, val := Value.ref 191 } :: { hash := PyData.keyHash P (Str.ofString "_law_row"), key := Value.str (Str.ofString "_law_row") 451, val := Value.ref 198 } :: { hash := PyData.keyHash P (Str.ofString "_law_value"), key := Value.str (Str.ofString "_law_value") 457, val := Value.ref 203 } :: { hash := PyData.keyHash P (Str.ofString "_law_part"), key := Value.str (Str.ofString "_law_part") 463, val := Value.ref 208 } :: { hash := PyData.keyHash P (Str.ofString "_law_moved"), key := Value.str (Str.ofString "_law_moved") 469, val := Value.ref 213 } :: { hash := PyData.keyHash P (Str.ofString "_law_behind"), key := Value.str (Str.ofString "_law_behind") 475, val := Value.ref 218 } :: { hash := PyData.keyHash P (Str.ofString "_law_given"), key := Value.str (Str.ofString "_law_given") 489, val := Value.ref 225 } :: { hash := PyData.keyHash P (Str.ofString "_law_done"), key := Value.str (Str.ofString "_law_done") 501, val := Value.ref 232 } :: { hash := PyData.keyHash P (Str.ofString "_law_due"), key := Value.str (Str.ofString "_law_due") 511, val := Value.ref 239 } :: [])) 39 }
noncomputable def ob12_7 (_ : Params) : Obj := { cls := Value.none, data := Data.fields (List.toArray (Value.int 2 0 :: Value.int 0 0 :: Value.ref 20 :: Value.int 7 0 :: Value.int 0 0 :: Value.ref 40 :: Value.int 15 0 :: Value.int 0 0 :: Value.ref 59 :: Value.int 20 0 :: Value.int 0 0 :: Value.ref 80 :: Value.int 25 0 :: Value.int 0 0 :: Value.ref 99 :: Value.int 34 0 :: Value.int 0 0 :: Value.ref 104 :: Value.int 36 0 :: Value.int 0 0 :: Value.ref 111 :: Value.int 40 0 :: Value.int 0 0 :: Value.ref 116 :: Value.int 51 0 :: Value.int 0 0 :: Value.ref 121 :: Value.int 66 0 :: Value.int 0 0 :: Value.ref 128 :: Value.int 68 0 :: Value.int 0 0 :: Value.ref 135 :: Value.int 70 0 :: Value.int 0 0 :: Value.ref 142 :: Value.int 78 0 :: Value.int 0 0 :: Value.ref 149 :: Value.int 80 0 :: Value.int 0 0 :: Value.ref 156 :: Value.int 87 0 :: Value.int 0 0 :: Value.ref 161 :: Value.int 91 0 :: Value.int 0 0 :: Value.ref 166 :: Value.int 94 0 :: Value.int 0 0 :: Value.ref 171 :: Value.int 97 0 :: Value.int 0 0 :: Value.ref 178 :: Value.int 99 0 :: Value.int 0 0 :: Value.ref 183 :: Value.int 112 0 :: Value.int 0 0 :: Value.ref 190 :: Value.int 118 0 :: Value.int 0 0 :: Value.ref 197 :: Value.int 125 0 :: Value.int 0 0 :: Value.ref 202 :: Value.int 127 0 :: Value.int 0 0 :: Value.ref 207 :: Value.int 134 0 :: Value.int 0 0 :: Value.ref 212 :: Value.int 140 0 :: Value.int 0 0 :: Value.ref 217 :: Value.int 148 0 :: Value.int 0 0 :: Value.ref 224 :: Value.int 158 0 :: Value.int 0 0 :: Value.ref 231 :: Value.int 176 0 :: Value.int 0 0 :: Value.ref 238 :: [])) }
noncomputable def ob192_7 (_ : Params) : Obj := { cls := Value.type "tuple", data := Data.seq #[] }
noncomputable def ob193_7 (_ : Params) : Obj := { cls := Value.none, data := Data.fields #[] }
noncomputable def ob194_7 (_ : Params) : Obj := { cls := Value.type "tuple", data := Data.seq #[Value.str (Str.ofString "deck") 444, Value.str (Str.ofString "low") 445, Value.str (Str.ofString "count") 446, Value.str (Str.ofString "held") 447, Value.str (Str.ofString "nth") 448] }
noncomputable def ob195_7 (_ : Params) : Obj := { cls := Value.type "tuple", data := Data.seq #[] }
noncomputable def ob196_7 (_ : Params) : Obj := { cls := Value.none, data := Data.func { name := Str.ofString "_law_row", qualname := Str.ofString "_law_row", params := (dG 26).1, body := FuncBody.stmts (dG 26).2.1, scope := (dG 26).2.2, globals := 0, closure := [], defaults := Value.none, kwdefaults := Value.none } }
noncomputable def ob197_7 (_ : Params) : Obj := { cls := Value.type "code", data := Data.fields #[Value.str (Str.ofString "_law_row") 441, Value.str (Str.ofString "_law_row") 442, Value.str (Str.ofString "/claim/cut.py") 443, Value.int 118 0, Value.int 1 0, Value.int 0 0, Value.int 0 0, Value.int 3 0, Value.ref 192, Value.bool true, Value.int 181 0, Value.ref 193, Value.none, Value.ref 194, Value.ref 195, Value.ref 196, Value.int 449 0, Value.int 118 0, Value.str (Str.ofString "/claim/cut.py") 450] }
noncomputable def ob198_7 (_ : Params) : Obj := { cls := Value.type "function", data := Data.func { name := Str.ofString "_law_row", qualname := Str.ofString "_law_row", params := (dG 26).1, body := FuncBody.stmts (dG 26).2.1, scope := (dG 26).2.2, globals := 3, closure := [], defaults := Value.none, kwdefaults := Value.none, pyModule := Value.str (Str.ofString "law_pb0006_01") 425, code := Value.ref 197 } }
noncomputable def ob199_7 (_ : Params) : Obj := { cls := Value.type "tuple", data := Data.seq #[] }
noncomputable def ob200_7 (_ : Params) : Obj := { cls := Value.none, data := Data.fields #[] }
noncomputable def ob201_7 (_ : Params) : Obj := { cls := Value.none, data := Data.func { name := Str.ofString "_law_value", qualname := Str.ofString "_law_value", params := (dG 27).1, body := FuncBody.stmts (dG 27).2.1, scope := (dG 27).2.2, globals := 0, closure := [], defaults := Value.none, kwdefaults := Value.none } }
noncomputable def ob202_7 (_ : Params) : Obj := { cls := Value.type "code", data := Data.fields #[Value.str (Str.ofString "_law_value") 452, Value.str (Str.ofString "_law_value") 453, Value.str (Str.ofString "/claim/cut.py") 454, Value.int 125 0, Value.int 1 0, Value.int 0 0, Value.int 0 0, Value.int 3 0, Value.ref 199, Value.bool true, Value.int 181 0, Value.ref 200, Value.none, Value.none, Value.none, Value.ref 201, Value.int 455 0, Value.int 125 0, Value.str (Str.ofString "/claim/cut.py") 456] }
noncomputable def ob203_7 (_ : Params) : Obj := { cls := Value.type "function", data := Data.func { name := Str.ofString "_law_value", qualname := Str.ofString "_law_value", params := (dG 27).1, body := FuncBody.stmts (dG 27).2.1, scope := (dG 27).2.2, globals := 3, closure := [], defaults := Value.none, kwdefaults := Value.none, pyModule := Value.str (Str.ofString "law_pb0006_01") 425, code := Value.ref 202 } }
noncomputable def ob204_7 (_ : Params) : Obj := { cls := Value.type "tuple", data := Data.seq #[] }
noncomputable def ob205_7 (_ : Params) : Obj := { cls := Value.none, data := Data.fields #[] }
noncomputable def ob206_7 (_ : Params) : Obj := { cls := Value.none, data := Data.func { name := Str.ofString "_law_part", qualname := Str.ofString "_law_part", params := (dG 28).1, body := FuncBody.stmts (dG 28).2.1, scope := (dG 28).2.2, globals := 0, closure := [], defaults := Value.none, kwdefaults := Value.none } }
noncomputable def ob207_7 (_ : Params) : Obj := { cls := Value.type "code", data := Data.fields #[Value.str (Str.ofString "_law_part") 458, Value.str (Str.ofString "_law_part") 459, Value.str (Str.ofString "/claim/cut.py") 460, Value.int 127 0, Value.int 3 0, Value.int 0 0, Value.int 0 0, Value.int 3 0, Value.ref 204, Value.bool true, Value.int 181 0, Value.ref 205, Value.none, Value.none, Value.none, Value.ref 206, Value.int 461 0, Value.int 127 0, Value.str (Str.ofString "/claim/cut.py") 462] }
noncomputable def ob208_7 (_ : Params) : Obj := { cls := Value.type "function", data := Data.func { name := Str.ofString "_law_part", qualname := Str.ofString "_law_part", params := (dG 28).1, body := FuncBody.stmts (dG 28).2.1, scope := (dG 28).2.2, globals := 3, closure := [], defaults := Value.none, kwdefaults := Value.none, pyModule := Value.str (Str.ofString "law_pb0006_01") 425, code := Value.ref 207 } }
noncomputable def ob209_7 (_ : Params) : Obj := { cls := Value.type "tuple", data := Data.seq #[] }
noncomputable def ob210_7 (_ : Params) : Obj := { cls := Value.none, data := Data.fields #[] }
noncomputable def ob211_7 (_ : Params) : Obj := { cls := Value.none, data := Data.func { name := Str.ofString "_law_moved", qualname := Str.ofString "_law_moved", params := (dG 29).1, body := FuncBody.stmts (dG 29).2.1, scope := (dG 29).2.2, globals := 0, closure := [], defaults := Value.none, kwdefaults := Value.none } }
noncomputable def ob212_7 (_ : Params) : Obj := { cls := Value.type "code", data := Data.fields #[Value.str (Str.ofString "_law_moved") 464, Value.str (Str.ofString "_law_moved") 465, Value.str (Str.ofString "/claim/cut.py") 466, Value.int 134 0, Value.int 3 0, Value.int 0 0, Value.int 0 0, Value.int 3 0, Value.ref 209, Value.bool true, Value.int 181 0, Value.ref 210, Value.none, Value.none, Value.none, Value.ref 211, Value.int 467 0, Value.int 134 0, Value.str (Str.ofString "/claim/cut.py") 468] }
noncomputable def ob213_7 (_ : Params) : Obj := { cls := Value.type "function", data := Data.func { name := Str.ofString "_law_moved", qualname := Str.ofString "_law_moved", params := (dG 29).1, body := FuncBody.stmts (dG 29).2.1, scope := (dG 29).2.2, globals := 3, closure := [], defaults := Value.none, kwdefaults := Value.none, pyModule := Value.str (Str.ofString "law_pb0006_01") 425, code := Value.ref 212 } }
noncomputable def ob214_7 (_ : Params) : Obj := { cls := Value.type "tuple", data := Data.seq #[] }
noncomputable def ob215_7 (_ : Params) : Obj := { cls := Value.none, data := Data.fields #[] }
noncomputable def ob216_7 (_ : Params) : Obj := { cls := Value.none, data := Data.func { name := Str.ofString "_law_behind", qualname := Str.ofString "_law_behind", params := (dG 30).1, body := FuncBody.stmts (dG 30).2.1, scope := (dG 30).2.2, globals := 0, closure := [], defaults := Value.none, kwdefaults := Value.none } }
noncomputable def ob217_7 (_ : Params) : Obj := { cls := Value.type "code", data := Data.fields #[Value.str (Str.ofString "_law_behind") 470, Value.str (Str.ofString "_law_behind") 471, Value.str (Str.ofString "/claim/cut.py") 472, Value.int 140 0, Value.int 3 0, Value.int 0 0, Value.int 0 0, Value.int 3 0, Value.ref 214, Value.bool true, Value.int 181 0, Value.ref 215, Value.none, Value.none, Value.none, Value.ref 216, Value.int 473 0, Value.int 140 0, Value.str (Str.ofString "/claim/cut.py") 474] }
noncomputable def ob218_7 (_ : Params) : Obj := { cls := Value.type "function", data := Data.func { name := Str.ofString "_law_behind", qualname := Str.ofString "_law_behind", params := (dG 30).1, body := FuncBody.stmts (dG 30).2.1, scope := (dG 30).2.2, globals := 3, closure := [], defaults := Value.none, kwdefaults := Value.none, pyModule := Value.str (Str.ofString "law_pb0006_01") 425, code := Value.ref 217 } }
noncomputable def ob219_7 (_ : Params) : Obj := { cls := Value.type "tuple", data := Data.seq #[] }
noncomputable def ob220_7 (_ : Params) : Obj := { cls := Value.none, data := Data.fields #[] }
noncomputable def ob221_7 (_ : Params) : Obj := { cls := Value.type "tuple", data := Data.seq #[Value.str (Str.ofString "row") 479, Value.str (Str.ofString "low") 480, Value.str (Str.ofString "high") 481, Value.str (Str.ofString "other_low") 482, Value.str (Str.ofString "other_high") 483, Value.str (Str.ofString "taken") 484, Value.str (Str.ofString "moved") 485, Value.str (Str.ofString "held") 486] }
noncomputable def ob222_7 (_ : Params) : Obj := { cls := Value.type "tuple", data := Data.seq #[] }
noncomputable def ob223_7 (_ : Params) : Obj := { cls := Value.none, data := Data.func { name := Str.ofString "_law_given", qualname := Str.ofString "_law_given", params := (dG 31).1, body := FuncBody.stmts (dG 31).2.1, scope := (dG 31).2.2, globals := 0, closure := [], defaults := Value.none, kwdefaults := Value.none } }
noncomputable def ob224_7 (_ : Params) : Obj := { cls := Value.type "code", data := Data.fields #[Value.str (Str.ofString "_law_given") 476, Value.str (Str.ofString "_law_given") 477, Value.str (Str.ofString "/claim/cut.py") 478, Value.int 148 0, Value.int 5 0, Value.int 0 0, Value.int 0 0, Value.int 3 0, Value.ref 219, Value.bool true, Value.int 181 0, Value.ref 220, Value.none, Value.ref 221, Value.ref 222, Value.ref 223, Value.int 487 0, Value.int 148 0, Value.str (Str.ofString "/claim/cut.py") 488] }
noncomputable def ob225_7 (_ : Params) : Obj := { cls := Value.type "function", data := Data.func { name := Str.ofString "_law_given", qualname := Str.ofString "_law_given", params := (dG 31).1, body := FuncBody.stmts (dG 31).2.1, scope := (dG 31).2.2, globals := 3, closure := [], defaults := Value.none, kwdefaults := Value.none, pyModule := Value.str (Str.ofString "law_pb0006_01") 425, code := Value.ref 224 } }
noncomputable def ob226_7 (_ : Params) : Obj := { cls := Value.type "tuple", data := Data.seq #[] }
noncomputable def ob227_7 (_ : Params) : Obj := { cls := Value.none, data := Data.fields #[] }
noncomputable def ob228_7 (_ : Params) : Obj := { cls := Value.type "tuple", data := Data.seq #[Value.str (Str.ofString "way") 493, Value.str (Str.ofString "value") 494, Value.str (Str.ofString "other") 495, Value.str (Str.ofString "ends") 496, Value.str (Str.ofString "place") 497, Value.str (Str.ofString "taken") 498] }
noncomputable def ob229_7 (_ : Params) : Obj := { cls := Value.type "tuple", data := Data.seq #[] }
noncomputable def ob230_7 (_ : Params) : Obj := { cls := Value.none, data := Data.func { name := Str.ofString "_law_done", qualname := Str.ofString "_law_done", params := (dG 32).1, body := FuncBody.stmts (dG 32).2.1, scope := (dG 32).2.2, globals := 0, closure := [], defaults := Value.none, kwdefaults := Value.none } }
noncomputable def ob231_7 (_ : Params) : Obj := { cls := Value.type "code", data := Data.fields #[Value.str (Str.ofString "_law_done") 490, Value.str (Str.ofString "_law_done") 491, Value.str (Str.ofString "/claim/cut.py") 492, Value.int 158 0, Value.int 4 0, Value.int 0 0, Value.int 0 0, Value.int 3 0, Value.ref 226, Value.bool true, Value.int 181 0, Value.ref 227, Value.none, Value.ref 228, Value.ref 229, Value.ref 230, Value.int 499 0, Value.int 158 0, Value.str (Str.ofString "/claim/cut.py") 500] }
noncomputable def ob232_7 (_ : Params) : Obj := { cls := Value.type "function", data := Data.func { name := Str.ofString "_law_done", qualname := Str.ofString "_law_done", params := (dG 32).1, body := FuncBody.stmts (dG 32).2.1, scope := (dG 32).2.2, globals := 3, closure := [], defaults := Value.none, kwdefaults := Value.none, pyModule := Value.str (Str.ofString "law_pb0006_01") 425, code := Value.ref 231 } }
noncomputable def ob233_7 (_ : Params) : Obj := { cls := Value.type "tuple", data := Data.seq #[] }
noncomputable def ob234_7 (_ : Params) : Obj := { cls := Value.none, data := Data.fields #[] }
noncomputable def ob235_7 (_ : Params) : Obj := { cls := Value.type "tuple", data := Data.seq #[Value.str (Str.ofString "way") 505, Value.str (Str.ofString "row") 506, Value.str (Str.ofString "other") 507, Value.str (Str.ofString "ends") 508] }
noncomputable def ob236_7 (_ : Params) : Obj := { cls := Value.type "tuple", data := Data.seq #[] }
noncomputable def ob237_7 (_ : Params) : Obj := { cls := Value.none, data := Data.func { name := Str.ofString "_law_due", qualname := Str.ofString "_law_due", params := (dG 33).1, body := FuncBody.stmts (dG 33).2.1, scope := (dG 33).2.2, globals := 0, closure := [], defaults := Value.none, kwdefaults := Value.none } }
noncomputable def ob238_7 (_ : Params) : Obj := { cls := Value.type "code", data := Data.fields #[Value.str (Str.ofString "_law_due") 502, Value.str (Str.ofString "_law_due") 503, Value.str (Str.ofString "/claim/cut.py") 504, Value.int 176 0, Value.int 4 0, Value.int 0 0, Value.int 0 0, Value.int 3 0, Value.ref 233, Value.bool true, Value.int 181 0, Value.ref 234, Value.none, Value.ref 235, Value.ref 236, Value.ref 237, Value.int 509 0, Value.int 176 0, Value.str (Str.ofString "/claim/cut.py") 510] }
noncomputable def ob239_7 (_ : Params) : Obj := { cls := Value.type "function", data := Data.func { name := Str.ofString "_law_due", qualname := Str.ofString "_law_due", params := (dG 33).1, body := FuncBody.stmts (dG 33).2.1, scope := (dG 33).2.2, globals := 3, closure := [], defaults := Value.none, kwdefaults := Value.none, pyModule := Value.str (Str.ofString "law_pb0006_01") 425, code := Value.ref 238 } }
noncomputable def ob3_8 (P : Params) : Obj := { cls := Value.type "dict", data := Data.dict (List.toArray ({ hash := PyData.keyHash P (Str.ofString "__name__"), key := Value.str (Str.ofString "__name__") 165, val := Value.str (Str.ofString "law_pb0006_01") 425 } :: { hash := PyData.keyHash P (Str.ofString "__doc__"), key := Value.str (Str.ofString "__doc__") 166, val := Value.none } :: { hash := PyData.keyHash P (Str.ofString "__package__"), key := Value.str (Str.ofString "__package__") 167, val := Value.none } :: { hash := PyData.keyHash P (Str.ofString "__loader__"), key := Value.str (Str.ofString "__loader__") 168, val := Value.builtin "__main__.__loader__#opaque" } :: { hash := PyData.keyHash P (Str.ofString "__spec__"), key := Value.str (Str.ofString "__spec__") 169, val := Value.none } :: { hash := PyData.keyHash P (Str.ofString "__annotations__"), key := Value.str (Str.ofString "__annotations__") 170, val := Value.ref 6 } :: { hash := PyData.keyHash P (Str.ofString "__builtins__"), key := Value.str (Str.ofString "__builtins__") 171, val := Value.ref 4 } :: { hash := PyData.keyHash P (Str.ofString "__file__"), key := Value.str (Str.ofString "__file__") 173, val := Value.str (Str.ofString "/claim/cut.py") 172 } :: { hash := PyData.keyHash P (Str.ofString "__cached__"), key := Value.str (Str.ofString "__cached__") 174, val := Value.none } :: { hash := PyData.keyHash P (Str.ofString "AdaError"), key := Value.str (Str.ofString "AdaError") 217, val := Value.ref 31 } :: { hash := PyData.keyHash P (Str.ofString "AdaRaise"), key := Value.str (Str.ofString "AdaRaise") 246, val := Value.ref 51 } :: { hash := PyData.keyHash P (Str.ofString "ArrayValue"), key := Value.str (Str.ofString "ArrayValue") 279, val := Value.ref 70 } :: { hash := PyData.keyHash P (Str.ofString "RecordValue"), key := Value.str (Str.ofString "RecordValue") 310, val := Value.ref 91 } :: { hash := PyData.keyHash P (Str.ofString "copy_value"), key := Value.str (Str.ofString "copy_value") 316, val := Value.ref 100 } :: { hash := PyData.keyHash P (Str.ofString "lengths_of"), key := Value.str (Str.ofString "lengths_of") 322, val := Value.ref 105 } :: { hash := PyData.keyHash P (Str.ofString "slice_items"), key := Value.str (Str.ofString "slice_items") 332, val := Value.ref 112 } :: { hash := PyData.keyHash P (Str.ofString "read_place"), key := Value.str (Str.ofString "read_place") 338, val := Value.ref 117 } :: { hash := PyData.keyHash P (Str.ofString "write_place"), key := Value.str (Str.ofString "write_place") 344, val := Value.ref 122 } :: { hash := PyData.keyHash P (Str.ofString "raise_constraint"), key := Value.str (Str.ofString "raise_constraint") 353, val := Value.ref 129 } :: { hash := PyData.keyHash P (Str.ofString "dim_length"), key := Value.str (Str.ofString "dim_length") 361, val := Value.ref 136 } :: { hash := PyData.keyHash P (Str.ofString "item_offset"), key := Value.str (Str.ofString "item_offset") 373, val := Value.ref 143 } :: { hash := PyData.keyHash P (Str.ofString "get_item"), key := Value.str (Str.ofString "get_item") 381, val := Value.ref 150 } :: { hash := PyData.keyHash P (Str.ofString "slice_place"), key := Value.str (Str.ofString "slice_place") 392, val := Value.ref 157 } :: { hash := PyData.keyHash P (Str.ofString "slice_value"), key := Value.str (Str.ofString "slice_value") 398, val := Value.ref 162 } :: { hash := PyData.keyHash P (Str.ofString "check_lengths"), key := Value.str (Str.ofString "check_lengths") 404, val := Value.ref 167 } :: { hash := PyData.keyHash P (Str.ofString "slide_array"), key := Value.str (Str.ofString "slide_array") 410, val := Value.ref 172 } :: { hash := PyData.keyHash P (Str.ofString "one_item"), key := Value.str (Str.ofString "one_item") 418, val := Value.ref 179 } :: { hash := PyData.keyHash P (Str.ofString "concat_arrays"), key := Value.str (Str.ofString "concat_arrays") 424, val := Value.ref 184 } :: { hash := PyData.keyHash P (Str.ofString "_law_least"), key := Value.str (Str.ofString "_law_least") 429, val := Value.int (-6) 428 } :: { hash := PyData.keyHash P (Str.ofString "_law_most"), key := Value.str (Str.ofString "_law_most") 431, val := Value.int 9 430 } :: { hash := PyData.keyHash P (Str.ofString "_law_pull"), key := Value.str (Str.ofString "_law_pull") 440, val := Value.ref 191 } :: { hash := PyData.keyHash P (Str.ofString "_law_row"), key := Value.str (Str.ofString "_law_row") 451, val := Value.ref 198 } :: { hash := PyData.keyHash P (Str.ofString "_law_value"), key := Value.str (Str.ofString "_law_value") 457, val := Value.ref 203 } :: { hash := PyData.keyHash P (Str.ofString "_law_part"), key := Value.str (Str.ofString "_law_part") 463, val := Value.ref 208 } :: { hash := PyData.keyHash P (Str.ofString "_law_moved"), key := Value.str (Str.ofString "_law_moved") 469, val := Value.ref 213 } :: { hash := PyData.keyHash P (Str.ofString "_law_behind"), key := Value.str (Str.ofString "_law_behind") 475, val := Value.ref 218 } :: { hash := PyData.keyHash P (Str.ofString "_law_given"), key := Value.str (Str.ofString "_law_given") 489, val := Value.ref 225 } :: { hash := PyData.keyHash P (Str.ofString "_law_done"), key := Value.str (Str.ofString "_law_done") 501, val := Value.ref 232 } :: { hash := PyData.keyHash P (Str.ofString "_law_due"), key := Value.str (Str.ofString "_law_due") 511, val := Value.ref 239 } :: { hash := PyData.keyHash P (Str.ofString "_law_heard"), key := Value.str (Str.ofString "_law_heard") 522, val := Value.ref 246 } :: { hash := PyData.keyHash P (Str.ofString "_law_alike"), key := Value.str (Str.ofString "_law_alike") 528, val := Value.ref 251 } :: { hash := PyData.keyHash P (Str.ofString "law"), key := Value.str (Str.ofString "law") 534, val := Value.ref 256 } :: [])) 42 }
noncomputable def ob12_8 (_ : Params) : Obj := { cls := Value.none, data := Data.fields (List.toArray (Value.int 2 0 :: Value.int 0 0 :: Value.ref 20 :: Value.int 7 0 :: Value.int 0 0 :: Value.ref 40 :: Value.int 15 0 :: Value.int 0 0 :: Value.ref 59 :: Value.int 20 0 :: Value.int 0 0 :: Value.ref 80 :: Value.int 25 0 :: Value.int 0 0 :: Value.ref 99 :: Value.int 34 0 :: Value.int 0 0 :: Value.ref 104 :: Value.int 36 0 :: Value.int 0 0 :: Value.ref 111 :: Value.int 40 0 :: Value.int 0 0 :: Value.ref 116 :: Value.int 51 0 :: Value.int 0 0 :: Value.ref 121 :: Value.int 66 0 :: Value.int 0 0 :: Value.ref 128 :: Value.int 68 0 :: Value.int 0 0 :: Value.ref 135 :: Value.int 70 0 :: Value.int 0 0 :: Value.ref 142 :: Value.int 78 0 :: Value.int 0 0 :: Value.ref 149 :: Value.int 80 0 :: Value.int 0 0 :: Value.ref 156 :: Value.int 87 0 :: Value.int 0 0 :: Value.ref 161 :: Value.int 91 0 :: Value.int 0 0 :: Value.ref 166 :: Value.int 94 0 :: Value.int 0 0 :: Value.ref 171 :: Value.int 97 0 :: Value.int 0 0 :: Value.ref 178 :: Value.int 99 0 :: Value.int 0 0 :: Value.ref 183 :: Value.int 112 0 :: Value.int 0 0 :: Value.ref 190 :: Value.int 118 0 :: Value.int 0 0 :: Value.ref 197 :: Value.int 125 0 :: Value.int 0 0 :: Value.ref 202 :: Value.int 127 0 :: Value.int 0 0 :: Value.ref 207 :: Value.int 134 0 :: Value.int 0 0 :: Value.ref 212 :: Value.int 140 0 :: Value.int 0 0 :: Value.ref 217 :: Value.int 148 0 :: Value.int 0 0 :: Value.ref 224 :: Value.int 158 0 :: Value.int 0 0 :: Value.ref 231 :: Value.int 176 0 :: Value.int 0 0 :: Value.ref 238 :: Value.int 190 0 :: Value.int 0 0 :: Value.ref 245 :: Value.int 195 0 :: Value.int 0 0 :: Value.ref 250 :: Value.int 203 0 :: Value.int 0 0 :: Value.ref 255 :: [])) }
noncomputable def ob240_8 (_ : Params) : Obj := { cls := Value.type "tuple", data := Data.seq #[] }
noncomputable def ob241_8 (_ : Params) : Obj := { cls := Value.none, data := Data.fields #[] }
noncomputable def ob242_8 (_ : Params) : Obj := { cls := Value.type "tuple", data := Data.seq #[Value.str (Str.ofString "way") 515, Value.str (Str.ofString "value") 516, Value.str (Str.ofString "other") 517, Value.str (Str.ofString "ends") 518, Value.str (Str.ofString "fault") 519] }
noncomputable def ob243_8 (_ : Params) : Obj := { cls := Value.type "tuple", data := Data.seq #[] }
noncomputable def ob244_8 (_ : Params) : Obj := { cls := Value.none, data := Data.func { name := Str.ofString "_law_heard", qualname := Str.ofString "_law_heard", params := (dG 34).1, body := FuncBody.stmts (dG 34).2.1, scope := (dG 34).2.2, globals := 0, closure := [], defaults := Value.none, kwdefaults := Value.none } }
noncomputable def ob245_8 (_ : Params) : Obj := { cls := Value.type "code", data := Data.fields #[Value.str (Str.ofString "_law_heard") 512, Value.str (Str.ofString "_law_heard") 513, Value.str (Str.ofString "/claim/cut.py") 514, Value.int 190 0, Value.int 4 0, Value.int 0 0, Value.int 0 0, Value.int 3 0, Value.ref 240, Value.bool true, Value.int 181 0, Value.ref 241, Value.none, Value.ref 242, Value.ref 243, Value.ref 244, Value.int 520 0, Value.int 190 0, Value.str (Str.ofString "/claim/cut.py") 521] }
noncomputable def ob246_8 (_ : Params) : Obj := { cls := Value.type "function", data := Data.func { name := Str.ofString "_law_heard", qualname := Str.ofString "_law_heard", params := (dG 34).1, body := FuncBody.stmts (dG 34).2.1, scope := (dG 34).2.2, globals := 3, closure := [], defaults := Value.none, kwdefaults := Value.none, pyModule := Value.str (Str.ofString "law_pb0006_01") 425, code := Value.ref 245 } }
noncomputable def ob247_8 (_ : Params) : Obj := { cls := Value.type "tuple", data := Data.seq #[] }
noncomputable def ob248_8 (_ : Params) : Obj := { cls := Value.none, data := Data.fields #[] }
noncomputable def ob249_8 (_ : Params) : Obj := { cls := Value.none, data := Data.func { name := Str.ofString "_law_alike", qualname := Str.ofString "_law_alike", params := (dG 35).1, body := FuncBody.stmts (dG 35).2.1, scope := (dG 35).2.2, globals := 0, closure := [], defaults := Value.none, kwdefaults := Value.none } }
noncomputable def ob250_8 (_ : Params) : Obj := { cls := Value.type "code", data := Data.fields #[Value.str (Str.ofString "_law_alike") 523, Value.str (Str.ofString "_law_alike") 524, Value.str (Str.ofString "/claim/cut.py") 525, Value.int 195 0, Value.int 2 0, Value.int 0 0, Value.int 0 0, Value.int 3 0, Value.ref 247, Value.bool true, Value.int 181 0, Value.ref 248, Value.none, Value.none, Value.none, Value.ref 249, Value.int 526 0, Value.int 195 0, Value.str (Str.ofString "/claim/cut.py") 527] }
noncomputable def ob251_8 (_ : Params) : Obj := { cls := Value.type "function", data := Data.func { name := Str.ofString "_law_alike", qualname := Str.ofString "_law_alike", params := (dG 35).1, body := FuncBody.stmts (dG 35).2.1, scope := (dG 35).2.2, globals := 3, closure := [], defaults := Value.none, kwdefaults := Value.none, pyModule := Value.str (Str.ofString "law_pb0006_01") 425, code := Value.ref 250 } }
noncomputable def ob252_8 (_ : Params) : Obj := { cls := Value.type "tuple", data := Data.seq #[] }
noncomputable def ob253_8 (_ : Params) : Obj := { cls := Value.none, data := Data.fields #[] }
noncomputable def ob254_8 (_ : Params) : Obj := { cls := Value.none, data := Data.func { name := Str.ofString "law", qualname := Str.ofString "law", params := (dG 36).1, body := FuncBody.stmts (dG 36).2.1, scope := (dG 36).2.2, globals := 0, closure := [], defaults := Value.none, kwdefaults := Value.none } }
noncomputable def ob255_8 (_ : Params) : Obj := { cls := Value.type "code", data := Data.fields #[Value.str (Str.ofString "law") 529, Value.str (Str.ofString "law") 530, Value.str (Str.ofString "/claim/cut.py") 531, Value.int 203 0, Value.int 1 0, Value.int 0 0, Value.int 0 0, Value.int 3 0, Value.ref 252, Value.bool true, Value.int 181 0, Value.ref 253, Value.none, Value.none, Value.none, Value.ref 254, Value.int 532 0, Value.int 203 0, Value.str (Str.ofString "/claim/cut.py") 533] }
noncomputable def ob256_8 (_ : Params) : Obj := { cls := Value.type "function", data := Data.func { name := Str.ofString "law", qualname := Str.ofString "law", params := (dG 36).1, body := FuncBody.stmts (dG 36).2.1, scope := (dG 36).2.2, globals := 3, closure := [], defaults := Value.none, kwdefaults := Value.none, pyModule := Value.str (Str.ofString "law_pb0006_01") 425, code := Value.ref 255 } }
abbrev bd0 : List Stmt := behindTheImports pw
def env0 : Env := { scope := pw.main.scope, locals := mainNs, globals := mainNs, cells := [], code := .ref 13, frame := some 14 }
abbrev c0 : Code := .body bd0 env0
noncomputable def tr0 (P : Params) : BT := (.node (boot_o_0 P) (.node (boot_o_1 P) (.node (boot_o_3 P) (.node (boot_o_7 P) .nil .nil) (.node (ob11_0 P) .nil .nil)) (.node (boot_o_5 P) (.node (boot_o_9 P) .nil .nil) (.node (ob13_0 P) .nil .nil))) (.node (boot_o_2 P) (.node (boot_o_4 P) (.node (boot_o_8 P) .nil .nil) (.node (ob12_0 P) .nil .nil)) (.node (boot_o_6 P) (.node (boot_o_10 P) .nil .nil) (.node (ob14_0 P) .nil .nil))))
noncomputable def st0 (w : World) (os : OsState) : SharedT := ⟨tr0 w.params, 15, {}, Array.mk [], boot_drawn, 187, os⟩
def ps0 : Pos := (⟨0, 0, 0, 0⟩ : Pos)
noncomputable def tr1 (P : Params) : BT := (.node (boot_o_0 P) (.node (boot_o_1 P) (.node (ob3_1 P) (.node (boot_o_7 P) (.node (ob15_1 P) (.node (ob31_1 P) .nil .nil) .nil) (.node (ob23_1 P) .nil .nil)) (.node (ob11_0 P) (.node (ob19_1 P) .nil .nil) (.node (ob27_1 P) .nil .nil))) (.node (boot_o_5 P) (.node (boot_o_9 P) (.node (ob17_1 P) (.node (ob33_1 P) .nil .nil) .nil) (.node (ob25_1 P) .nil .nil)) (.node (ob13_0 P) (.node (ob21_1 P) .nil .nil) (.node (ob29_1 P) .nil .nil)))) (.node (ob2_1 P) (.node (boot_o_4 P) (.node (boot_o_8 P) (.node (ob16_1 P) (.node (ob32_1 P) .nil .nil) .nil) (.node (ob24_1 P) .nil .nil)) (.node (ob12_1 P) (.node (ob20_1 P) .nil .nil) (.node (ob28_1 P) .nil .nil))) (.node (boot_o_6 P) (.node (boot_o_10 P) (.node (ob18_1 P) (.node (ob34_1 P) .nil .nil) .nil) (.node (ob26_1 P) .nil .nil)) (.node (ob14_0 P) (.node (ob22_1 P) .nil .nil) (.node (ob30_1 P) .nil .nil)))))
noncomputable def st1 (w : World) (os : OsState) : SharedT := ⟨tr1 w.params, 35, {}, Array.mk [], boot_drawn, 218, os⟩
def ps1 : Pos := (⟨2, 0, 6, 24⟩ : Pos)
noncomputable def gr1 : List Stmt := (bd0.drop 0).take 2
noncomputable def tr2 (P : Params) : BT := (.node (boot_o_0 P) (.node (boot_o_1 P) (.node (ob3_2 P) (.node (boot_o_7 P) (.node (ob15_1 P) (.node (ob31_2 P) .nil .nil) (.node (ob47_2 P) .nil .nil)) (.node (ob23_1 P) (.node (ob39_2 P) .nil .nil) .nil)) (.node (ob11_0 P) (.node (ob19_1 P) (.node (ob35_2 P) .nil .nil) (.node (ob51_2 P) .nil .nil)) (.node (ob27_1 P) (.node (ob43_2 P) .nil .nil) .nil))) (.node (boot_o_5 P) (.node (boot_o_9 P) (.node (ob17_1 P) (.node (ob33_1 P) .nil .nil) (.node (ob49_2 P) .nil .nil)) (.node (ob25_1 P) (.node (ob41_2 P) .nil .nil) .nil)) (.node (ob13_0 P) (.node (ob21_1 P) (.node (ob37_2 P) .nil .nil) (.node (ob53_2 P) .nil .nil)) (.node (ob29_1 P) (.node (ob45_2 P) .nil .nil) .nil)))) (.node (ob2_1 P) (.node (boot_o_4 P) (.node (boot_o_8 P) (.node (ob16_1 P) (.node (ob32_1 P) .nil .nil) (.node (ob48_2 P) .nil .nil)) (.node (ob24_1 P) (.node (ob40_2 P) .nil .nil) .nil)) (.node (ob12_2 P) (.node (ob20_1 P) (.node (ob36_2 P) .nil .nil) (.node (ob52_2 P) .nil .nil)) (.node (ob28_1 P) (.node (ob44_2 P) .nil .nil) .nil))) (.node (boot_o_6 P) (.node (boot_o_10 P) (.node (ob18_1 P) (.node (ob34_1 P) .nil .nil) (.node (ob50_2 P) .nil .nil)) (.node (ob26_1 P) (.node (ob42_2 P) .nil .nil) .nil)) (.node (ob14_0 P) (.node (ob22_1 P) (.node (ob38_2 P) .nil .nil) .nil) (.node (ob30_1 P) (.node (ob46_2 P) .nil .nil) .nil)))))
noncomputable def st2 (w : World) (os : OsState) : SharedT := ⟨tr2 w.params, 54, {}, Array.mk [], boot_drawn, 249, os⟩
def ps2 : Pos := (⟨14, 0, 14, 8⟩ : Pos)
noncomputable def gr2 : List Stmt := (bd0.drop 2).take 2
noncomputable def tr3 (P : Params) : BT := (.node (boot_o_0 P) (.node (boot_o_1 P) (.node (ob3_3 P) (.node (boot_o_7 P) (.node (ob15_1 P) (.node (ob31_2 P) (.node (ob63_3 P) .nil .nil) .nil) (.node (ob47_2 P) .nil .nil)) (.node (ob23_1 P) (.node (ob39_2 P) (.node (ob71_3 P) .nil .nil) .nil) (.node (ob55_3 P) .nil .nil))) (.node (ob11_0 P) (.node (ob19_1 P) (.node (ob35_2 P) (.node (ob67_3 P) .nil .nil) .nil) (.node (ob51_2 P) .nil .nil)) (.node (ob27_1 P) (.node (ob43_2 P) .nil .nil) (.node (ob59_3 P) .nil .nil)))) (.node (boot_o_5 P) (.node (boot_o_9 P) (.node (ob17_1 P) (.node (ob33_1 P) (.node (ob65_3 P) .nil .nil) .nil) (.node (ob49_2 P) .nil .nil)) (.node (ob25_1 P) (.node (ob41_2 P) (.node (ob73_3 P) .nil .nil) .nil) (.node (ob57_3 P) .nil .nil))) (.node (ob13_0 P) (.node (ob21_1 P) (.node (ob37_2 P) (.node (ob69_3 P) .nil .nil) .nil) (.node (ob53_2 P) .nil .nil)) (.node (ob29_1 P) (.node (ob45_2 P) .nil .nil) (.node (ob61_3 P) .nil .nil))))) (.node (ob2_1 P) (.node (boot_o_4 P) (.node (boot_o_8 P) (.node (ob16_1 P) (.node (ob32_1 P) (.node (ob64_3 P) .nil .nil) .nil) (.node (ob48_2 P) .nil .nil)) (.node (ob24_1 P) (.node (ob40_2 P) (.node (ob72_3 P) .nil .nil) .nil) (.node (ob56_3 P) .nil .nil))) (.node (ob12_3 P) (.node (ob20_1 P) (.node (ob36_2 P) (.node (ob68_3 P) .nil .nil) .nil) (.node (ob52_2 P) .nil .nil)) (.node (ob28_1 P) (.node (ob44_2 P) .nil .nil) (.node (ob60_3 P) .nil .nil)))) (.node (boot_o_6 P) (.node (boot_o_10 P) (.node (ob18_1 P) (.node (ob34_1 P) (.node (ob66_3 P) .nil .nil) .nil) (.node (ob50_2 P) .nil .nil)) (.node (ob26_1 P) (.node (ob42_2 P) (.node (ob74_3 P) .nil .nil) .nil) (.node (ob58_3 P) .nil .nil))) (.node (ob14_0 P) (.node (ob22_1 P) (.node (ob38_2 P) (.node (ob70_3 P) .nil .nil) .nil) (.node (ob54_3 P) .nil .nil)) (.node (ob30_1 P) (.node (ob46_2 P) .nil .nil) (.node (ob62_3 P) .nil .nil))))))
noncomputable def st3 (w : World) (os : OsState) : SharedT := ⟨tr3 w.params, 75, {}, Array.mk [], boot_drawn, 280, os⟩
def ps3 : Pos := (⟨15, 0, 19, 26⟩ : Pos)
noncomputable def gr3 : List Stmt := (bd0.drop 4).take 1
noncomputable def tr4 (P : Params) : BT := (.node (boot_o_0 P) (.node (boot_o_1 P) (.node (ob3_4 P) (.node (boot_o_7 P) (.node (ob15_1 P) (.node (ob31_2 P) (.node (ob63_3 P) .nil .nil) (.node (ob95_4 P) .nil .nil)) (.node (ob47_2 P) (.node (ob79_4 P) .nil .nil) .nil)) (.node (ob23_1 P) (.node (ob39_2 P) (.node (ob71_3 P) .nil .nil) .nil) (.node (ob55_3 P) (.node (ob87_4 P) .nil .nil) .nil))) (.node (ob11_0 P) (.node (ob19_1 P) (.node (ob35_2 P) (.node (ob67_3 P) .nil .nil) (.node (ob99_4 P) .nil .nil)) (.node (ob51_2 P) (.node (ob83_4 P) .nil .nil) .nil)) (.node (ob27_1 P) (.node (ob43_2 P) (.node (ob75_4 P) .nil .nil) .nil) (.node (ob59_3 P) (.node (ob91_4 P) .nil .nil) .nil)))) (.node (boot_o_5 P) (.node (boot_o_9 P) (.node (ob17_1 P) (.node (ob33_1 P) (.node (ob65_3 P) .nil .nil) (.node (ob97_4 P) .nil .nil)) (.node (ob49_2 P) (.node (ob81_4 P) .nil .nil) .nil)) (.node (ob25_1 P) (.node (ob41_2 P) (.node (ob73_3 P) .nil .nil) .nil) (.node (ob57_3 P) (.node (ob89_4 P) .nil .nil) .nil))) (.node (ob13_0 P) (.node (ob21_1 P) (.node (ob37_2 P) (.node (ob69_3 P) .nil .nil) .nil) (.node (ob53_2 P) (.node (ob85_4 P) .nil .nil) .nil)) (.node (ob29_1 P) (.node (ob45_2 P) (.node (ob77_4 P) .nil .nil) .nil) (.node (ob61_3 P) (.node (ob93_4 P) .nil .nil) .nil))))) (.node (ob2_1 P) (.node (boot_o_4 P) (.node (boot_o_8 P) (.node (ob16_1 P) (.node (ob32_1 P) (.node (ob64_3 P) .nil .nil) (.node (ob96_4 P) .nil .nil)) (.node (ob48_2 P) (.node (ob80_4 P) .nil .nil) .nil)) (.node (ob24_1 P) (.node (ob40_2 P) (.node (ob72_3 P) .nil .nil) .nil) (.node (ob56_3 P) (.node (ob88_4 P) .nil .nil) .nil))) (.node (ob12_4 P) (.node (ob20_1 P) (.node (ob36_2 P) (.node (ob68_3 P) .nil .nil) (.node (ob100_4 P) .nil .nil)) (.node (ob52_2 P) (.node (ob84_4 P) .nil .nil) .nil)) (.node (ob28_1 P) (.node (ob44_2 P) (.node (ob76_4 P) .nil .nil) .nil) (.node (ob60_3 P) (.node (ob92_4 P) .nil .nil) .nil)))) (.node (boot_o_6 P) (.node (boot_o_10 P) (.node (ob18_1 P) (.node (ob34_1 P) (.node (ob66_3 P) .nil .nil) (.node (ob98_4 P) .nil .nil)) (.node (ob50_2 P) (.node (ob82_4 P) .nil .nil) .nil)) (.node (ob26_1 P) (.node (ob42_2 P) (.node (ob74_3 P) .nil .nil) .nil) (.node (ob58_3 P) (.node (ob90_4 P) .nil .nil) .nil))) (.node (ob14_0 P) (.node (ob22_1 P) (.node (ob38_2 P) (.node (ob70_3 P) .nil .nil) .nil) (.node (ob54_3 P) (.node (ob86_4 P) .nil .nil) .nil)) (.node (ob30_1 P) (.node (ob46_2 P) (.node (ob78_4 P) .nil .nil) .nil) (.node (ob62_3 P) (.node (ob94_4 P) .nil .nil) .nil))))))
noncomputable def st4 (w : World) (os : OsState) : SharedT := ⟨tr4 w.params, 101, {}, Array.mk [], boot_drawn, 317, os⟩
def ps4 : Pos := (⟨25, 0, 33, 16⟩ : Pos)
noncomputable def gr4 : List Stmt := (bd0.drop 5).take 2
noncomputable def tr5 (P : Params) : BT := (.node (boot_o_0 P) (.node (boot_o_1 P) (.node (ob3_5 P) (.node (boot_o_7 P) (.node (ob15_1 P) (.node (ob31_2 P) (.node (ob63_3 P) (.node (ob127_5 P) .nil .nil) .nil) (.node (ob95_4 P) .nil .nil)) (.node (ob47_2 P) (.node (ob79_4 P) (.node (ob143_5 P) .nil .nil) .nil) (.node (ob111_5 P) .nil .nil))) (.node (ob23_1 P) (.node (ob39_2 P) (.node (ob71_3 P) (.node (ob135_5 P) .nil .nil) .nil) (.node (ob103_5 P) .nil .nil)) (.node (ob55_3 P) (.node (ob87_4 P) .nil .nil) (.node (ob119_5 P) .nil .nil)))) (.node (ob11_0 P) (.node (ob19_1 P) (.node (ob35_2 P) (.node (ob67_3 P) (.node (ob131_5 P) .nil .nil) .nil) (.node (ob99_4 P) .nil .nil)) (.node (ob51_2 P) (.node (ob83_4 P) (.node (ob147_5 P) .nil .nil) .nil) (.node (ob115_5 P) .nil .nil))) (.node (ob27_1 P) (.node (ob43_2 P) (.node (ob75_4 P) (.node (ob139_5 P) .nil .nil) .nil) (.node (ob107_5 P) .nil .nil)) (.node (ob59_3 P) (.node (ob91_4 P) .nil .nil) (.node (ob123_5 P) .nil .nil))))) (.node (boot_o_5 P) (.node (boot_o_9 P) (.node (ob17_1 P) (.node (ob33_1 P) (.node (ob65_3 P) (.node (ob129_5 P) .nil .nil) .nil) (.node (ob97_4 P) .nil .nil)) (.node (ob49_2 P) (.node (ob81_4 P) (.node (ob145_5 P) .nil .nil) .nil) (.node (ob113_5 P) .nil .nil))) (.node (ob25_1 P) (.node (ob41_2 P) (.node (ob73_3 P) (.node (ob137_5 P) .nil .nil) .nil) (.node (ob105_5 P) .nil .nil)) (.node (ob57_3 P) (.node (ob89_4 P) .nil .nil) (.node (ob121_5 P) .nil .nil)))) (.node (ob13_0 P) (.node (ob21_1 P) (.node (ob37_2 P) (.node (ob69_3 P) (.node (ob133_5 P) .nil .nil) .nil) (.node (ob101_5 P) .nil .nil)) (.node (ob53_2 P) (.node (ob85_4 P) (.node (ob149_5 P) .nil .nil) .nil) (.node (ob117_5 P) .nil .nil))) (.node (ob29_1 P) (.node (ob45_2 P) (.node (ob77_4 P) (.node (ob141_5 P) .nil .nil) .nil) (.node (ob109_5 P) .nil .nil)) (.node (ob61_3 P) (.node (ob93_4 P) .nil .nil) (.node (ob125_5 P) .nil .nil)))))) (.node (ob2_1 P) (.node (boot_o_4 P) (.node (boot_o_8 P) (.node (ob16_1 P) (.node (ob32_1 P) (.node (ob64_3 P) (.node (ob128_5 P) .nil .nil) .nil) (.node (ob96_4 P) .nil .nil)) (.node (ob48_2 P) (.node (ob80_4 P) (.node (ob144_5 P) .nil .nil) .nil) (.node (ob112_5 P) .nil .nil))) (.node (ob24_1 P) (.node (ob40_2 P) (.node (ob72_3 P) (.node (ob136_5 P) .nil .nil) .nil) (.node (ob104_5 P) .nil .nil)) (.node (ob56_3 P) (.node (ob88_4 P) .nil .nil) (.node (ob120_5 P) .nil .nil)))) (.node (ob12_5 P) (.node (ob20_1 P) (.node (ob36_2 P) (.node (ob68_3 P) (.node (ob132_5 P) .nil .nil) .nil) (.node (ob100_4 P) .nil .nil)) (.node (ob52_2 P) (.node (ob84_4 P) (.node (ob148_5 P) .nil .nil) .nil) (.node (ob116_5 P) .nil .nil))) (.node (ob28_1 P) (.node (ob44_2 P) (.node (ob76_4 P) (.node (ob140_5 P) .nil .nil) .nil) (.node (ob108_5 P) .nil .nil)) (.node (ob60_3 P) (.node (ob92_4 P) .nil .nil) (.node (ob124_5 P) .nil .nil))))) (.node (boot_o_6 P) (.node (boot_o_10 P) (.node (ob18_1 P) (.node (ob34_1 P) (.node (ob66_3 P) (.node (ob130_5 P) .nil .nil) .nil) (.node (ob98_4 P) .nil .nil)) (.node (ob50_2 P) (.node (ob82_4 P) (.node (ob146_5 P) .nil .nil) .nil) (.node (ob114_5 P) .nil .nil))) (.node (ob26_1 P) (.node (ob42_2 P) (.node (ob74_3 P) (.node (ob138_5 P) .nil .nil) .nil) (.node (ob106_5 P) .nil .nil)) (.node (ob58_3 P) (.node (ob90_4 P) .nil .nil) (.node (ob122_5 P) .nil .nil)))) (.node (ob14_0 P) (.node (ob22_1 P) (.node (ob38_2 P) (.node (ob70_3 P) (.node (ob134_5 P) .nil .nil) .nil) (.node (ob102_5 P) .nil .nil)) (.node (ob54_3 P) (.node (ob86_4 P) (.node (ob150_5 P) .nil .nil) .nil) (.node (ob118_5 P) .nil .nil))) (.node (ob30_1 P) (.node (ob46_2 P) (.node (ob78_4 P) (.node (ob142_5 P) .nil .nil) .nil) (.node (ob110_5 P) .nil .nil)) (.node (ob62_3 P) (.node (ob94_4 P) .nil .nil) (.node (ob126_5 P) .nil .nil)))))))
noncomputable def st5 (w : World) (os : OsState) : SharedT := ⟨tr5 w.params, 151, {}, Array.mk [], boot_drawn, 382, os⟩
def ps5 : Pos := (⟨78, 0, 79, 51⟩ : Pos)
noncomputable def gr5 : List Stmt := (bd0.drop 7).take 9
noncomputable def tr6 (P : Params) : BT := (.node (boot_o_0 P) (.node (boot_o_1 P) (.node (ob3_6 P) (.node (boot_o_7 P) (.node (ob15_1 P) (.node (ob31_2 P) (.node (ob63_3 P) (.node (ob127_5 P) .nil .nil) (.node (ob191_6 P) .nil .nil)) (.node (ob95_4 P) (.node (ob159_6 P) .nil .nil) .nil)) (.node (ob47_2 P) (.node (ob79_4 P) (.node (ob143_5 P) .nil .nil) .nil) (.node (ob111_5 P) (.node (ob175_6 P) .nil .nil) .nil))) (.node (ob23_1 P) (.node (ob39_2 P) (.node (ob71_3 P) (.node (ob135_5 P) .nil .nil) .nil) (.node (ob103_5 P) (.node (ob167_6 P) .nil .nil) .nil)) (.node (ob55_3 P) (.node (ob87_4 P) (.node (ob151_6 P) .nil .nil) .nil) (.node (ob119_5 P) (.node (ob183_6 P) .nil .nil) .nil)))) (.node (ob11_0 P) (.node (ob19_1 P) (.node (ob35_2 P) (.node (ob67_3 P) (.node (ob131_5 P) .nil .nil) .nil) (.node (ob99_4 P) (.node (ob163_6 P) .nil .nil) .nil)) (.node (ob51_2 P) (.node (ob83_4 P) (.node (ob147_5 P) .nil .nil) .nil) (.node (ob115_5 P) (.node (ob179_6 P) .nil .nil) .nil))) (.node (ob27_1 P) (.node (ob43_2 P) (.node (ob75_4 P) (.node (ob139_5 P) .nil .nil) .nil) (.node (ob107_5 P) (.node (ob171_6 P) .nil .nil) .nil)) (.node (ob59_3 P) (.node (ob91_4 P) (.node (ob155_6 P) .nil .nil) .nil) (.node (ob123_5 P) (.node (ob187_6 P) .nil .nil) .nil))))) (.node (boot_o_5 P) (.node (boot_o_9 P) (.node (ob17_1 P) (.node (ob33_1 P) (.node (ob65_3 P) (.node (ob129_5 P) .nil .nil) .nil) (.node (ob97_4 P) (.node (ob161_6 P) .nil .nil) .nil)) (.node (ob49_2 P) (.node (ob81_4 P) (.node (ob145_5 P) .nil .nil) .nil) (.node (ob113_5 P) (.node (ob177_6 P) .nil .nil) .nil))) (.node (ob25_1 P) (.node (ob41_2 P) (.node (ob73_3 P) (.node (ob137_5 P) .nil .nil) .nil) (.node (ob105_5 P) (.node (ob169_6 P) .nil .nil) .nil)) (.node (ob57_3 P) (.node (ob89_4 P) (.node (ob153_6 P) .nil .nil) .nil) (.node (ob121_5 P) (.node (ob185_6 P) .nil .nil) .nil)))) (.node (ob13_0 P) (.node (ob21_1 P) (.node (ob37_2 P) (.node (ob69_3 P) (.node (ob133_5 P) .nil .nil) .nil) (.node (ob101_5 P) (.node (ob165_6 P) .nil .nil) .nil)) (.node (ob53_2 P) (.node (ob85_4 P) (.node (ob149_5 P) .nil .nil) .nil) (.node (ob117_5 P) (.node (ob181_6 P) .nil .nil) .nil))) (.node (ob29_1 P) (.node (ob45_2 P) (.node (ob77_4 P) (.node (ob141_5 P) .nil .nil) .nil) (.node (ob109_5 P) (.node (ob173_6 P) .nil .nil) .nil)) (.node (ob61_3 P) (.node (ob93_4 P) (.node (ob157_6 P) .nil .nil) .nil) (.node (ob125_5 P) (.node (ob189_6 P) .nil .nil) .nil)))))) (.node (ob2_1 P) (.node (boot_o_4 P) (.node (boot_o_8 P) (.node (ob16_1 P) (.node (ob32_1 P) (.node (ob64_3 P) (.node (ob128_5 P) .nil .nil) .nil) (.node (ob96_4 P) (.node (ob160_6 P) .nil .nil) .nil)) (.node (ob48_2 P) (.node (ob80_4 P) (.node (ob144_5 P) .nil .nil) .nil) (.node (ob112_5 P) (.node (ob176_6 P) .nil .nil) .nil))) (.node (ob24_1 P) (.node (ob40_2 P) (.node (ob72_3 P) (.node (ob136_5 P) .nil .nil) .nil) (.node (ob104_5 P) (.node (ob168_6 P) .nil .nil) .nil)) (.node (ob56_3 P) (.node (ob88_4 P) (.node (ob152_6 P) .nil .nil) .nil) (.node (ob120_5 P) (.node (ob184_6 P) .nil .nil) .nil)))) (.node (ob12_6 P) (.node (ob20_1 P) (.node (ob36_2 P) (.node (ob68_3 P) (.node (ob132_5 P) .nil .nil) .nil) (.node (ob100_4 P) (.node (ob164_6 P) .nil .nil) .nil)) (.node (ob52_2 P) (.node (ob84_4 P) (.node (ob148_5 P) .nil .nil) .nil) (.node (ob116_5 P) (.node (ob180_6 P) .nil .nil) .nil))) (.node (ob28_1 P) (.node (ob44_2 P) (.node (ob76_4 P) (.node (ob140_5 P) .nil .nil) .nil) (.node (ob108_5 P) (.node (ob172_6 P) .nil .nil) .nil)) (.node (ob60_3 P) (.node (ob92_4 P) (.node (ob156_6 P) .nil .nil) .nil) (.node (ob124_5 P) (.node (ob188_6 P) .nil .nil) .nil))))) (.node (boot_o_6 P) (.node (boot_o_10 P) (.node (ob18_1 P) (.node (ob34_1 P) (.node (ob66_3 P) (.node (ob130_5 P) .nil .nil) .nil) (.node (ob98_4 P) (.node (ob162_6 P) .nil .nil) .nil)) (.node (ob50_2 P) (.node (ob82_4 P) (.node (ob146_5 P) .nil .nil) .nil) (.node (ob114_5 P) (.node (ob178_6 P) .nil .nil) .nil))) (.node (ob26_1 P) (.node (ob42_2 P) (.node (ob74_3 P) (.node (ob138_5 P) .nil .nil) .nil) (.node (ob106_5 P) (.node (ob170_6 P) .nil .nil) .nil)) (.node (ob58_3 P) (.node (ob90_4 P) (.node (ob154_6 P) .nil .nil) .nil) (.node (ob122_5 P) (.node (ob186_6 P) .nil .nil) .nil)))) (.node (ob14_0 P) (.node (ob22_1 P) (.node (ob38_2 P) (.node (ob70_3 P) (.node (ob134_5 P) .nil .nil) .nil) (.node (ob102_5 P) (.node (ob166_6 P) .nil .nil) .nil)) (.node (ob54_3 P) (.node (ob86_4 P) (.node (ob150_5 P) .nil .nil) .nil) (.node (ob118_5 P) (.node (ob182_6 P) .nil .nil) .nil))) (.node (ob30_1 P) (.node (ob46_2 P) (.node (ob78_4 P) (.node (ob142_5 P) .nil .nil) .nil) (.node (ob110_5 P) (.node (ob174_6 P) .nil .nil) .nil)) (.node (ob62_3 P) (.node (ob94_4 P) (.node (ob158_6 P) .nil .nil) .nil) (.node (ob126_5 P) (.node (ob190_6 P) .nil .nil) .nil)))))))
noncomputable def st6 (w : World) (os : OsState) : SharedT := ⟨tr6 w.params, 192, {}, Array.mk [], boot_drawn, 441, os⟩
def ps6 : Pos := (⟨112, 0, 117, 40⟩ : Pos)
noncomputable def gr6 : List Stmt := (bd0.drop 16).take 10
noncomputable def tr7 (P : Params) : BT := (.node (boot_o_0 P) (.node (boot_o_1 P) (.node (ob3_7 P) (.node (boot_o_7 P) (.node (ob15_1 P) (.node (ob31_2 P) (.node (ob63_3 P) (.node (ob127_5 P) .nil .nil) (.node (ob191_6 P) .nil .nil)) (.node (ob95_4 P) (.node (ob159_6 P) .nil .nil) (.node (ob223_7 P) .nil .nil))) (.node (ob47_2 P) (.node (ob79_4 P) (.node (ob143_5 P) .nil .nil) (.node (ob207_7 P) .nil .nil)) (.node (ob111_5 P) (.node (ob175_6 P) .nil .nil) (.node (ob239_7 P) .nil .nil)))) (.node (ob23_1 P) (.node (ob39_2 P) (.node (ob71_3 P) (.node (ob135_5 P) .nil .nil) (.node (ob199_7 P) .nil .nil)) (.node (ob103_5 P) (.node (ob167_6 P) .nil .nil) (.node (ob231_7 P) .nil .nil))) (.node (ob55_3 P) (.node (ob87_4 P) (.node (ob151_6 P) .nil .nil) (.node (ob215_7 P) .nil .nil)) (.node (ob119_5 P) (.node (ob183_6 P) .nil .nil) .nil)))) (.node (ob11_0 P) (.node (ob19_1 P) (.node (ob35_2 P) (.node (ob67_3 P) (.node (ob131_5 P) .nil .nil) (.node (ob195_7 P) .nil .nil)) (.node (ob99_4 P) (.node (ob163_6 P) .nil .nil) (.node (ob227_7 P) .nil .nil))) (.node (ob51_2 P) (.node (ob83_4 P) (.node (ob147_5 P) .nil .nil) (.node (ob211_7 P) .nil .nil)) (.node (ob115_5 P) (.node (ob179_6 P) .nil .nil) .nil))) (.node (ob27_1 P) (.node (ob43_2 P) (.node (ob75_4 P) (.node (ob139_5 P) .nil .nil) (.node (ob203_7 P) .nil .nil)) (.node (ob107_5 P) (.node (ob171_6 P) .nil .nil) (.node (ob235_7 P) .nil .nil))) (.node (ob59_3 P) (.node (ob91_4 P) (.node (ob155_6 P) .nil .nil) (.node (ob219_7 P) .nil .nil)) (.node (ob123_5 P) (.node (ob187_6 P) .nil .nil) .nil))))) (.node (boot_o_5 P) (.node (boot_o_9 P) (.node (ob17_1 P) (.node (ob33_1 P) (.node (ob65_3 P) (.node (ob129_5 P) .nil .nil) (.node (ob193_7 P) .nil .nil)) (.node (ob97_4 P) (.node (ob161_6 P) .nil .nil) (.node (ob225_7 P) .nil .nil))) (.node (ob49_2 P) (.node (ob81_4 P) (.node (ob145_5 P) .nil .nil) (.node (ob209_7 P) .nil .nil)) (.node (ob113_5 P) (.node (ob177_6 P) .nil .nil) .nil))) (.node (ob25_1 P) (.node (ob41_2 P) (.node (ob73_3 P) (.node (ob137_5 P) .nil .nil) (.node (ob201_7 P) .nil .nil)) (.node (ob105_5 P) (.node (ob169_6 P) .nil .nil) (.node (ob233_7 P) .nil .nil))) (.node (ob57_3 P) (.node (ob89_4 P) (.node (ob153_6 P) .nil .nil) (.node (ob217_7 P) .nil .nil)) (.node (ob121_5 P) (.node (ob185_6 P) .nil .nil) .nil)))) (.node (ob13_0 P) (.node (ob21_1 P) (.node (ob37_2 P) (.node (ob69_3 P) (.node (ob133_5 P) .nil .nil) (.node (ob197_7 P) .nil .nil)) (.node (ob101_5 P) (.node (ob165_6 P) .nil .nil) (.node (ob229_7 P) .nil .nil))) (.node (ob53_2 P) (.node (ob85_4 P) (.node (ob149_5 P) .nil .nil) (.node (ob213_7 P) .nil .nil)) (.node (ob117_5 P) (.node (ob181_6 P) .nil .nil) .nil))) (.node (ob29_1 P) (.node (ob45_2 P) (.node (ob77_4 P) (.node (ob141_5 P) .nil .nil) (.node (ob205_7 P) .nil .nil)) (.node (ob109_5 P) (.node (ob173_6 P) .nil .nil) (.node (ob237_7 P) .nil .nil))) (.node (ob61_3 P) (.node (ob93_4 P) (.node (ob157_6 P) .nil .nil) (.node (ob221_7 P) .nil .nil)) (.node (ob125_5 P) (.node (ob189_6 P) .nil .nil) .nil)))))) (.node (ob2_1 P) (.node (boot_o_4 P) (.node (boot_o_8 P) (.node (ob16_1 P) (.node (ob32_1 P) (.node (ob64_3 P) (.node (ob128_5 P) .nil .nil) (.node (ob192_7 P) .nil .nil)) (.node (ob96_4 P) (.node (ob160_6 P) .nil .nil) (.node (ob224_7 P) .nil .nil))) (.node (ob48_2 P) (.node (ob80_4 P) (.node (ob144_5 P) .nil .nil) (.node (ob208_7 P) .nil .nil)) (.node (ob112_5 P) (.node (ob176_6 P) .nil .nil) .nil))) (.node (ob24_1 P) (.node (ob40_2 P) (.node (ob72_3 P) (.node (ob136_5 P) .nil .nil) (.node (ob200_7 P) .nil .nil)) (.node (ob104_5 P) (.node (ob168_6 P) .nil .nil) (.node (ob232_7 P) .nil .nil))) (.node (ob56_3 P) (.node (ob88_4 P) (.node (ob152_6 P) .nil .nil) (.node (ob216_7 P) .nil .nil)) (.node (ob120_5 P) (.node (ob184_6 P) .nil .nil) .nil)))) (.node (ob12_7 P) (.node (ob20_1 P) (.node (ob36_2 P) (.node (ob68_3 P) (.node (ob132_5 P) .nil .nil) (.node (ob196_7 P) .nil .nil)) (.node (ob100_4 P) (.node (ob164_6 P) .nil .nil) (.node (ob228_7 P) .nil .nil))) (.node (ob52_2 P) (.node (ob84_4 P) (.node (ob148_5 P) .nil .nil) (.node (ob212_7 P) .nil .nil)) (.node (ob116_5 P) (.node (ob180_6 P) .nil .nil) .nil))) (.node (ob28_1 P) (.node (ob44_2 P) (.node (ob76_4 P) (.node (ob140_5 P) .nil .nil) (.node (ob204_7 P) .nil .nil)) (.node (ob108_5 P) (.node (ob172_6 P) .nil .nil) (.node (ob236_7 P) .nil .nil))) (.node (ob60_3 P) (.node (ob92_4 P) (.node (ob156_6 P) .nil .nil) (.node (ob220_7 P) .nil .nil)) (.node (ob124_5 P) (.node (ob188_6 P) .nil .nil) .nil))))) (.node (boot_o_6 P) (.node (boot_o_10 P) (.node (ob18_1 P) (.node (ob34_1 P) (.node (ob66_3 P) (.node (ob130_5 P) .nil .nil) (.node (ob194_7 P) .nil .nil)) (.node (ob98_4 P) (.node (ob162_6 P) .nil .nil) (.node (ob226_7 P) .nil .nil))) (.node (ob50_2 P) (.node (ob82_4 P) (.node (ob146_5 P) .nil .nil) (.node (ob210_7 P) .nil .nil)) (.node (ob114_5 P) (.node (ob178_6 P) .nil .nil) .nil))) (.node (ob26_1 P) (.node (ob42_2 P) (.node (ob74_3 P) (.node (ob138_5 P) .nil .nil) (.node (ob202_7 P) .nil .nil)) (.node (ob106_5 P) (.node (ob170_6 P) .nil .nil) (.node (ob234_7 P) .nil .nil))) (.node (ob58_3 P) (.node (ob90_4 P) (.node (ob154_6 P) .nil .nil) (.node (ob218_7 P) .nil .nil)) (.node (ob122_5 P) (.node (ob186_6 P) .nil .nil) .nil)))) (.node (ob14_0 P) (.node (ob22_1 P) (.node (ob38_2 P) (.node (ob70_3 P) (.node (ob134_5 P) .nil .nil) (.node (ob198_7 P) .nil .nil)) (.node (ob102_5 P) (.node (ob166_6 P) .nil .nil) (.node (ob230_7 P) .nil .nil))) (.node (ob54_3 P) (.node (ob86_4 P) (.node (ob150_5 P) .nil .nil) (.node (ob214_7 P) .nil .nil)) (.node (ob118_5 P) (.node (ob182_6 P) .nil .nil) .nil))) (.node (ob30_1 P) (.node (ob46_2 P) (.node (ob78_4 P) (.node (ob142_5 P) .nil .nil) (.node (ob206_7 P) .nil .nil)) (.node (ob110_5 P) (.node (ob174_6 P) .nil .nil) (.node (ob238_7 P) .nil .nil))) (.node (ob62_3 P) (.node (ob94_4 P) (.node (ob158_6 P) .nil .nil) (.node (ob222_7 P) .nil .nil)) (.node (ob126_5 P) (.node (ob190_6 P) .nil .nil) .nil)))))))
noncomputable def st7 (w : World) (os : OsState) : SharedT := ⟨tr7 w.params, 240, {}, Array.mk [], boot_drawn, 512, os⟩
def ps7 : Pos := (⟨176, 0, 189, 30⟩ : Pos)
noncomputable def gr7 : List Stmt := (bd0.drop 26).take 8
noncomputable def tr8 (P : Params) : BT := (.node (boot_o_0 P) (.node (boot_o_1 P) (.node (ob3_8 P) (.node (boot_o_7 P) (.node (ob15_1 P) (.node (ob31_2 P) (.node (ob63_3 P) (.node (ob127_5 P) (.node (ob255_8 P) .nil .nil) .nil) (.node (ob191_6 P) .nil .nil)) (.node (ob95_4 P) (.node (ob159_6 P) .nil .nil) (.node (ob223_7 P) .nil .nil))) (.node (ob47_2 P) (.node (ob79_4 P) (.node (ob143_5 P) .nil .nil) (.node (ob207_7 P) .nil .nil)) (.node (ob111_5 P) (.node (ob175_6 P) .nil .nil) (.node (ob239_7 P) .nil .nil)))) (.node (ob23_1 P) (.node (ob39_2 P) (.node (ob71_3 P) (.node (ob135_5 P) .nil .nil) (.node (ob199_7 P) .nil .nil)) (.node (ob103_5 P) (.node (ob167_6 P) .nil .nil) (.node (ob231_7 P) .nil .nil))) (.node (ob55_3 P) (.node (ob87_4 P) (.node (ob151_6 P) .nil .nil) (.node (ob215_7 P) .nil .nil)) (.node (ob119_5 P) (.node (ob183_6 P) .nil .nil) (.node (ob247_8 P) .nil .nil))))) (.node (ob11_0 P) (.node (ob19_1 P) (.node (ob35_2 P) (.node (ob67_3 P) (.node (ob131_5 P) .nil .nil) (.node (ob195_7 P) .nil .nil)) (.node (ob99_4 P) (.node (ob163_6 P) .nil .nil) (.node (ob227_7 P) .nil .nil))) (.node (ob51_2 P) (.node (ob83_4 P) (.node (ob147_5 P) .nil .nil) (.node (ob211_7 P) .nil .nil)) (.node (ob115_5 P) (.node (ob179_6 P) .nil .nil) (.node (ob243_8 P) .nil .nil)))) (.node (ob27_1 P) (.node (ob43_2 P) (.node (ob75_4 P) (.node (ob139_5 P) .nil .nil) (.node (ob203_7 P) .nil .nil)) (.node (ob107_5 P) (.node (ob171_6 P) .nil .nil) (.node (ob235_7 P) .nil .nil))) (.node (ob59_3 P) (.node (ob91_4 P) (.node (ob155_6 P) .nil .nil) (.node (ob219_7 P) .nil .nil)) (.node (ob123_5 P) (.node (ob187_6 P) .nil .nil) (.node (ob251_8 P) .nil .nil)))))) (.node (boot_o_5 P) (.node (boot_o_9 P) (.node (ob17_1 P) (.node (ob33_1 P) (.node (ob65_3 P) (.node (ob129_5 P) .nil .nil) (.node (ob193_7 P) .nil .nil)) (.node (ob97_4 P) (.node (ob161_6 P) .nil .nil) (.node (ob225_7 P) .nil .nil))) (.node (ob49_2 P) (.node (ob81_4 P) (.node (ob145_5 P) .nil .nil) (.node (ob209_7 P) .nil .nil)) (.node (ob113_5 P) (.node (ob177_6 P) .nil .nil) (.node (ob241_8 P) .nil .nil)))) (.node (ob25_1 P) (.node (ob41_2 P) (.node (ob73_3 P) (.node (ob137_5 P) .nil .nil) (.node (ob201_7 P) .nil .nil)) (.node (ob105_5 P) (.node (ob169_6 P) .nil .nil) (.node (ob233_7 P) .nil .nil))) (.node (ob57_3 P) (.node (ob89_4 P) (.node (ob153_6 P) .nil .nil) (.node (ob217_7 P) .nil .nil)) (.node (ob121_5 P) (.node (ob185_6 P) .nil .nil) (.node (ob249_8 P) .nil .nil))))) (.node (ob13_0 P) (.node (ob21_1 P) (.node (ob37_2 P) (.node (ob69_3 P) (.node (ob133_5 P) .nil .nil) (.node (ob197_7 P) .nil .nil)) (.node (ob101_5 P) (.node (ob165_6 P) .nil .nil) (.node (ob229_7 P) .nil .nil))) (.node (ob53_2 P) (.node (ob85_4 P) (.node (ob149_5 P) .nil .nil) (.node (ob213_7 P) .nil .nil)) (.node (ob117_5 P) (.node (ob181_6 P) .nil .nil) (.node (ob245_8 P) .nil .nil)))) (.node (ob29_1 P) (.node (ob45_2 P) (.node (ob77_4 P) (.node (ob141_5 P) .nil .nil) (.node (ob205_7 P) .nil .nil)) (.node (ob109_5 P) (.node (ob173_6 P) .nil .nil) (.node (ob237_7 P) .nil .nil))) (.node (ob61_3 P) (.node (ob93_4 P) (.node (ob157_6 P) .nil .nil) (.node (ob221_7 P) .nil .nil)) (.node (ob125_5 P) (.node (ob189_6 P) .nil .nil) (.node (ob253_8 P) .nil .nil))))))) (.node (ob2_1 P) (.node (boot_o_4 P) (.node (boot_o_8 P) (.node (ob16_1 P) (.node (ob32_1 P) (.node (ob64_3 P) (.node (ob128_5 P) (.node (ob256_8 P) .nil .nil) .nil) (.node (ob192_7 P) .nil .nil)) (.node (ob96_4 P) (.node (ob160_6 P) .nil .nil) (.node (ob224_7 P) .nil .nil))) (.node (ob48_2 P) (.node (ob80_4 P) (.node (ob144_5 P) .nil .nil) (.node (ob208_7 P) .nil .nil)) (.node (ob112_5 P) (.node (ob176_6 P) .nil .nil) (.node (ob240_8 P) .nil .nil)))) (.node (ob24_1 P) (.node (ob40_2 P) (.node (ob72_3 P) (.node (ob136_5 P) .nil .nil) (.node (ob200_7 P) .nil .nil)) (.node (ob104_5 P) (.node (ob168_6 P) .nil .nil) (.node (ob232_7 P) .nil .nil))) (.node (ob56_3 P) (.node (ob88_4 P) (.node (ob152_6 P) .nil .nil) (.node (ob216_7 P) .nil .nil)) (.node (ob120_5 P) (.node (ob184_6 P) .nil .nil) (.node (ob248_8 P) .nil .nil))))) (.node (ob12_8 P) (.node (ob20_1 P) (.node (ob36_2 P) (.node (ob68_3 P) (.node (ob132_5 P) .nil .nil) (.node (ob196_7 P) .nil .nil)) (.node (ob100_4 P) (.node (ob164_6 P) .nil .nil) (.node (ob228_7 P) .nil .nil))) (.node (ob52_2 P) (.node (ob84_4 P) (.node (ob148_5 P) .nil .nil) (.node (ob212_7 P) .nil .nil)) (.node (ob116_5 P) (.node (ob180_6 P) .nil .nil) (.node (ob244_8 P) .nil .nil)))) (.node (ob28_1 P) (.node (ob44_2 P) (.node (ob76_4 P) (.node (ob140_5 P) .nil .nil) (.node (ob204_7 P) .nil .nil)) (.node (ob108_5 P) (.node (ob172_6 P) .nil .nil) (.node (ob236_7 P) .nil .nil))) (.node (ob60_3 P) (.node (ob92_4 P) (.node (ob156_6 P) .nil .nil) (.node (ob220_7 P) .nil .nil)) (.node (ob124_5 P) (.node (ob188_6 P) .nil .nil) (.node (ob252_8 P) .nil .nil)))))) (.node (boot_o_6 P) (.node (boot_o_10 P) (.node (ob18_1 P) (.node (ob34_1 P) (.node (ob66_3 P) (.node (ob130_5 P) .nil .nil) (.node (ob194_7 P) .nil .nil)) (.node (ob98_4 P) (.node (ob162_6 P) .nil .nil) (.node (ob226_7 P) .nil .nil))) (.node (ob50_2 P) (.node (ob82_4 P) (.node (ob146_5 P) .nil .nil) (.node (ob210_7 P) .nil .nil)) (.node (ob114_5 P) (.node (ob178_6 P) .nil .nil) (.node (ob242_8 P) .nil .nil)))) (.node (ob26_1 P) (.node (ob42_2 P) (.node (ob74_3 P) (.node (ob138_5 P) .nil .nil) (.node (ob202_7 P) .nil .nil)) (.node (ob106_5 P) (.node (ob170_6 P) .nil .nil) (.node (ob234_7 P) .nil .nil))) (.node (ob58_3 P) (.node (ob90_4 P) (.node (ob154_6 P) .nil .nil) (.node (ob218_7 P) .nil .nil)) (.node (ob122_5 P) (.node (ob186_6 P) .nil .nil) (.node (ob250_8 P) .nil .nil))))) (.node (ob14_0 P) (.node (ob22_1 P) (.node (ob38_2 P) (.node (ob70_3 P) (.node (ob134_5 P) .nil .nil) (.node (ob198_7 P) .nil .nil)) (.node (ob102_5 P) (.node (ob166_6 P) .nil .nil) (.node (ob230_7 P) .nil .nil))) (.node (ob54_3 P) (.node (ob86_4 P) (.node (ob150_5 P) .nil .nil) (.node (ob214_7 P) .nil .nil)) (.node (ob118_5 P) (.node (ob182_6 P) .nil .nil) (.node (ob246_8 P) .nil .nil)))) (.node (ob30_1 P) (.node (ob46_2 P) (.node (ob78_4 P) (.node (ob142_5 P) .nil .nil) (.node (ob206_7 P) .nil .nil)) (.node (ob110_5 P) (.node (ob174_6 P) .nil .nil) (.node (ob238_7 P) .nil .nil))) (.node (ob62_3 P) (.node (ob94_4 P) (.node (ob158_6 P) .nil .nil) (.node (ob222_7 P) .nil .nil)) (.node (ob126_5 P) (.node (ob190_6 P) .nil .nil) (.node (ob254_8 P) .nil .nil))))))))
noncomputable def st8 (w : World) (os : OsState) : SharedT := ⟨tr8 w.params, 257, {}, Array.mk [], boot_drawn, 535, os⟩
def ps8 : Pos := (⟨203, 0, 227, 88⟩ : Pos)
noncomputable def gr8 : List Stmt := (bd0.drop 34).take 3
theorem pre0 : ∀ w : World, (fun os => topGo treeTable pw w 11 (some (.ref 6)) 12 ⟨boot_heap w.params, Array.mk [], boot_drawn, boot_toks, os⟩ (topStub pw)) = fun os => some ((st0 w os).abs, ⟨denote treeTable c0, c0, ps0, [topFrame ps0]⟩) := by
  rw [PySem.W.Fast.te15667345088766844465, PySem.W.Fast.te14364793385576792824, PySem.W.Fast.te11892475500146522536]
  intro w; kernel_rfl
theorem blk0 : ∀ (w : World) (s : Shared), segRun treeTable pw w 11 (some (.ref 6)) 1 1 s (blockOf bd0 env0 c0 ps0 [topFrame ps0]) = some (.next, s, c0, ps0) := fun w s => by kernel_rfl
theorem pc1 : ∀ w : World, (fun os => segRunT treeTable pw w 11 (some (.ref 6)) 1 238 (st0 w os) (piecesOf gr1 env0 c0 ps0 [topFrame ps0])) = fun os => some (.next, st1 w os, c0, ps1) := by
  rw [PySem.W.Fast.te10110043849684766642, PySem.W.Fast.te14364793385576792824]
  intro w; kernel_rfl
theorem pc2 : ∀ w : World, (fun os => segRunT treeTable pw w 11 (some (.ref 6)) 1 259 (st1 w os) (piecesOf gr2 env0 c0 ps1 [topFrame ps0])) = fun os => some (.next, st2 w os, c0, ps2) := by
  rw [PySem.W.Fast.te10110043849684766642, PySem.W.Fast.te14364793385576792824]
  intro w; kernel_rfl
theorem pc3 : ∀ w : World, (fun os => segRunT treeTable pw w 11 (some (.ref 6)) 1 225 (st2 w os) (piecesOf gr3 env0 c0 ps2 [topFrame ps0])) = fun os => some (.next, st3 w os, c0, ps3) := by
  rw [PySem.W.Fast.te10110043849684766642, PySem.W.Fast.te14364793385576792824]
  intro w; kernel_rfl
theorem pc4 : ∀ w : World, (fun os => segRunT treeTable pw w 11 (some (.ref 6)) 1 251 (st3 w os) (piecesOf gr4 env0 c0 ps3 [topFrame ps0])) = fun os => some (.next, st4 w os, c0, ps4) := by
  rw [PySem.W.Fast.te10110043849684766642, PySem.W.Fast.te14364793385576792824]
  intro w; kernel_rfl
theorem pc5 : ∀ w : World, (fun os => segRunT treeTable pw w 11 (some (.ref 6)) 1 243 (st4 w os) (piecesOf gr5 env0 c0 ps4 [topFrame ps0])) = fun os => some (.next, st5 w os, c0, ps5) := by
  rw [PySem.W.Fast.te10110043849684766642, PySem.W.Fast.te14364793385576792824]
  intro w; kernel_rfl
theorem pc6 : ∀ w : World, (fun os => segRunT treeTable pw w 11 (some (.ref 6)) 1 231 (st5 w os) (piecesOf gr6 env0 c0 ps5 [topFrame ps0])) = fun os => some (.next, st6 w os, c0, ps6) := by
  rw [PySem.W.Fast.te10110043849684766642, PySem.W.Fast.te14364793385576792824]
  intro w; kernel_rfl
theorem pc7 : ∀ w : World, (fun os => segRunT treeTable pw w 11 (some (.ref 6)) 1 240 (st6 w os) (piecesOf gr7 env0 c0 ps6 [topFrame ps0])) = fun os => some (.next, st7 w os, c0, ps7) := by
  rw [PySem.W.Fast.te10110043849684766642, PySem.W.Fast.te14364793385576792824]
  intro w; kernel_rfl
theorem pc8 : ∀ w : World, (fun os => segRunT treeTable pw w 11 (some (.ref 6)) 1 86 (st7 w os) (piecesOf gr8 env0 c0 ps7 [topFrame ps0])) = fun os => some (.next, st8 w os, c0, ps8) := by
  rw [PySem.W.Fast.te10110043849684766642, PySem.W.Fast.te14364793385576792824]
  intro w; kernel_rfl
theorem cat0 : gr1 ++ (gr2 ++ (gr3 ++ (gr4 ++ (gr5 ++ (gr6 ++ (gr7 ++ (gr8 ++ []))))))) = bd0 := by kernel_rfl
theorem fin0 (w : World) (s : Shared) (p : Pos) : topRun treeTable pw w 11 (some (.ref 6)) 2 s ⟨doneF .next, c0, p, [topFrame ps0]⟩ = some s := rfl
theorem run0 (w : World) (os : OsState) : topRun treeTable pw w 11 (some (.ref 6)) (12 + (1 + (238 + (259 + (225 + (251 + (243 + (231 + (240 + (86 + (2))))))))))) ⟨boot_heap w.params, Array.mk [], boot_drawn, boot_toks, os⟩ (topStub pw) = some (st8 w os).abs := by
  have r := piece_app (segRun_of (congrFun (pc1 w) os)) (piece_app (segRun_of (congrFun (pc2 w) os)) (piece_app (segRun_of (congrFun (pc3 w) os)) (piece_app (segRun_of (congrFun (pc4 w) os)) (piece_app (segRun_of (congrFun (pc5 w) os)) (piece_app (segRun_of (congrFun (pc6 w) os)) (piece_app (segRun_of (congrFun (pc7 w) os)) (piece_app (segRun_of (congrFun (pc8 w) os)) (piece_nil (env := env0) (fin0 w _ _)))))))))
  rw [cat0] at r
  exact go_top (congrFun (pre0 w) os) (piece_block (blk0 w _) r)
theorem size0 : ∀ w : World, ((boot_heap w.params).isNs mainGlobals && (Array.mk [] : Array GenState).size == 0, (boot_heap w.params).objs.size, (boot_heap w.params).nsMap mainGlobals "__annotations__") = (true, 11, some (.ref 6)) := fun w => by kernel_rfl
theorem open0 : ∀ w : World, (fencedOpening treeTable pw w 3656).map (fun s => (s.heap, s.gens, s.drawn, s.toks)) = some (boot_heap w.params, Array.mk [], boot_drawn, boot_toks) := boot_open (by kernel_rfl) (by kernel_rfl) (fun s => by kernel_rfl)
theorem lo0 : ∀ w : World, (fun os => staticsOk (importedModules pw.main.body) (boot_heap w.params) (st8 w os).abs.heap) = fun _ => true := fun w => by kernel_rfl
theorem lo1 : ∀ w : World, (fun os => namesBound pw (st8 w os).abs.heap) = fun _ => true := fun w => by kernel_rfl
theorem lo2 : ∀ w : World, (fun os => gensDone (st8 w os).abs) = fun _ => true := fun w => by kernel_rfl
theorem lo3 : ∀ w : World, (fun os => laidKept (boot_heap w.params) (st8 w os).abs.heap) = fun _ => true := fun w => by kernel_rfl
theorem lk0 : ∀ w : World, (fun os => (openSeen viewV [] (importedModules pw.main.body) (fun s => xlAt viewV [] s && recOk (RowW.records (OpenRow.toRowW (OpenLaw.row Challenge.rw_pb0006_01))) s) true (st8 w os).abs).1) = fun _ => expectedOf viewV := by
  rw [PySem.W.Fast.te4187177175401517315, PySem.W.Fast.te5923862056798008813]
  intro w; kernel_rfl
theorem lk1 : ∀ w : World, (fun os => (openSeen viewV [] (importedModules pw.main.body) (fun s => xlAt viewV [] s && recOk (RowW.records (OpenRow.toRowW (OpenLaw.row Challenge.rw_pb0006_01))) s) true (st8 w os).abs).2.1) = fun _ => bltViewBooted := by
  rw [PySem.W.Fast.te4187177175401517315, PySem.W.Fast.te5923862056798008813]
  intro w; kernel_rfl
theorem lk2 : ∀ w : World, (fun os => (openSeen viewV [] (importedModules pw.main.body) (fun s => xlAt viewV [] s && recOk (RowW.records (OpenRow.toRowW (OpenLaw.row Challenge.rw_pb0006_01))) s) true (st8 w os).abs).2.2.1) = fun _ => true := by
  rw [PySem.W.Fast.te4187177175401517315, PySem.W.Fast.te5923862056798008813]
  intro w; kernel_rfl
theorem lk3 : ∀ w : World, (fun os => (openSeen viewV [] (importedModules pw.main.body) (fun s => xlAt viewV [] s && recOk (RowW.records (OpenRow.toRowW (OpenLaw.row Challenge.rw_pb0006_01))) s) true (st8 w os).abs).2.2.2.1) = fun _ => true := by
  rw [PySem.W.Fast.te4187177175401517315, PySem.W.Fast.te5923862056798008813]
  intro w; kernel_rfl
theorem lk4 : ∀ w : World, (fun os => (openSeen viewV [] (importedModules pw.main.body) (fun s => xlAt viewV [] s && recOk (RowW.records (OpenRow.toRowW (OpenLaw.row Challenge.rw_pb0006_01))) s) true (st8 w os).abs).2.2.2.2.1) = fun _ => pinGoodD (drecsOf viewV) := by
  rw [PySem.W.Fast.te4187177175401517315, PySem.W.Fast.te5923862056798008813]
  intro w; kernel_rfl
theorem lk5 : ∀ w : World, (fun os => (openSeen viewV [] (importedModules pw.main.body) (fun s => xlAt viewV [] s && recOk (RowW.records (OpenRow.toRowW (OpenLaw.row Challenge.rw_pb0006_01))) s) true (st8 w os).abs).2.2.2.2.2.1) = fun _ => plainGoodE viewV (looseW viewV []) := by
  rw [PySem.W.Fast.te4187177175401517315, PySem.W.Fast.te5923862056798008813]
  intro w; kernel_rfl
theorem lk6 : ∀ w : World, (fun os => (openSeen viewV [] (importedModules pw.main.body) (fun s => xlAt viewV [] s && recOk (RowW.records (OpenRow.toRowW (OpenLaw.row Challenge.rw_pb0006_01))) s) true (st8 w os).abs).2.2.2.2.2.2.1) = fun _ => plainGoodD viewV [] := by
  rw [PySem.W.Fast.te4187177175401517315, PySem.W.Fast.te5923862056798008813]
  intro w; kernel_rfl
theorem lk7 : ∀ w : World, (fun os => (openSeen viewV [] (importedModules pw.main.body) (fun s => xlAt viewV [] s && recOk (RowW.records (OpenRow.toRowW (OpenLaw.row Challenge.rw_pb0006_01))) s) true (st8 w os).abs).2.2.2.2.2.2.2.1) = fun _ => wideGood viewV := by
  rw [PySem.W.Fast.te4187177175401517315, PySem.W.Fast.te5923862056798008813]
  intro w; kernel_rfl
theorem lk8 : ∀ w : World, (fun os => (openSeen viewV [] (importedModules pw.main.body) (fun s => xlAt viewV [] s && recOk (RowW.records (OpenRow.toRowW (OpenLaw.row Challenge.rw_pb0006_01))) s) true (st8 w os).abs).2.2.2.2.2.2.2.2) = fun _ => clsGoodW viewV [] := by
  rw [PySem.W.Fast.te4187177175401517315, PySem.W.Fast.te5923862056798008813]
  intro w; kernel_rfl
theorem lk (w : World) (os : OsState) : openSeen viewV [] (importedModules pw.main.body) (fun s => xlAt viewV [] s && recOk (RowW.records (OpenRow.toRowW (OpenLaw.row Challenge.rw_pb0006_01))) s) true (st8 w os).abs = openGood viewV [] := Prod.ext (congrFun (lk0 w) os) (Prod.ext (congrFun (lk1 w) os) (Prod.ext (congrFun (lk2 w) os) (Prod.ext (congrFun (lk3 w) os) (Prod.ext (congrFun (lk4 w) os) (Prod.ext (congrFun (lk5 w) os) (Prod.ext (congrFun (lk6 w) os) (Prod.ext (congrFun (lk7 w) os) (congrFun (lk8 w) os))))))))
theorem lkK : ∀ w : World, (fun os => heapA.map (st8 w os).abs.heap.get?) = fun _ => (heapK w.params).map fun p => some p.2 := fun w => by kernel_rfl
theorem heapA_is : ∀ P, heapA = (heapK P).map (·.1) := fun _ => by kernel_rfl
theorem left0 : LeftO (RowW.prog (OpenRow.toRowW (OpenLaw.row Challenge.rw_pb0006_01))) viewV [] (fun s => xlAt viewV [] s && recOk (RowW.records (OpenRow.toRowW (OpenLaw.row Challenge.rw_pb0006_01))) s)
    (Hook.obs (kHook heapK heapA heapA_is)) (Hook.val (kHook heapK heapA heapA_is)) 3656 :=
  LeftO.of_pieces (α := List (Option Obj)) (q := viewV) (loose := []) (Xt := (fun s => xlAt viewV [] s && recOk (RowW.records (OpenRow.toRowW (OpenLaw.row Challenge.rw_pb0006_01))) s)) (g0 := true) (H₀ := boot_heap) (H₁ := fun P => absHeap (tr8 P) 257 {}) (gs₁ := Array.mk []) (d₁ := boot_drawn) (k₁ := 535) (Yf := fun s => heapA.map s.heap.get?) (Ya := fun w => (heapK w.params).map fun p : Addr × Obj => some p.2)
    open0 size0 run0 (by kernel_rfl)
    (fun w => funext fun os => looks_pair (look_both (look_both (look_both (congrFun (lo0 w) os) (congrFun (lo1 w) os)) (congrFun (lo2 w) os)) (congrFun (lo3 w) os)) (looks_pair (lk w os) (congrFun (lkK w) os)))
theorem so0 : sreFenced pw.main = true := by
  rw [PySem.W.Fast.te11788848310118352699]; kernel_rfl
theorem so2 : namesResolve pw = true := by
  rw [PySem.W.Fast.te8377067652309620493]; kernel_rfl
theorem so4 : noRoadLSs { strict := !(importedModules pw.main.body).all cThrough.contains, foot := none, bare := (["vars", "dir", "locals"] : List Str).filter (readsOut pw pw.main.body) } pw.main.body = true := by
  rw [PySem.W.Fast.te8326940854005059898, PySem.W.Fast.te5923862056798008813, PySem.W.Fast.te13343964577679436407]; kernel_rfl
theorem so5 : (namesMeet pw pw.main.body fun _ n => attrL n) = true := by
  rw [PySem.W.Fast.te17119622794617984870, PySem.W.Fast.te17868728402115742887]; kernel_rfl
theorem looks1 : looksOpen pw = true := by
  unfold looksOpen
  exact look_both (look_both (look_both (look_both (look_both so0 (by kernel_rfl)) so2) (by kernel_rfl)) so4) so5
theorem part1 : OpenRow.partSaid (OpenLaw.row Challenge.rw_pb0006_01) = true := by
  unfold OpenRow.partSaid
  repeat' with_reducible refine look_both ?_ ?_
  · exact looks1
  all_goals kernel_rfl
theorem row1 : OpenRow.wellSaid (OpenLaw.row Challenge.rw_pb0006_01) = true := by
  unfold OpenRow.wellSaid
  refine look_both (look_both part1 ?_) ?_
  all_goals kernel_rfl
theorem said0 : OpenLaw.wellSaid Challenge.rw_pb0006_01 = true := by
  unfold OpenLaw.wellSaid
  repeat' with_reducible refine look_both ?_ ?_
  · exact row1
  all_goals
    try rw [PySem.W.Fast.te8326940854005059898]
    try rw [PySem.W.Fast.te17119622794617984870]
    try rw [PySem.W.Fast.te8179353310426384613]
    try rw [PySem.W.Fast.te10501279942588096481]
    try rw [PySem.W.Fast.te9558739934217749035]
    try rw [PySem.W.Fast.te16286561074155671207]
    try rw [PySem.W.Fast.te6984425678791042302]
    try rw [PySem.W.Fast.te17095254045102204799]
    try rw [PySem.W.Fast.te482687673346738481]
    try rw [PySem.W.Fast.named_eq]
    kernel_rfl

end
section
abbrev Led := List (Addr × Obj)

/-- what a call of a def does: the ledger ahead, what comes back and the ledger behind -/
def Does (k : Nat) (w : World) (mean : ExcName → Option Value) (mg mb : Str → Option Value) (f : Addr) (vs : List Value) (pre : Led) (ret : Value → Led → Prop) : Prop :=
  ∀ (dp un : Nat) (gd : Option (List Code)) (cn : Str) (cs : Scope) (a : Addr) (ccd : Value) (cl : List (Str × Addr)) (outer : List Env) (A₀ : Around) (base h₀ : Heap) (L : Addr) (m : Str → Option Value) (s : Shared)
    (Q E : Value → Shared → Prop),
    Below A₀ base outer h₀ → Fr h₀ L s.heap m → (heapK w.params).In h₀ → News h₀ L s.heap pre → Top viewV (looseW viewV []) mean mg mb h₀ → cs.kind = .function → dp + k < recursionLimit → un + 8 * k < cLine →
    (∀ r post h' tk', Fr h₀ L h' m → News h₀ L h' post → ret r post → Q r { s with heap := h', toks := tk' }) →
    wpAny (model Challenge.rw_pb0006_01.row.prog w) (ktrTop dp un gd cn cs L a ccd cl outer) (call (.ref f) vs) Q E s

section
variable {k : Nat} {w : World} {mean : ExcName → Option Value} {mg mb : Str → Option Value} {f : Addr} {vs : List Value} {pre : Led} {ret : Value → Led → Prop} {dp un : Nat} {gd : Option (List Code)} {cn : Str} {cs : Scope} {a : Addr} {ccd : Value} {cl : List (Str × Addr)} {outer : List Env} {A₀ : Around} {base h₀ : Heap} {L : Addr} {m : Str → Option Value} {s : Shared}
    {Q E : Value → Shared → Prop}
theorem Does.use (D : Does k w mean mg mb f vs pre ret) (B : Below A₀ base outer h₀) (F : Fr h₀ L s.heap m) (X : (heapK w.params).In h₀) (N : News h₀ L s.heap pre) (T : Top viewV (looseW viewV []) mean mg mb h₀) (hk : cs.kind = .function) (hd : dp + k < recursionLimit) (hu : un + 8 * k < cLine)
    (hret : ∀ r post h' tk', Fr h₀ L h' m → News h₀ L h' post → ret r post → Q r { s with heap := h', toks := tk' }) :
    wpAny (model Challenge.rw_pb0006_01.row.prog w) (ktrTop dp un gd cn cs L a ccd cl outer) (call (.ref f) vs) Q E s := D _ _ _ _ _ _ _ _ _ _ _ _ _ _ _ _ _ B F X N T hk hd hu hret
theorem Does.on (B : Below A₀ base outer h₀) (F : Fr h₀ L s.heap m) (X : (heapK w.params).In h₀) (N : News h₀ L s.heap pre) (T : Top viewV (looseW viewV []) mean mg mb h₀) (hk : cs.kind = .function) (hd : dp + k < recursionLimit) (hu : un + 8 * k < cLine)
    (D : Does k w mean mg mb f vs pre ret) (hret : ∀ r post h' tk', Fr h₀ L h' m → News h₀ L h' post → ret r post → Q r { s with heap := h', toks := tk' }) :
    wpAny (model Challenge.rw_pb0006_01.row.prog w) (ktrTop dp un gd cn cs L a ccd cl outer) (call (.ref f) vs) Q E s := D _ _ _ _ _ _ _ _ _ _ _ _ _ _ _ _ _ B F X N T hk hd hu hret
end

section
variable {d : Addr} {o o' : Obj} {news : Led} {u : Obj → Led}
theorem updF_mem (U : UpdF d o news u) : (d, o) ∈ news := by
  induction U with
  | head _ => exact .head _
  | tail _ _ ih => exact .tail _ ih
theorem updF_put (U : UpdF d o news u) (o' : Obj) : ∀ p ∈ u o', p = (d, o') ∨ (p ∈ news ∧ p.1 ≠ d) := by
  induction U with
  | head h =>
    intro p hp
    rcases List.mem_cons.mp hp with rfl | hp
    · exact .inl rfl
    · exact .inr ⟨.tail _ hp, h p hp⟩
  | tail hne _ ih =>
    intro p hp
    rcases List.mem_cons.mp hp with rfl | hp
    · exact .inr ⟨.head _, hne⟩
    · exact (ih p hp).imp id fun x => ⟨.tail _ x.1, x.2⟩
theorem updF_stay (U : UpdF d o news u) (o' : Obj) {p : Addr × Obj} (hp : p ∈ news) (hne : p.1 ≠ d) : p ∈ u o' := by
  induction U with
  | head h =>
    rcases List.mem_cons.mp hp with rfl | hp
    · exact absurd rfl hne
    · exact .tail _ hp
  | tail hne' _ ih =>
    rcases List.mem_cons.mp hp with rfl | hp
    · exact .head _
    · exact .tail _ (ih hp)
/-- the ledger less one address -/
def less (d : Addr) (news : Led) : Led := news.filter fun p => decide (p.1 ≠ d)
theorem less_mem {p : Addr × Obj} : p ∈ less d news ↔ p ∈ news ∧ p.1 ≠ d := by simp [less]
theorem updF_less {h₀ : Heap} {L : Addr} {h : Heap} (U : UpdF d o news u) (N : News h₀ L h news) : News h₀ L h ((d, o) :: less d news) := fun p hp => by
  rcases List.mem_cons.mp hp with rfl | hp
  · exact N _ (updF_mem U)
  · exact N _ (less_mem.mp hp).1
theorem updF_back {h₀ : Heap} {L : Addr} {h : Heap} (U : UpdF d o news u) {o' : Obj} (N : News h₀ L h ((d, o') :: less d news)) : News h₀ L h (u o') := fun p hp => by
  rcases updF_put U o' p hp with rfl | hp
  · exact N _ (.head _)
  · exact N _ (.tail _ (less_mem.mpr hp))
theorem updF_here (U : UpdF d o news u) (o' : Obj) : (d, o') ∈ u o' := by
  induction U with
  | head _ => exact .head _
  | tail _ _ ih => exact .tail _ ih
theorem less_off : OwnOff (less d news) [d] := fun p hp b hb => by rw [List.mem_singleton.mp hb]; exact (less_mem.mp hp).2
theorem newsApp {h₀ : Heap} {L : Addr} {h : Heap} {tl l l' : Led} (N : News h₀ L h (tl ++ l)) (N' : News h₀ L h l') : News h₀ L h (tl ++ l') := fun p hp => (List.mem_append.mp hp).elim (fun x => N p (List.mem_append_left _ x)) (N' p)
theorem news_same {h₀ : Heap} {L : Addr} {h : Heap} {a : Addr} {o₁ o₂ : Obj} (N : News h₀ L h news) (h1 : (a, o₁) ∈ news) (h2 : (a, o₂) ∈ news) : o₁ = o₂ := by
  have e := (N _ h1).1
  rw [(N _ h2).1] at e
  exact (Option.some.inj e).symm
end

end
section
def Stop (P : Prop) : Prop := P
theorem stop_it {P : Prop} (h : Stop P) : P := h
theorem allLtNe {d : Addr} {l : Led} (h : AllLt d l) : ∀ p ∈ l, p.1 ≠ d := fun p hp => Nat.ne_of_lt (ktn_ltOf h p hp)

theorem ltNe {d e : Addr} {l : Led} (h : ∀ p ∈ l, p.1 < d) (hde : @LE.le Nat _ d e) : ∀ p ∈ l, p.1 ≠ e := fun p hp => Nat.ne_of_lt (Nat.lt_of_lt_of_le (h p hp) hde)
theorem ltNe' {d e : Addr} {l : Led} (h : AllLt d l) (hde : @LE.le Nat _ d e) : ∀ p ∈ l, p.1 ≠ e := fun p hp => Nat.ne_of_lt (Nat.lt_of_lt_of_le (ktn_ltOf h p hp) hde)
/-- a row's members by index -/
def rc : Int → List Int → List (Int × Int)
  | _, [] => []
  | lo, x :: xs => (lo, x) :: rc (lo + 1) xs
theorem rc_length : ∀ (lo : Int) (xs : List Int), (rc lo xs).length = xs.length
  | _, [] => rfl
  | lo, _ :: xs => by simp [rc, rc_length (lo + 1) xs]
theorem rc_append (lo : Int) (xs ys : List Int) : rc lo (xs ++ ys) = rc lo xs ++ rc (lo + xs.length) ys := by
  induction xs generalizing lo with
  | nil => simp [rc]
  | cons x xs ih =>
    simp only [List.cons_append, rc, ih, List.length_cons]
    congr 3; push_cast; omega
theorem rc_has : ∀ (lo : Int) (xs : List Int) (k : Int), kdfHas (rc lo xs) k = decide (lo ≤ k ∧ k < lo + xs.length)
  | lo, [], k => by
    simp only [rc, kdfHas, List.any_nil, List.length_nil]
    symm; apply decide_eq_false; omega
  | lo, x :: xs, k => by
    have ih := rc_has (lo + 1) xs k
    simp only [kdfHas] at ih
    simp only [rc, kdfHas, List.any_cons, ih, List.length_cons]
    rw [← Bool.decide_or]
    congr 1
    push_cast
    apply propext; constructor <;> omega
theorem rc_look : ∀ (lo : Int) (xs : List Int) (k : Int), lo ≤ k → k < lo + xs.length → kdfLook (rc lo xs) k 0 = xs.getD (k - lo).toNat 0
  | lo, [], k, h1, h2 => by simp at h2; omega
  | lo, x :: xs, k, h1, h2 => by
    simp only [rc, kdfLook, List.find?_cons]
    by_cases h : lo = k
    · subst h; simp
    · simp only [h, decide_false]
      have ih := rc_look (lo + 1) xs k (by omega) (by simp at h2; omega)
      simp only [kdfLook] at ih
      rw [ih]
      have e : (k - lo).toNat = (k - (lo + 1)).toNat + 1 := by omega
      rw [e, List.getD_cons_succ]
theorem rc_put (lo : Int) (xs : List Int) (v : Int) : kdfPut (rc lo xs) (lo + xs.length) v = rc lo (xs ++ [v]) := by
  have h : kdfHas (rc lo xs) (lo + xs.length) = false := by rw [rc_has]; simp
  unfold kdfPut
  simp only [kdfHas] at h
  simp only [h, rc_append, rc]
  simp

section
variable {prog : Program} {w : World} {A : Around} {E : Value → Shared → Prop} {s : Shared} {env : Env} {h₀ : Heap} {x : Str} {body : List Stmt} {Q : Flow → Shared → Prop}
/-- a turn's end: what holds, the iterator beside -/
def TurnEnd (h₀ : Heap) (L : Addr) (J : (Str → Option Value) → Led → Prop) (own : Led) (s₁ s₂ : Shared) : Prop :=
  ∃ h' tk m' news', s₂ = { s₁ with heap := h', toks := tk } ∧ Fr h₀ L h' m' ∧ News h₀ L h' (news' ++ own) ∧ (∀ p ∈ news', ∀ q ∈ own, p.1 ≠ q.1) ∧ J m' news'
def TurnPost (h₀ : Heap) (L : Addr) (J : (Str → Option Value) → Led → Prop) (own : Led) (s₁ : Shared) (Q : Flow → Shared → Prop) (f : Flow) (s₂ : Shared) : Prop :=
  match f with
  | .ret v => Q (.ret v) s₂
  | .brk => Q .next s₂
  | _ => TurnEnd h₀ L J own s₁ s₂
theorem range_J {r : Addr} {a₀ b₀ : Int} {t₀ u₀ v₀ : Tok} {n : Nat} {m₀ : Str → Option Value} {news : Led} (J : Nat → (Str → Option Value) → Led → Prop)
    (hh : A.handled = none) (hr : IsRange s.heap r a₀ b₀ 1 t₀ u₀ v₀) (hsmall : Builtin.Range.small a₀ b₀ 1 = true) (hn : Builtin.Range.rangeSize a₀ b₀ 1 = (n : Int)) (F : Fr h₀ env.locals s.heap m₀) (N : News h₀ env.locals s.heap news) (hj : J 0 m₀ news)
    (turn : ∀ (i : Nat) t m₁ news₁ h tk own, i < n → J i m₁ news₁ → (∀ p ∈ news₁, ∀ q ∈ own, p.1 ≠ q.1) →
      Fr h₀ env.locals h (fun y => if y = x then some (.int (a₀ + i) t) else m₁ y) → News h₀ env.locals h (news₁ ++ own) →
      wpAny (model prog w) A (execs body env) (TurnPost h₀ env.locals (J (i + 1)) own { s with heap := h, toks := tk } Q) E { s with heap := h, toks := tk })
    (done : ∀ m₁ news₁ h tk, J n m₁ news₁ → Fr h₀ env.locals h m₁ → News h₀ env.locals h news₁ → Q .next { s with heap := h, toks := tk }) :
    wpAny (model prog w) A (pyIter (.ref r)) (fun it s₂ => LoopAtV prog w A h₀ env x body Q E it s₂) E s := by
  refine wpAny_pyIter_range hr hsmall ?_
  refine ⟨_, _, _, n, _, _, m₀, news, J, rfl, (Walks.range hh _ a₀ 1 n), ?_, ?_, ?_, (by show IsRangeIter _ _ _ _ _; rw [hn]; simpa using Heap.get?_push_size _ rfl), F.push _, (fun p hp => ⟨Heap.get?_push_of_some _ (N p hp).1, (N p hp).2⟩), hj, ?_, ?_⟩
  · intro hm
    exact absurd F.ns.lt ((List.mem_singleton.mp hm) ▸ Nat.lt_irrefl _)
  · intro b hb
    rw [List.mem_singleton.mp hb]
    exact next_is_new F
  · intro p hp hI
    exact absurd (Heap.lt_size (N p hp).1) ((List.mem_singleton.mp hI) ▸ Nat.lt_irrefl _)
  · rintro i v m₁ news₁ s₁ own ⟨hh', tk', rfl⟩ hin ⟨t, rfl⟩ hJ hoff hown hcur hall hst F₁ N₁
    rw [Int.mul_one] at F₁
    have ho : ∀ p ∈ own, p.1 = s.heap.objs.size := fun p hp => List.mem_singleton.mp (hown p hp)
    have hI : ∃ oI, (s.heap.objs.size, oI) ∈ own := by
      have hst' : IsRangeIter hh' s.heap.objs.size _ _ _ := hst
      exact ⟨_, hall _ (List.mem_singleton.mpr rfl) (next_is_new F) _ hst'⟩
    refine wpAny_mono (turn i t m₁ news₁ hh' tk' own hin hJ (fun p hp q hq e => hoff p hp (List.mem_singleton.mpr (e.trans (ho q hq)))) F₁ fun p hp => N₁ p (List.mem_append.mpr (List.mem_append.mp hp).symm)) (fun f s₂ p => ?_) fun _ _ e => e
    have fin : TurnEnd h₀ env.locals (J (i + 1)) own { s with heap := hh', toks := tk' } s₂ → LoopStepU h₀ env.locals [s.heap.objs.size] own (J (i + 1)) { s with heap := hh', toks := tk' } .next s₂ := by
      rintro ⟨h', tk, m', news', e, F', N', ha, hm⟩
      obtain ⟨oI, hmI⟩ := hI
      exact ⟨rfl, h', tk, m', news', e, F', fun p hp => N' p (List.mem_append.mpr (List.mem_append.mp hp).symm), fun p hp hq => ha p hp _ hmI (List.mem_singleton.mp hq), hm⟩
    cases f with
    | ret v => exact .ret p
    | brk => exact .brk p
    | next => exact .next (fin p)
    | cont => exact .cont (fin p)
  · intro h' tk' m' news' F' N' _ hJ
    exact done m' news' h' tk' hJ F' N'
end
section
variable {prog : Program} {w : World} {A : Around} {E : Value → Shared → Prop} {s : Shared} {env : Env} {h₀ : Heap} {x : Str} {body : List Stmt} {Q : Flow → Shared → Prop}
theorem range_K {r : Addr} {a₀ b₀ : Int} {t₀ u₀ v₀ : Tok} {n : Nat} {m₀ : Str → Option Value} {news : Led} (J : Nat → Led → Prop)
    (hh : A.handled = none) (hr : IsRange s.heap r a₀ b₀ 1 t₀ u₀ v₀) (hsmall : Builtin.Range.small a₀ b₀ 1 = true) (hn : Builtin.Range.rangeSize a₀ b₀ 1 = (n : Int)) (F : Fr h₀ env.locals s.heap m₀) (N : News h₀ env.locals s.heap news) (hj : J 0 news)
    (turn : ∀ (i : Nat) t news₁ h tk own, i < n → J i news₁ → (∀ p ∈ news₁, ∀ q ∈ own, p.1 ≠ q.1) →
      Fr h₀ env.locals h (fun y => if y = x then some (.int (a₀ + i) t) else m₀ y) → News h₀ env.locals h (news₁ ++ own) →
      wpAny (model prog w) A (execs body env) (TurnPost h₀ env.locals (fun m' nw => (∀ z, z ≠ x → m' z = m₀ z) ∧ J (i + 1) nw) own { s with heap := h, toks := tk } Q) E { s with heap := h, toks := tk })
    (done : ∀ (u : Str → Option Value) news₁ h tk, J n news₁ → Fr h₀ env.locals h (fun y => if y = x then u y else m₀ y) → News h₀ env.locals h news₁ → Q .next { s with heap := h, toks := tk }) :
    wpAny (model prog w) A (pyIter (.ref r)) (fun it s₂ => LoopAtV prog w A h₀ env x body Q E it s₂) E s := by
  refine range_J (fun i m nw => (∀ z, z ≠ x → m z = m₀ z) ∧ J i nw) hh hr hsmall hn F N ⟨fun _ _ => rfl, hj⟩ ?_ ?_
  · rintro i t m₁ news₁ h tk own hi ⟨hm, hJ⟩ hoff F₁ N₁
    have e : (fun y => if y = x then some (Value.int (a₀ + i) t) else m₁ y) = fun y => if y = x then some (Value.int (a₀ + i) t) else m₀ y := by
      funext z
      by_cases h1 : z = x
      · simp [h1]
      · simp only [if_neg h1]; exact hm z h1
    rw [e] at F₁
    exact turn i t news₁ h tk own hi hJ hoff F₁ N₁
  · rintro m₁ news₁ h tk ⟨hm, hJ⟩ F₁ N₁
    refine done m₁ news₁ h tk hJ ?_ N₁
    have e : (fun y => if y = x then m₁ y else m₀ y) = m₁ := by
      funext z
      by_cases h1 : z = x
      · simp [h1]
      · simp only [if_neg h1]; exact (hm z h1).symm
    rw [e]; exact F₁
end
theorem nm_lt {x b : Int} (_ : x < b) : ∃ y, y = x := ⟨x, rfl⟩
theorem kdf_put_at {lo k v : Int} {xs : List Int} (h : k = lo + xs.length) : kdfPut (rc lo xs) k v = rc lo (xs ++ [v]) := by rw [h]; exact rc_put lo xs v
theorem off_app {a b : Led} {adr : List Addr} (h : OwnOff a adr) (h' : OwnOff b adr) : OwnOff (a ++ b) adr := fun p hp => (List.mem_append.mp hp).elim (h p) (h' p)
theorem off_lt {d : Addr} {l : Led} (h : AllLt d l) : OwnOff l [d] := fun p hp b hb => by rw [List.mem_singleton.mp hb]; exact allLtNe h p hp
theorem off_own {own l : Led} {a : Addr} {o : Obj} (h : ∀ p ∈ l, ∀ q ∈ own, p.1 ≠ q.1) (hm : (a, o) ∈ l) : OwnOff own [a] := fun p hp b hb => by rw [List.mem_singleton.mp hb]; exact (h _ hm p hp).symm
theorem off_cons {l : Led} {a : Addr} {adr : List Addr} (h : OwnOff l [a]) (h' : OwnOff l adr) : OwnOff l (a :: adr) := fun p hp b hb => by
  rcases List.mem_cons.mp hb with rfl | hb
  · exact h p hp _ (.head _)
  · exact h' p hp b hb
theorem off_same {own l l' : Led} (h : ∀ p ∈ l, ∀ q ∈ own, p.1 ≠ q.1) (e : l'.map (·.1) = l.map (·.1)) : ∀ p ∈ l', ∀ q ∈ own, p.1 ≠ q.1 := fun p hp q hq => by
  have h1 : p.1 ∈ l.map (·.1) := e ▸ List.mem_map.mpr ⟨p, hp, rfl⟩
  obtain ⟨p', hp', e'⟩ := List.mem_map.mp h1
  exact e' ▸ h p' hp' q hq
/-- a row in the ledger: the tuple of its bounds and its dict -/
def RowIn (w : World) (led : Led) (v : Value) (lo : Int) (xs : List Int) : Prop :=
  ∃ (r d : Addr) (od : Obj) (kvs : List (Int × Value)) (hi : Int) (t t' : Tok) (n : Nat), v = .ref r ∧ (r, ({ cls := .type "tuple", data := .seq #[.int lo t, .int hi t', .ref d] n } : Obj)) ∈ led ∧ hi = lo + xs.length - 1 ∧ (d, od) ∈ led ∧ (d == sysModules) = false ∧
    Obj.IsDictOf (intKind Challenge.rw_pb0006_01.row.prog w) od kvs ∧ PyProof.V.FlatPairs PyData.int kvs (kdfD (rc lo xs))
section
variable {w : World} {led led' : Led} {v : Value} {lo hi : Int} {xs : List Int} {r d : Addr} {od : Obj} {kvs : List (Int × Value)} {t t' : Tok} {n : Nat}
theorem RowIn.mk (hr : (r, ({ cls := .type "tuple", data := .seq #[.int lo t, .int hi t', .ref d] n } : Obj)) ∈ led) (hhi : hi = lo + xs.length - 1) (hd : (d, od) ∈ led) (hlo : (d == sysModules) = false)
    (hD : Obj.IsDictOf (intKind Challenge.rw_pb0006_01.row.prog w) od kvs) (hF : PyProof.V.FlatPairs PyData.int kvs (kdfD (rc lo xs))) : RowIn w led (.ref r) lo xs := ⟨r, d, od, kvs, hi, t, t', n, rfl, hr, hhi, hd, hlo, hD, hF⟩
@[elab_as_elim] theorem RowIn.elim {C : Value → Prop} (R : RowIn w led v lo xs) (k : ∀ (r d : Addr) (od : Obj) (kvs : List (Int × Value)) (hi : Int) (t t' : Tok) (n : Nat), (r, ({ cls := .type "tuple", data := .seq #[.int lo t, .int hi t', .ref d] n } : Obj)) ∈ led → hi = lo + xs.length - 1 → (d, od) ∈ led → (d == sysModules) = false →
    Obj.IsDictOf (intKind Challenge.rw_pb0006_01.row.prog w) od kvs → PyProof.V.FlatPairs PyData.int kvs (kdfD (rc lo xs)) → RowIn w led (.ref r) lo xs → C (.ref r)) : C v := by
  have R0 := R
  obtain ⟨r, d, od, kvs, hi, t, t', n, rfl, hr, hhi, hd, hlo, hD, hF⟩ := R
  exact k _ _ _ _ _ _ _ _ hr hhi hd hlo hD hF R0
end
theorem RowIn.mono {w : World} {led led' : Led} {v : Value} {lo : Int} {xs : List Int} (R : RowIn w led v lo xs) (h : ∀ p ∈ led, p ∈ led') : RowIn w led' v lo xs := by
  refine RowIn.elim R ?_
  clear R
  intro r d od kvs hi t t' n h1 h2 h3 h4 h5 h6 _
  exact RowIn.mk (h _ h1) h2 (h _ h3) h4 h5 h6

end
local macro_rules | `(tactic| walk_at $s:str) => `(tactic| k_extra $s)
local macro_rules | `(tactic| k_mem) => `(tactic| kcf_m)
local macro_rules | `(tactic| k_all) => `(tactic| k_extra "ALL")
local macro_rules | `(tactic| k_room) => `(tactic| ktr_room)
local macro_rules | `(tactic| k_units) => `(tactic| ktr_units)
example : True := by
  (k_with "ALL" => exact ltNe' (by assumption) (by omega))
  (k_with "ALL" => exact ltNe (by assumption) (by omega))
  (k_with "ALL" => exact allLtNe (by assumption))
  trivial
section
theorem len_M {prog : Program} {w : World} {A : Around} {E : Value → Shared → Prop} {s : Shared} {h₀ : Heap} {L l : Addr} {news : Led} {vs : List Value} {ns : List Int} {n : Nat} {Q : Value → Shared → Prop}
   (N : News h₀ L s.heap news) (hm : (l, listOf vs.toArray n) ∈ news) (hi : IntsAre vs ns) (hl : ns.length ≤ 63)
   (h : Q (.int ns.length (s.toks + 1)) { s with toks := s.toks + 1 + 1 }) : wpAny (model prog w) A (call (.builtin "len") [.ref l]) Q E s := by
  have e := hi.length
  refine len_list (News.isList N hm) (by simp only [List.size_toArray]; omega) ?_
  simpa only [List.size_toArray, e] using h
example : True := by
  (k_with "call builtin:len" => (k_here; (with_reducible show wpAny _ _ (call (Value.builtin "len") [Value.ref _]) _ _ _); refine len_M (by k_asm) (by k_mem) (by with_reducible assumption) (by with_reducible assumption) ?_))
  trivial
set_option maxRecDepth 100000 in
set_option maxHeartbeats 8000000 in
theorem pull_at {w : World} {mean : ExcName → Option Value} {mg mb : Str → Option Value} {dk cs : Addr} {its : List Value} {ns : List Int} {n n' : Nat} {at_ many : Int} {t t' : Tok} {news : Led}
   (hc : (cs, listOf its.toArray n') ∈ news) (hi : IntsAre its ns) (hl : ns.length ≤ 63) (hat : 0 ≤ at_ ∧ at_ ≤ 100000) (hm : 0 < many ∧ many ≤ 100) (hne : OwnOff news [dk]) :
   Does 10 w mean mg mb 191 [.ref dk, .int many t'] ((dk, listOf #[.ref cs, .int at_ t] n) :: news)
    (fun r post => ∃ i u v m, r = .int i u ∧ 0 ≤ i ∧ i < many ∧ post = ((dk, listOf #[.ref cs, .int (at_ + 1) v] m) :: news)) := by
  unfold Does
  k_fill
  intro dp un gd cn cs' a ccd cl outer A₀ base h₀ L m s Q E B F X N T hk hd hu hret
  refine wpAny_call ?_
  k_dflt ktr_enter
  k_steps
  all_goals exact hret _ _ _ _ (by assumption) (by assumption) ⟨_, _, _, _, rfl, Int.fmod_nonneg_of_pos _ hm.1, Int.fmod_lt_of_pos _ hm.1, rfl⟩

/-- the deck: its cells and where it stands -/
def DeckIs (o : Obj) (cs : Addr) (q : Int) : Prop := ∃ t n, o = listOf #[.ref cs, .int q t] n
/-- a list of ints in the ledger -/
def IntsIn (news : Led) (l : Addr) (xs : List Int) : Prop := ∃ vs n, (l, listOf vs.toArray n) ∈ news ∧ IntsAre vs xs

theorem ints_no_deck {o : Obj} {cs : Addr} {q : Int} {vs : List Value} {xs : List Int} {n : Nat} (D : DeckIs o cs q) (hi : IntsAre vs xs) : listOf vs.toArray n ≠ o := by
  obtain ⟨t, n', rfl⟩ := D
  intro e
  have e2 : Data.seq vs.toArray n = Data.seq #[.ref cs, .int q t] n' := congrArg Obj.data e
  injection e2 with e3 _
  have e4 : vs = [.ref cs, .int q t] := by simpa using congrArg Array.toList e3
  subst e4
  cases hi

theorem pull_does {w : World} {mean : ExcName → Option Value} {mg mb : Str → Option Value} {dk cs : Addr} {o : Obj} {cells : List Int} {vs : List Value} {n : Nat} {q many : Int} {t' : Tok} {news : Led} {u : Obj → Led}
   (U : UpdF dk o news u) (D : DeckIs o cs q) (hmem : (cs, listOf vs.toArray n) ∈ news) (hi : IntsAre vs cells) (hl : cells.length ≤ 63) (hat : 0 ≤ q ∧ q ≤ 100000) (hm : 0 < many ∧ many ≤ 100) :
   Does 10 w mean mg mb 191 [.ref dk, .int many t'] news
    (fun r post => ∃ i tk o', r = .int i tk ∧ 0 ≤ i ∧ i < many ∧ DeckIs o' cs (q + 1) ∧ post = u o') := by
  intro dp un gd cn cs' a ccd cl outer A₀ base h₀ L m s Q E B F X N T hk hd hu hret
  have hne : cs ≠ dk := by
    rintro rfl
    exact ints_no_deck D hi (news_same N hmem (updF_mem U))
  obtain ⟨t, n', rfl⟩ := D
  refine (pull_at (less_mem.mpr ⟨hmem, hne⟩) hi hl hat hm less_off).use B F X (updF_less U N) T hk hd hu ?_
  rintro r post h' tk' F' N' ⟨i, x, v, m', rfl, h0, h1, rfl⟩
  exact hret _ _ _ _ F' (updF_back U N') ⟨i, x, _, rfl, h0, h1, ⟨v, m', rfl⟩, rfl⟩

end
example : True := by
  k_with_none
  trivial
example : True := by
  (k_with "ALL" => exact ltNe' (by assumption) (by omega))
  (k_with "ALL" => exact ltNe (by assumption) (by omega))
  (k_with "ALL" => exact allLtNe (by assumption))
  trivial
example : True := by
  (k_with "call ref" => (k_here; (with_reducible show wpAny _ _ (call (Value.ref 191) [Value.ref _, Value.int _ _]) _ _ _); k_dflt (refine Does.on (by k_asm) (by k_asm) (by k_asm) (by k_asm) (by k_asm) (by rfl) (by ktr_room) (by ktr_units) (pull_does (by k_updF) (by assumption) (by k_mem) (by assumption) (by assumption) (by omega) (by omega)) ?_; k_whole); (rintro r'7 post'7 h'7 tk'7 F'7 N'7 ⟨i'7, t'7, o'7, e1'7, lo'7, hi'7, D'7, e2'7⟩); subst e1'7; subst e2'7; (try dsimp only at N'7); (try dsimp only); (try k_fold); walk_say "PULL"))
  (k_with "exec For Name Call cons nil" => (k_here; (rename Fr _ _ _ _ => lF'7); (with_unfolding_all refine' For_invVF lF'7 ?k1 ?k2 ?_; (case k1 => exact rfl); (case k2 => exact rfl); k_whole)))
  (k_with "pyIter ref" => (k_here; (with_reducible show wpAny _ _ (pyIter (Value.ref _)) (fun it s₂ => LoopAtV _ _ _ _ _ _ _ _ _ it s₂) _ _); refine stop_it ?_))
  trivial
example : True := by
  (k_with "setItem ref int" => (k_here; (with_reducible show wpAny _ _ (setItem (Value.ref _) (Value.int _ _) (Value.int _ _)) _ _ _); k_dflt (refine kdf_setItem (by k_asm) (by k_asm) (by k_updF) (by k_asm) (by k_asm) (by first | assumption | omega) ?_); intro h'7 o'7 kvs'7 F'7 N'7 hd'7 hf'7; (try dsimp only at N'7)))
  trivial
section
set_option maxRecDepth 100000 in
set_option maxHeartbeats 8000000 in
theorem row_at {w : World} {mean : ExcName → Option Value} {mg mb : Str → Option Value} {dk cs : Addr} {o : Obj} {vs : List Value} {cells : List Int} {n : Nat} {q : Int} {news : Led}
   (D : DeckIs o cs q) (hmem : (cs, listOf vs.toArray n) ∈ news) (hi : IntsAre vs cells) (hl : cells.length ≤ 63) (hat : 0 ≤ q ∧ q ≤ 50000) (hne : OwnOff news [dk]) :
   Does 20 w mean mg mb 198 [.ref dk] ((dk, o) :: news) (fun r post => ∃ lo xs o' q' tl, RowIn w post r lo xs ∧ xs.length ≤ 4 ∧ -4 ≤ lo ∧ lo ≤ 4 ∧ DeckIs o' cs q' ∧ q ≤ q' ∧ q' ≤ q + 6 ∧ post = tl ++ (dk, o') :: news ∧ ∀ p ∈ tl, p.1 ≠ dk) := by
  unfold Does
  k_fill
  intro dp un gd cn cs' a ccd cl outer A₀ base h₀ L m s Q E B F X N T hk hd hu hret
  refine wpAny_call ?_
  k_dflt ktr_enter
  k_steps
  show wpAny _ _ (pyIter _) _ _ _
  rename (_ : Int) < 9 => h9
  obtain ⟨lo, e9⟩ := nm_lt h9; subst e9
  rename (_ : Int) < 5 => h5
  obtain ⟨cnt, e5⟩ := nm_lt h5; subst e5
  rename (_ == sysModules) = false => hlo
  rename Obj.IsDictOf (intKind _ _) _ _ => hD
  rename PyProof.V.FlatPairs PyData.int _ _ => hFp
  rename IsRange _ _ _ _ _ _ _ _ => hR
  rename Fr _ _ _ _ => hF
  rename News _ _ _ _ => hN
  rename _ < _ ∧ AllLt _ _ => hlt
  rename DeckIs _ _ _ => D2
  refine range_K (fun i nw => ∃ xs od kvs o' q', xs.length = i ∧ Obj.IsDictOf (intKind Challenge.rw_pb0006_01.row.prog w) od kvs ∧ PyProof.V.FlatPairs PyData.int kvs (kdfD (rc (lo - 4) xs)) ∧ DeckIs o' cs q' ∧ q + 2 ≤ q' ∧ q' ≤ q + 2 + i ∧ nw = (_, od) :: (dk, o') :: news)
    rfl hR (small_one (by omega) (by omega) (by omega) (by omega)) (rangeSize_nat _ _) hF hN ⟨[], _, _, _, _, rfl, hD, hFp, D2, by omega, by omega, rfl⟩ ?_ ?_
  · rintro i t news₁ h tk own hi' ⟨xs, od, kvs, o', q', hxs, hD', hFp', D', hq1, hq2, rfl⟩ hoff F₁ N₁
    simp only [List.cons_append] at N₁
    have o1 := off_cons (off_app (off_lt hlt.2) (off_own hoff (.head _))) (off_app hne (off_own hoff (.tail _ (.head _))))
    have hz : (rc (lo - 4) xs).length ≤ 16777216 := by rw [rc_length]; omega
    k_steps
    rename Fr _ _ _ _ => F9
    rename News _ _ _ _ => N9
    rename DeckIs _ _ _ => D9
    rename Obj.IsDictOf (intKind _ _) _ _ => hd9
    rename PyProof.V.FlatPairs PyData.int _ _ => hf9
    rw [kdf_put_at (by rw [hxs]; omega)] at hf9
    exact ⟨_, _, _, _ :: _ :: news, rfl, F9, N9, off_same hoff rfl, fun z hz => by simp [hz], _, _, _, _, _, by simp [hxs], hd9, hf9, D9, by omega, by push_cast; omega, rfl⟩
  · rintro u news₁ h tk ⟨xs, od, kvs, o', q', hxs, hD', hFp', D', hq1, hq2, rfl⟩ F₁ N₁
    k_steps
    rename Fr _ _ _ _ => F9
    rename News _ _ _ _ => N9
    rename _ < _ ∧ _ < _ ∧ AllLt _ _ => l9
    refine hret _ _ _ _ F9 N9 ⟨lo - 4, xs, o', q', [_, _], RowIn.mk (.head _) (by rw [hxs]; omega) (.tail _ (.head _)) hlo hD' hFp', by omega, by omega, by omega, D', by omega, by omega, rfl, ?_⟩
    intro p hp
    have := hlt.1
    have := l9.2.1
    simp only [List.mem_cons, List.not_mem_nil, or_false] at hp
    rcases hp with rfl | rfl <;> exact Nat.ne_of_gt (by assumption)
theorem row_does {w : World} {mean : ExcName → Option Value} {mg mb : Str → Option Value} {dk cs : Addr} {o : Obj} {vs : List Value} {cells : List Int} {n : Nat} {q : Int} {news : Led} {u : Obj → Led}
   (U : UpdF dk o news u) (D : DeckIs o cs q) (hmem : (cs, listOf vs.toArray n) ∈ news) (hi : IntsAre vs cells) (hl : cells.length ≤ 63) (hat : 0 ≤ q ∧ q ≤ 50000) :
   Does 20 w mean mg mb 198 [.ref dk] news (fun r post => ∃ lo xs o' q' tl, RowIn w post r lo xs ∧ xs.length ≤ 4 ∧ -4 ≤ lo ∧ lo ≤ 4 ∧ DeckIs o' cs q' ∧ q ≤ q' ∧ q' ≤ q + 6 ∧ post = tl ++ u o' ∧ ∀ p ∈ tl, p.1 ≠ dk) := by
  intro dp un gd cn cs' a ccd cl outer A₀ base h₀ L m s Q E B F X N T hk hd hu hret
  have hne : cs ≠ dk := by
    rintro rfl
    exact ints_no_deck D hi (news_same N hmem (updF_mem U))
  refine (row_at D (less_mem.mpr ⟨hmem, hne⟩) hi hl hat less_off).use B F X (updF_less U N) T hk hd hu ?_
  rintro r post h' tk' F' N' ⟨lo, xs, o', q', tl, hR, h1, h2, h3, h4, h5, h6, rfl, h7⟩
  have hsub : ∀ p ∈ (dk, o') :: less dk news, p ∈ u o' := fun p hp => by
    rcases List.mem_cons.mp hp with rfl | hp
    · exact updF_here U o'
    · exact updF_stay U o' (less_mem.mp hp).1 (less_mem.mp hp).2
  exact hret _ _ _ _ F' (newsApp N' (updF_back U fun p hp => N' p (List.mem_append_right _ hp))) ⟨lo, xs, o', q', tl, hR.mono (fun p hp => (List.mem_append.mp hp).elim (List.mem_append_left _) fun x => List.mem_append_right _ (hsub p x)), h1, h2, h3, h4, h5, h6, rfl, h7⟩

end
section
section
variable {prog : Program} {w : World} {A : Around} {E : Value → Shared → Prop} {s : Shared} {d : Addr} {c : List (Int × Int)} {k : Int} {tk : Tok}
theorem gi_dict {Q : Value → Shared → Prop} (T : IntTab prog w s.heap d (kdfD c)) (hk : kdfHas c k = true) (h : ∀ t, Q (.int (kdfLook c k 0) t) { s with toks := s.toks + 1 }) : wpAny (model prog w) A (getItem (.ref d) (.int k tk)) Q E s := by
  obtain ⟨lo, kvs, hd, hf⟩ := T
  obtain ⟨v, hv, hfl⟩ := hf.of_lookup PyProof.V.same_int (kdfD_item hk)
  obtain ⟨t, rfl⟩ := PyProof.V.Flat.int_inv hfl
  exact wpAny_getItem_of (intKind_is _ _ _ _) hd.mapOf hv (h t)
end
theorem rangeKs_getElem? (a : Int) (n i : Nat) : (rangeKs a n)[i]? = if i < n then some (a + (i : Int)) else none := by
  simp only [rangeKs, List.getElem?_map, List.getElem?_range]
  split <;> simp_all
theorem map_rc {lo : Int} {xs : List Int} {n : Nat} (h : n = xs.length) : (rangeKs lo n).map (fun k => kdfLook (rc lo xs) k 0) = xs := by
  subst h
  apply List.ext_getElem?
  intro i
  rw [List.getElem?_map, rangeKs_getElem?]
  by_cases hi : i < xs.length
  · rw [if_pos hi, Option.map_some, rc_look lo xs _ (by omega) (by omega)]
    have e : (lo + (i : Int) - lo).toNat = i := by omega
    rw [e, List.getD_eq_getElem?_getD, List.getElem?_eq_getElem hi]
    rfl
  · rw [if_neg hi, List.getElem?_eq_none (by omega)]; rfl
theorem off1_mem {D : Addr} : ∀ {l : Led}, LCg.Off1 D l → ∀ p ∈ l, p.1 ≠ D
  | [], _, _, h => nomatch h
  | _ :: _, h, p, hp => by
    rcases List.mem_cons.mp hp with rfl | hp
    · exact h.1
    · exact off1_mem h.2 p hp
/-- an array value in the ledger: its list of members lies at il -/
def ValIn (w : World) (led : Led) (v : Value) (lo : Int) (xs : List Int) (il : Addr) : Prop :=
  ∃ (x dx bl tp : Addr) (vs : List Value) (hi : Int) (k1 k2 t t' : Tok) (n1 n2 n3 n4 : Nat), v = .ref x ∧ (x, instObj 70 dx) ∈ led ∧
    (dx, dictOf [⟨PyData.keyHash w.params (Str.ofString "bounds"), .str (Str.ofString "bounds") k1, .ref bl⟩, ⟨PyData.keyHash w.params (Str.ofString "items"), .str (Str.ofString "items") k2, .ref il⟩] n1) ∈ led ∧
    (bl, listOf #[.ref tp] n2) ∈ led ∧ (tp, ({ cls := .type "tuple", data := .seq #[.int lo t, .int hi t'] n3 } : Obj)) ∈ led ∧ hi = lo + xs.length - 1 ∧ (il, listOf vs.toArray n4) ∈ led ∧ IntsAre vs xs
theorem has_lt {k lo hi : Int} {n : Nat} (h : k < lo + ((hi + 1 - lo).toNat : Int)) (e : hi = lo + n - 1) : k < lo + n := by omega
theorem cut_small {α : Type} {xs : List α} {p q : Nat} (h : xs.length ≤ 40) : (List.take p (List.drop q xs)).length ≤ 1000 := by simp only [List.length_take, List.length_drop]; omega
section
variable {w : World} {led led' : Led} {v : Value} {lo hi : Int} {xs : List Int} {x dx bl tp il : Addr} {vs : List Value} {k1 k2 t t' : Tok} {n1 n2 n3 n4 : Nat}
theorem ValIn.mk (hx : (x, instObj 70 dx) ∈ led) (hdx : (dx, dictOf [⟨PyData.keyHash w.params (Str.ofString "bounds"), .str (Str.ofString "bounds") k1, .ref bl⟩, ⟨PyData.keyHash w.params (Str.ofString "items"), .str (Str.ofString "items") k2, .ref il⟩] n1) ∈ led)
    (hbl : (bl, listOf #[.ref tp] n2) ∈ led) (htp : (tp, ({ cls := .type "tuple", data := .seq #[.int lo t, .int hi t'] n3 } : Obj)) ∈ led) (ehi : hi = lo + xs.length - 1) (hil : (il, listOf vs.toArray n4) ∈ led) (hI : IntsAre vs xs) : ValIn w led (.ref x) lo xs il :=
  ⟨x, dx, bl, tp, vs, hi, k1, k2, t, t', n1, n2, n3, n4, rfl, hx, hdx, hbl, htp, ehi, hil, hI⟩
@[elab_as_elim] theorem ValIn.elim {C : Value → Prop} (R : ValIn w led v lo xs il) (k : ∀ (x dx bl tp : Addr) (vs : List Value) (hi : Int) (k1 k2 t t' : Tok) (n1 n2 n3 n4 : Nat), (x, instObj 70 dx) ∈ led →
    (dx, dictOf [⟨PyData.keyHash w.params (Str.ofString "bounds"), .str (Str.ofString "bounds") k1, .ref bl⟩, ⟨PyData.keyHash w.params (Str.ofString "items"), .str (Str.ofString "items") k2, .ref il⟩] n1) ∈ led →
    (bl, listOf #[.ref tp] n2) ∈ led → (tp, ({ cls := .type "tuple", data := .seq #[.int lo t, .int hi t'] n3 } : Obj)) ∈ led → hi = lo + xs.length - 1 → (il, listOf vs.toArray n4) ∈ led → IntsAre vs xs → ValIn w led (.ref x) lo xs il → C (.ref x)) : C v := by
  have R0 := R
  obtain ⟨x, dx, bl, tp, vs, hi, k1, k2, t, t', n1, n2, n3, n4, rfl, hx, hdx, hbl, htp, ehi, hil, hI⟩ := R
  exact k _ _ _ _ _ _ _ _ _ _ _ _ _ _ hx hdx hbl htp ehi hil hI R0
theorem ValIn.ref (R : ValIn w led v lo xs il) : ∃ x, v = .ref x := R.elim fun x _ _ _ _ _ _ _ _ _ _ _ _ _ _ _ _ _ _ _ _ _ => ⟨x, rfl⟩
end
theorem ValIn.mono {w : World} {led led' : Led} {v : Value} {lo : Int} {xs : List Int} {il : Addr} (R : ValIn w led v lo xs il) (h : ∀ p ∈ led, p ∈ led') : ValIn w led' v lo xs il := by
  refine ValIn.elim R ?_
  clear R
  intro x dx bl tp vs hi k1 k2 t t' n1 n2 n3 n4 h1 h2 h3 h4 e5 h6 r _
  exact ValIn.mk (h _ h1) (h _ h2) (h _ h3) (h _ h4) e5 (h _ h6) r
theorem item_M {prog : Program} {w : World} {A : Around} {E : Value → Shared → Prop} {s : Shared} {h₀ : Heap} {L l : Addr} {news : Led} {its : List Value} {n : Nat} {value slice : PySem.Expr} {k : Int} {u : Tok} {v : Value} {Q : Value → Shared → Prop}
    (N : News h₀ L s.heap news) (hm : (l, listOf its.toArray n) ∈ news) (h0 : 0 ≤ k) (hhi : k < 2 ^ 63) (hx : its[k.toNat]? = some v) (h : Q v s)
    (hs : subscripted slice false (.ref l) (.int k u) = operate [.ref l, .int k u] (getItem (.ref l) (.int k u)) := by with_unfolding_all rfl) :
    wpAny (model prog w) A (subscriptTail value slice (.ref l) (.int k u)) Q E s :=
  tail_any (News.isList N hm).typeIs slot_list_getitem.lookup (wpAny_getItem_list (News.isList N hm) h0 hhi (by simpa using hx) h) hs

end
example : True := by
  (k_with "HAS" => first | assumption | (rw [rc_has]; exact decide_eq_true ⟨by first | assumption | omega, by first | exact has_lt (by assumption) (by assumption) | omega⟩))
  (k_with "getItem ref int" => (k_here; k_dflt (refine gi_dict (by k_tabat) (by walk_at "HAS") ?_); intro _))
  (k_with "subscriptTail" => (k_here; (with_reducible show wpAny _ _ (subscriptTail _ _ (Value.ref _) (Value.int _ _)) _ _ _); k_dflt (refine kdf_item (by k_tabat) (by walk_at "HAS") ?_); intro _))
  trivial
section
set_option maxRecDepth 100000 in
set_option maxHeartbeats 8000000 in
theorem val_does {w : World} {mean : ExcName → Option Value} {mg mb : Str → Option Value} {v : Value} {lo : Int} {xs : List Int} {news : Led}
   (R : RowIn w news v lo xs) (hl : xs.length ≤ 40) (hb : -1000 ≤ lo ∧ lo ≤ 1000) :
   Does 20 w mean mg mb 203 [v] news (fun r post => ∃ il tl, ValIn w post r lo xs il ∧ post = tl ++ news ∧ ∀ p ∈ news, p.1 ≠ il) := by
  refine RowIn.elim R ?_
  clear R
  intro r d od kvs hi t t' n hr hhi hd hlo hD hF _
  unfold Does
  k_fill
  intro dp un gd cn cs' a ccd cl outer A₀ base h₀ L m s Q E B F X N T hk hd' hu hret
  refine wpAny_call ?_
  obtain ⟨ck, cnm, cg, cco, cmo⟩ := cs'
  dsimp only at hk
  subst hk
  k_dflt k_enter
  k_steps
  rename Fr _ _ _ _ => F9
  rename News _ _ _ _ => N9
  rename IntsAre _ _ => hI9
  rename _ ∧ _ ∧ _ ∧ LCg.Off1 _ _ => o9
  rw [map_rc (by omega)] at hI9
  exact hret _ _ _ _ F9 N9 ⟨_, [_, _, _, _, _, _], ValIn.mk (.head _) (.tail _ (.head _)) (by kcf_m) (by kcf_m) hhi (.tail _ (.tail _ (.head _))) hI9, rfl, off1_mem o9.2.2.2⟩

end
section
section
theorem getAttrQ_miss_list {prog : Program} {w : World} {A : Around} {E : Value → Shared → Prop} {s : Shared} {a : Addr} {o : Obj} {xs : Array Value} {k : Nat} {name : Str} {Q : Option Value → Shared → Prop}
    (hx : s.heap.get? a = some o) (hc : o.cls = .type "list") (hdat : o.data = .seq xs k) (hd : o.dict = none) (hmiss : typeLookup (.type "list") name = pure none) (hname : (["__module__", "__name__", "__qualname__", "__doc__", "__annotations__"] : List Str).contains name = false) (hA : A.handled = none)
    (h : ∀ h' tk, (∀ b ob, s.heap.get? b = some ob → h'.get? b = some ob) → Q none { s with heap := h', toks := tk }) (hsz : name.length + 100 ≤ sizeLine := by size_fits) :
    wpAny (model prog w) A (getAttr? (.ref a) name) Q E s := by
  obtain ⟨c, dct, dat, sl⟩ := o
  simp only at hc hdat hd
  subst hc hdat hd
  obtain ⟨hp, g, d, tk, os⟩ := s
  have hT : ∀ tk', (⟨hp, g, d, tk', os⟩ : Shared).TypeIs (.ref a) "list" := fun _ => ⟨_, hx, rfl⟩
  have f1 := sub_AttributeError
  have f3 := F.slot_list_getattribute.lookup
  have f4 := F.slot_list_getattribute.bind (.ref a)
  have f5 := am_list_getattr_none
  unfold getAttr? getAttrBy? getAttrBy
  repeat (any_goals (first | assumption | exact hT _ | ((with_reducible show wpAny _ _ (call (Value.builtin "list.__getattribute__") _ _) _ _ _); refine call_meets F.slot_list_getattribute (hT _) am_entry_list_getattribute (F.args_list_getattribute_2 _ _) (meets_getattribute_miss_list a xs k sl name _ hmiss hname hsz) ⟨hx, hA, fun h' tk' e hx' => ?_⟩) | wp_step))
  obtain ⟨t', u', he⟩ := hx'.there
  show wpAny _ _ (getattributeRaised _ _ _ _ _ _ _) _ _ _
  unfold getattributeRaised
  repeat (any_goals (first | assumption | wp_step))
  exact h _ _ hx'.keeps
end

end
section
/-- tuples of two ints, each an object of its own -/
def PairsAre (h : Heap) : List Value → List (Int × Int) → Prop
  | [], [] => True
  | .ref a :: ts, p :: c => (∃ t u n, h.get? a = some { cls := .type "tuple", data := .seq #[.int p.1 t, .int p.2 u] n }) ∧ PairsAre h ts c
  | _, _ => False
theorem PairsAre.keeps {h h' : Heap} : ∀ {ts : List Value} {c : List (Int × Int)}, PairsAre h ts c → (∀ a, .ref a ∈ ts → ∀ o, h.get? a = some o → h'.get? a = some o) → PairsAre h' ts c
  | [], [], _, _ => trivial
  | .ref a :: ts, p :: c, ⟨⟨t, u, n, e⟩, r⟩, k => ⟨⟨t, u, n, k a (.head _) _ e⟩, PairsAre.keeps r fun b hb => k b (.tail _ hb)⟩
  | [], _ :: _, x, _ => x.elim
  | .ref _ :: _, [], x, _ => x.elim
  | .none :: _, _, x, _ => by cases ‹List (Int × Int)› <;> exact x.elim
  | .ellipsis :: _, _, x, _ => by cases ‹List (Int × Int)› <;> exact x.elim
  | .notImplemented :: _, _, x, _ => by cases ‹List (Int × Int)› <;> exact x.elim
  | .bool _ :: _, _, x, _ => by cases ‹List (Int × Int)› <;> exact x.elim
  | .int _ _ :: _, _, x, _ => by cases ‹List (Int × Int)› <;> exact x.elim
  | .float _ _ :: _, _, x, _ => by cases ‹List (Int × Int)› <;> exact x.elim
  | .str _ _ :: _, _, x, _ => by cases ‹List (Int × Int)› <;> exact x.elim
  | .bytes _ _ :: _, _, x, _ => by cases ‹List (Int × Int)› <;> exact x.elim
  | .type _ :: _, _, x, _ => by cases ‹List (Int × Int)› <;> exact x.elim
  | .builtin _ :: _, _, x, _ => by cases ‹List (Int × Int)› <;> exact x.elim
theorem PairsAre.lt {h : Heap} : ∀ {c : List (Int × Int)} {ts : List Value}, PairsAre h ts c → ∀ a, .ref a ∈ ts → a < h.objs.size := by
  intro c
  induction c with
  | nil =>
    intro ts x a hm
    cases ts with
    | nil => cases hm
    | cons v ts => cases v <;> exact x.elim
  | cons p c ih =>
    intro ts x a hm
    cases ts with
    | nil => cases hm
    | cons v ts =>
      cases v with
      | ref b =>
        obtain ⟨⟨t, u, n, e⟩, r⟩ := x
        rcases List.mem_cons.mp hm with e' | hm
        · cases e'; exact Heap.lt_size e
        · exact ih r a hm
      | _ => exact x.elim
theorem PairsAre.length {h : Heap} : ∀ {ts : List Value} {c : List (Int × Int)}, PairsAre h ts c → ts.length = c.length
  | [], [], _ => rfl
  | .ref a :: ts, p :: c, ⟨_, r⟩ => by simp [PairsAre.length r]
  | [], _ :: _, x => x.elim
  | .ref _ :: _, [], x => x.elim
  | .none :: _, _, x => by cases ‹List (Int × Int)› <;> exact x.elim
  | .ellipsis :: _, _, x => by cases ‹List (Int × Int)› <;> exact x.elim
  | .notImplemented :: _, _, x => by cases ‹List (Int × Int)› <;> exact x.elim
  | .bool _ :: _, _, x => by cases ‹List (Int × Int)› <;> exact x.elim
  | .int _ _ :: _, _, x => by cases ‹List (Int × Int)› <;> exact x.elim
  | .float _ _ :: _, _, x => by cases ‹List (Int × Int)› <;> exact x.elim
  | .str _ _ :: _, _, x => by cases ‹List (Int × Int)› <;> exact x.elim
  | .bytes _ _ :: _, _, x => by cases ‹List (Int × Int)› <;> exact x.elim
  | .type _ :: _, _, x => by cases ‹List (Int × Int)› <;> exact x.elim
  | .builtin _ :: _, _, x => by cases ‹List (Int × Int)› <;> exact x.elim
def putAll (c : List (Int × Int)) (ps : List (Int × Int)) : List (Int × Int) := ps.foldl (fun c p => kdfPut c p.1 p.2) c
theorem putAll_rc (lo : Int) (ys xs : List Int) : putAll (rc lo ys) (rc (lo + ys.length) xs) = rc lo (ys ++ xs) := by
  induction xs generalizing ys with
  | nil => simp [putAll, rc]
  | cons x xs ih =>
    have h := ih (ys ++ [x])
    simp only [putAll, rc, List.foldl_cons, rc_put] at h ⊢
    have e : lo + (ys.length : Int) + 1 = lo + ((ys ++ [x]).length : Int) := by simp; omega
    rw [e, h]
    simp
theorem putAll_nil (lo : Int) (xs : List Int) : putAll [] (rc lo xs) = rc lo xs := by
  have h := putAll_rc lo [] xs
  simpa [rc] using h
namespace F
theorem plain_update_loop : plainId "dict.update.loop" = true := by decide +kernel
theorem entry_update_loop : entryFor table "dict.update.loop" = some Builtin.«dict.update.loop» := entryFor_of_fast (by kernel_rfl)
end F
section
variable {prog : Program} {w : World} {A : Around} {R : Result → Shared → Prop}
theorem dict_loop (hh : A.handled = none) {d it l : Addr} {ts : List Value} (hdi : d ≠ it) (hdl : d ≠ l) (hil : it ≠ l) (hdt : .ref d ∉ ts) (hit' : .ref it ∉ ts) :
    ∀ (c : List (Int × Int)) (i : Nat) (s : Shared) (kvs : List (Int × Value)) (done : List (Int × Int)) (tk : Tok), s.heap.IsListIter it l i → s.heap.IsList l ts.toArray → PairsAre s.heap (ts.drop i) c → s.heap.DictOf (PySem.intKind prog w) d kvs →
      PyProof.V.FlatPairs PyData.int kvs (kdfD done) → done.length + c.length ≤ 16777216 →
      (∀ h' tk kvs', h'.DictOf (PySem.intKind prog w) d kvs' → PyProof.V.FlatPairs PyData.int kvs' (kdfD (putAll done c)) → (∀ b o, b ≠ d → b ≠ it → s.heap.get? b = some o → h'.get? b = some o) → R (.ok (.ret .none)) { s with heap := h', toks := tk }) →
      codeAny (model prog w) A (.builtin "dict.update.loop" ⟨[.ref d, .ref it, .int i tk, .none], []⟩) R s := by
  intro c
  induction c with
  | nil =>
    intro i s kvs done tk hit hl hp hd hf hz hR
    have hlen := hp.length
    refine codeAny_builtin F.entry_update_loop ?_
    rw [Around.under_plainId F.plain_update_loop _]
    show wpAny _ A.in1 (pyNext (.ref it) >>= _) _ _ s
    refine wpAny_bind (wpAny_pyNext_list_end hh hit hl (by simp at hlen ⊢; omega) fun h' he => ?_)
    show wpAny _ _ (Builtin.Dict.addKeywords d [] >>= _) _ _ _
    refine wpAny_bind (wpAny_pure (wpAny_pure ?_))
    refine hR h' s.toks kvs ?_ hf fun b o _ hb e => he b o hb e
    obtain ⟨o, es, ep, ho, r⟩ := hd
    exact ⟨o, es, ep, he d o hdi ho, r⟩
  | cons p c ih =>
    intro i s kvs done tk hit hl hp hd hf hz hR
    have hlen := hp.length
    obtain ⟨v, hv⟩ : ∃ v, ts[i]? = some v := by
      cases e : ts[i]? with
      | some v => exact ⟨v, rfl⟩
      | none => rw [List.getElem?_eq_none_iff] at e; simp at hlen; omega
    have hdrop : ts.drop i = v :: ts.drop (i + 1) := by
      have hlt : i < ts.length := (List.getElem?_eq_some_iff.mp hv).1
      rw [List.drop_eq_getElem_cons hlt]
      congr 1
      exact (List.getElem?_eq_some_iff.mp hv).2
    rw [hdrop] at hp
    obtain ⟨a, rfl⟩ : ∃ a, v = .ref a := by cases v <;> first | exact ⟨_, rfl⟩ | exact hp.elim
    obtain ⟨⟨t, u, n, ha⟩, hp⟩ := hp
    have hmem : Value.ref a ∈ ts := List.mem_of_getElem? hv
    refine codeAny_builtin F.entry_update_loop ?_
    rw [Around.under_plainId F.plain_update_loop _]
    show wpAny _ A.in1 (pyNext (.ref it) >>= _) _ _ s
    refine wpAny_bind (wpAny_pyNext_list_item hit hl (x := .ref a) (by simpa using hv) fun h' hit₂ hs => ?_)
    have hai : a ≠ it := fun e => hit' (e ▸ hmem)
    have had : a ≠ d := fun e => hdt (e ▸ hmem)
    have ha₂ : h'.get? a = some _ := (hs.2 a hai).trans ha
    have hT : ∀ tk', (⟨h', s.gens, s.drawn, tk', s.os⟩ : Shared).TypeIs (.ref a) "tuple" := fun _ => ⟨_, ha₂, rfl⟩
    dsimp only
    refine wpAny_bind (wpAny_holding (wpAny_bind (wpAny_tryCatch ?_)))
    unfold Builtin.Dict.pairItems
    refine wpAny_bind (wpAny_typeOf (hT _) ?_)
    rw [if_pos (by decide)]
    refine wpAny_bind (wpAny_seqItems ha₂ rfl (wpAny_pure ?_))
    show wpAny _ _ (holding [Value.int p.1 t, Value.int p.2 u] (dictSet d (Value.int p.1 t) (Value.int p.2 u))) _ _ _
    refine wpAny_holding ?_
    have hd₂ : h'.DictOf (PySem.intKind prog w) d kvs := by
      obtain ⟨o, es, ep, ho, r⟩ := hd
      exact ⟨o, es, ep, (hs.2 d hdi).trans ho, r⟩
    refine wpAny_dictSet_pairs (intKind_is _ _ _ _) hd₂ (fun h₃ hd₃ hs₃ => ?_) (by have := hf.length; rw [kdfD_length] at this; rw [← this, sizeLine_eq]; simp at hz; omega)
    have hit₃ : h₃.IsListIter it l (i + 1) := by
      obtain ⟨o, ho, r⟩ := hit₂
      exact ⟨o, (hs₃.2 it (Ne.symm hdi)).trans ho, r⟩
    have keep : ∀ b o, b ≠ d → b ≠ it → s.heap.get? b = some o → h₃.get? b = some o := fun b o h1 h2 e => (hs₃.2 b h1).trans ((hs.2 b h2).trans e)
    refine wpAny_pure ⟨plainId_quiet F.plain_update_loop _, ?_⟩
    have hl₃ : h₃.IsList l ts.toArray := by
      obtain ⟨o, ho, r⟩ := hl
      exact ⟨o, keep l o (Ne.symm hdl) (Ne.symm hil) ho, r⟩
    have hf₃ := hf.stored PyProof.V.same_int p.1 (PyProof.V.Flat.int p.2 u)
    rw [kdfD_put] at hf₃
    have e1 : rawInt ((i : Int) + 1) = Value.int ((i + 1 : Nat) : Int) 0 := by simp [rawInt]
    rw [e1]
    refine ih (i + 1) _ _ _ _ hit₃ hl₃ (hp.keeps fun b hb o e => ?_) hd₃ hf₃ ?_ fun h₄ tk₄ kvs₄ hd₄ hf₄ k₄ => ?_
    · have hb' : Value.ref b ∈ ts := List.mem_of_mem_drop hb
      exact keep b o (fun e => hdt (e ▸ hb')) (fun e => hit' (e ▸ hb')) e
    · have := kdfPut_len done p.1 p.2
      simp at hz; omega
    · exact hR h₄ tk₄ kvs₄ hd₄ hf₄ fun b o h1 h2 e => k₄ b o h1 h2 (keep b o h1 h2 e)
end
section
variable {prog : Program} {w : World} {A : Around} {E : Value → Shared → Prop} {s : Shared}
theorem list_no_keys : typeLookup (.type "list") "keys" = pure none := am_miss_of_fast (by decide +kernel)
theorem call_dict_pairs (hh : A.handled = none) {l : Addr} {ts : List Value} {n : Nat} {c : List (Int × Int)} {Q : Value → Shared → Prop} (ho : s.heap.get? l = some (listOf ts.toArray n)) (hp : PairsAre s.heap ts c) (hz : c.length ≤ 16777216)
    (h : ∀ h' tk kvs, h'.DictOf (PySem.intKind prog w) s.heap.objs.size kvs → PyProof.V.FlatPairs PyData.int kvs (kdfD (putAll [] c)) → (∀ b o, s.heap.get? b = some o → h'.get? b = some o) → Q (.ref s.heap.objs.size) { s with heap := h', toks := tk }) :
    wpAny (model prog w) A (call (.type "dict") [.ref l]) Q E s := by
  refine callType_codes (Q₁ := fun obj s₁ => obj = .ref s.heap.objs.size ∧ s₁ = { s with heap := s.heap.push { cls := .type "dict", data := .dict #[] } }) F.kt_called_dict (F.kt_typeCall_dict_1 _) F.entry_dict_init (kt_code_dict_new _ ⟨rfl, rfl⟩) ?_
  rintro obj s₁ ⟨rfl, rfl⟩
  have hnew : (s.heap.push { cls := .type "dict", data := .dict #[] }).DictOf (PySem.intKind prog w) s.heap.objs.size [] := Heap.DictOf.new s.heap
  refine ⟨hnew.typeIs, F.args_dict_init_2 _ _, ?_⟩
  unfold Builtin.«dict.__init__»
  refine wpAny_bind ?_
  unfold Builtin.Dict.selfAndRest
  refine wpAny_bind (wpAny_notOrdered_dict hnew.typeIs ?_)
  show wpAny _ _ (pure (s.heap.objs.size, [Value.ref l])) _ _ _
  refine wpAny_pure ?_
  show wpAny _ _ (Builtin.Dict.updateFrom "dict.__init__" s.heap.objs.size (.ref l) [] .none) _ _ _
  unfold Builtin.Dict.updateFrom
  have hl₁ : (s.heap.push { cls := .type "dict", data := .dict #[] }).get? l = some (listOf ts.toArray n) := Heap.get?_push_of_some _ ho
  refine wpAny_bind (wpAny_typeOf (T := "list") ⟨_, hl₁, rfl⟩ ?_)
  rw [if_pos (by decide)]
  refine wpAny_bind (getAttrQ_miss_list hl₁ rfl rfl rfl list_no_keys (by decide) hh fun h₂ tk₂ k₂ => ?_)
  rw [if_pos (by rfl)]
  refine wpAny_bind (wpAny_rule ?_)
  have hl₂ := k₂ _ _ hl₁
  have hL₂ : h₂.IsList l ts.toArray := ⟨_, hl₂, rfl, n, rfl⟩
  have hd₂ : h₂.get? s.heap.objs.size = some { cls := .type "dict", data := .dict #[] } := k₂ _ _ (Heap.get?_push_size _ rfl)
  have hlt : s.heap.objs.size < h₂.objs.size := Heap.lt_size hd₂
  have hll : l < s.heap.objs.size := Heap.lt_size ho
  have keep : ∀ b o, s.heap.get? b = some o → h₂.get? b = some o := fun b o e => k₂ _ _ (Heap.get?_push_of_some _ e)
  refine wpAny_bind (wpAny_pyIter_list hL₂ (wpAny_pure ⟨plainId_quiet F.plain_update_loop _, ?_⟩))
  have hhA : A.in1.handled = none := hh
  have e0 : rawInt 0 = Value.int ((0 : Nat) : Int) 0 := rfl
  rw [e0]
  refine dict_loop hhA (ts := ts) (Nat.ne_of_lt hlt) (Nat.ne_of_gt hll) (Nat.ne_of_gt (Nat.lt_trans hll hlt)) (fun hm => Nat.lt_irrefl _ (hp.lt _ hm)) (fun hm => Nat.lt_irrefl _ (Nat.lt_trans hlt (hp.lt _ hm))) c 0 _ [] [] _ ⟨_, Heap.get?_push_size _ rfl, rfl, rfl⟩ ⟨_, Heap.get?_push_of_some _ hl₂, rfl, n, rfl⟩ ?_ ?_ ?_ ?_ ?_
  · exact hp.keeps fun a _ o e => Heap.get?_push_of_some _ (keep _ _ e)
  · obtain ⟨o, es, ep, e, r⟩ := hnew
    exact ⟨o, es, ep, Heap.get?_push_of_some _ (k₂ _ _ e), r⟩
  · exact .nil
  · simpa using hz
  · intro h' tk' kvs' hd' hf' hk'
    exact ⟨rfl, h h' tk' kvs' hd' hf' fun b o e => hk' b o (Nat.ne_of_lt (Heap.lt_size e)) (Nat.ne_of_lt (Nat.lt_trans (Heap.lt_size e) hlt)) (Heap.get?_push_of_some _ (keep _ _ e))⟩
end

end
section
/-- tuples of two ints in the ledger -/
def PairsIn (led : Led) : List Value → List (Int × Int) → Prop
  | [], [] => True
  | v :: ts, p :: c => (∃ a t u n, v = .ref a ∧ (a, ({ cls := .type "tuple", data := .seq #[.int p.1 t, .int p.2 u] n } : Obj)) ∈ led) ∧ PairsIn led ts c
  | _, _ => False
theorem PairsIn.mono {led led' : Led} (h : ∀ p ∈ led, p ∈ led') : ∀ {ts : List Value} {c : List (Int × Int)}, PairsIn led ts c → PairsIn led' ts c
  | [], [], _ => trivial
  | _ :: _, _ :: _, ⟨⟨a, t, u, n, e, hm⟩, r⟩ => ⟨⟨a, t, u, n, e, h _ hm⟩, PairsIn.mono h r⟩
  | [], _ :: _, x => x.elim
  | _ :: _, [], x => x.elim
theorem PairsIn.are {h₀ : Heap} {L : Addr} {h : Heap} {led : Led} (N : News h₀ L h led) : ∀ {ts : List Value} {c : List (Int × Int)}, PairsIn led ts c → PairsAre h ts c
  | [], [], _ => trivial
  | _ :: _, _ :: _, ⟨⟨a, t, u, n, e, hm⟩, r⟩ => by subst e; exact ⟨⟨t, u, n, (N _ hm).1⟩, PairsIn.are N r⟩
  | [], _ :: _, x => x.elim
  | _ :: _, [], x => x.elim
theorem PairsIn.append {led : Led} {v : Value} {p : Int × Int} (hv : ∃ a t u n, v = .ref a ∧ (a, ({ cls := .type "tuple", data := .seq #[.int p.1 t, .int p.2 u] n } : Obj)) ∈ led) : ∀ {ts : List Value} {c : List (Int × Int)}, PairsIn led ts c → PairsIn led (ts ++ [v]) (c ++ [p])
  | [], [], _ => ⟨hv, trivial⟩
  | _ :: _, _ :: _, ⟨x, r⟩ => ⟨x, PairsIn.append hv r⟩
  | [], _ :: _, x => x.elim
  | _ :: _, [], x => x.elim
theorem PairsIn.length {led : Led} : ∀ {ts : List Value} {c : List (Int × Int)}, PairsIn led ts c → ts.length = c.length
  | [], [], _ => rfl
  | _ :: _, _ :: _, ⟨_, r⟩ => by simp [PairsIn.length r]
  | [], _ :: _, x => x.elim
  | _ :: _, [], x => x.elim
def TupEl (a b : Int) (nw : Led) (y : Value) (nw' : Led) : Prop := ∃ T t u n, y = .ref T ∧ nw' = (T, ({ cls := .type "tuple", data := .seq #[.int a t, .int b u] n } : Obj)) :: nw
theorem rangeKs_take {a : Int} {n i : Nat} (h : i ≤ n) : (rangeKs a n).take i = rangeKs a i := by
  simp only [rangeKs, ← List.map_take]
  congr 1
  rw [List.take_range, Nat.min_eq_left h]
theorem rangeKs_succ (a : Int) (n : Nat) : rangeKs a (n + 1) = rangeKs a n ++ [a + (n : Int)] := by
  simp [rangeKs, List.range_succ]
section
variable {prog : Program} {w : World} {A : Around} {E : Value → Shared → Prop} {s : Shared} {h₀ : Heap} {L : Addr} {m : Str → Option Value} {env : Env} {elt : Expr} {x : Str} {scope : Scope} {cl : List (Str × Addr)} {S : Led → Prop} {Fin : List Value → Led → Prop} {news : Led}
theorem comp_pairs {n : Nat} {a : Int} (f g : Int → Int)
    (turn : ∀ k t I oI C oC D m₂ ys nw h tk (E' : Value → Shared → Prop), a ≤ k → k < a + (n : Int) → LCg.NsObj oC m₂ → m₂ x = some (.int k t) → Fr h₀ L h m → News h₀ L h ((I, oI) :: (C, oC) :: (D, LCg.lst ys) :: nw) → LCg.Off3 I C D nw → (I ≠ C ∧ I ≠ D ∧ C ≠ D) → (∀ p ∈ news, p ∈ nw) →
      wpAny (model prog w) A (eval elt (compEnvC scope cl C env)) (LCg.CompEnd h₀ L m { s with heap := h, toks := tk } I oI C oC D (LCg.lst ys) S (fun y nw' => TupEl (f k) (g k) nw y nw')) E' { s with heap := h, toks := tk })
    (fin : ∀ ys tl, PairsIn (tl ++ news) ys ((rangeKs a n).map fun k => (f k, g k)) → Fin ys (tl ++ news)) :
    LCg.CompRest prog w A h₀ L m env elt x scope cl s S (fun i v => ∃ t, v = .int (a + (i : Int)) t) Fin n 0 [] news := by
  have key : ∀ (j i : Nat) (ys : List Value) (tl : Led), i + j = n → PairsIn (tl ++ news) ys ((rangeKs a i).map fun k => (f k, g k)) →
      LCg.CompRest prog w A h₀ L m env elt x scope cl s S (fun i v => ∃ t, v = .int (a + (i : Int)) t) Fin j i ys (tl ++ news) := by
    intro j
    induction j with
    | zero =>
      intro i ys tl hi hy
      have e : i = n := by omega
      subst e
      exact LCg.CompRest.zero (fin ys tl hy)
    | succ j ih =>
      intro i ys tl hi hy
      refine LCg.CompRest.succ ?_
      rintro v I oI C oC D m₂ h tk E' ⟨t, rfl⟩ hC hx F N off ne
      refine wpAny_mono (turn (a + (i : Int)) t I oI C oC D m₂ ys _ h tk E' (by omega) (by omega) hC hx F N off ne fun p hp => List.mem_append_right _ hp) (fun y s₂ hq => ?_) fun _ _ e => e
      obtain ⟨h', tk', nw, e, F', N', off', hS, T, t1, u1, n1, rfl, rfl⟩ := hq
      refine ⟨h', tk', _, e, F', N', off', hS, ?_⟩
      have := ih (i + 1) (ys ++ [.ref T]) ((T, _) :: tl) (by omega) (by
        rw [rangeKs_succ, List.map_append]
        exact PairsIn.append ⟨T, t1, u1, n1, rfl, .head _⟩ (hy.mono fun p hp => .tail _ hp))
      exact this
  exact key n 0 [] [] (by omega) (by simp [rangeKs, PairsIn])
theorem tup_end {T I C D : Addr} {oI oC oD : Obj} {nw : Led} {h : Heap} {tk : Nat} {a b a' b' : Int} {t u : Tok} {n : Nat} (F : Fr h₀ L h m) (N : News h₀ L h ((T, ({ cls := .type "tuple", data := .seq #[.int a t, .int b u] n } : Obj)) :: (I, oI) :: (C, oC) :: (D, oD) :: nw))
    (l : (I < T ∧ C < T ∧ D < T ∧ AllLt T nw)) (off : LCg.Off3 I C D nw) (e1 : a = a') (e2 : b = b') (hS : ∀ nw, S nw) :
    LCg.CompEnd h₀ L m s I oI C oC D oD S (fun y nw' => TupEl a' b' nw y nw') (.ref T) { s with heap := h, toks := tk } := by
  subst e1 e2
  have ho : LCg.Off3 I C D ((T, ({ cls := .type "tuple", data := .seq #[.int a t, .int b u] n } : Obj)) :: nw) := ⟨⟨Nat.ne_of_gt l.1, Nat.ne_of_gt l.2.1, Nat.ne_of_gt l.2.2.1⟩, off⟩
  refine ⟨h, tk, _, rfl, F, ?_, ho, hS _, T, t, u, n, rfl, rfl⟩
  intro p hp
  refine N p ?_
  simp only [List.mem_cons] at hp ⊢
  rcases hp with h | h | h | h | h <;> simp [h]
theorem dict_pairs_K (hh : A.handled = none) {l : Addr} {ts : List Value} {n : Nat} {c : List (Int × Int)} {Q : Value → Shared → Prop} (F : Fr h₀ L s.heap m) (N : News h₀ L s.heap news) (hbig : h₀.NoLimit) (hm : (l, listOf ts.toArray n) ∈ news) (hp : PairsIn news ts c) (hz : c.length ≤ 16777216)
    (k : ∀ D h' o kvs tk, Fr h₀ L h' m → News h₀ L h' ((D, o) :: news) → (D == sysModules) = false → Obj.IsDictOf (PySem.intKind prog w) o kvs → PyProof.V.FlatPairs PyData.int kvs (kdfD (putAll [] c)) → AllLt D news → Q (.ref D) { s with heap := h', toks := tk }) :
    wpAny (model prog w) A (call (.type "dict") [.ref l]) Q E s := by
  refine call_dict_pairs hh (N _ hm).1 (hp.are N) hz fun h' tk kvs hd hf hk => ?_
  obtain ⟨o', ho', hd'⟩ := Heap.dictOf_iff.mp hd
  have hb : sysModules < h₀.objs.size := by
    obtain ⟨mc, ⟨o, _, _, ho, _⟩, _⟩ := hbig
    exact Nat.lt_trans (by decide) (Heap.lt_size ho)
  exact k _ h' o' kvs tk (F.keeps hk) (news_pushed F N hk ho' rfl) (F.notModules hb) hd' hf (allLt_of fun q hq => Heap.lt_size (N q hq).1)
end
theorem news_lt3 {h₀ h : Heap} {L I C D : Addr} {oI oC oD : Obj} {nw : Led} (N : News h₀ L h ((I, oI) :: (C, oC) :: (D, oD) :: nw)) : I < h.objs.size ∧ C < h.objs.size ∧ D < h.objs.size ∧ AllLt h.objs.size nw :=
  ⟨Heap.lt_size (N _ (.head _)).1, Heap.lt_size (N _ (.tail _ (.head _))).1, Heap.lt_size (N _ (.tail _ (.tail _ (.head _)))).1, allLt_of fun p hp => Heap.lt_size (N _ (.tail _ (.tail _ (.tail _ hp)))).1⟩
theorem pairs_rc (f : Int → Int) (a : Int) (n : Nat) : (rangeKs a n).map (fun k => (k, f k)) = rc a ((rangeKs a n).map f) := by
  induction n with
  | zero => simp [rangeKs, rc]
  | succ n ih =>
    rw [rangeKs_succ, List.map_append, List.map_append, rc_append, ih]
    simp [rc, rangeKs_length]
theorem map_part {lo a : Int} {xs : List Int} {n : Nat} (h1 : lo ≤ a) (h2 : a + n ≤ lo + xs.length) : (rangeKs a n).map (fun k => kdfLook (rc lo xs) k 0) = (xs.drop (a - lo).toNat).take n := by
  apply List.ext_getElem?
  intro i
  rw [List.getElem?_map, rangeKs_getElem?, List.getElem?_take, List.getElem?_drop]
  by_cases hi : i < n
  · rw [if_pos hi, if_pos hi, Option.map_some, rc_look lo xs _ (by omega) (by omega)]
    have e : (a + (i : Int) - lo).toNat = (a - lo).toNat + i := by omega
    rw [e, List.getD_eq_getElem?_getD, List.getElem?_eq_getElem (by omega)]
    rfl
  · rw [if_neg hi, if_neg hi]; rfl
section
variable {h₀ h : Heap} {L : Addr} {x y v u : Addr × Obj} {z news : Led}
theorem keep0 (N : News h₀ L h z) (hs : ∀ p ∈ news, p ∈ z) : News h₀ L h news := fun p hp => N p (hs p hp)
theorem keep1 (N : News h₀ L h (x :: z)) (hs : ∀ p ∈ news, p ∈ z) : News h₀ L h (x :: news) := fun p hp => N p ((List.mem_cons.mp hp).elim (fun e => e ▸ .head _) fun h => .tail _ (hs p h))
theorem keep2 (N : News h₀ L h (x :: y :: z)) (hs : ∀ p ∈ news, p ∈ z) : News h₀ L h (x :: y :: news) := fun p hp => by
  rcases List.mem_cons.mp hp with rfl | hp
  · exact N _ (.head _)
  · exact keep1 (fun p hp => N p (.tail _ hp)) hs p hp
theorem keep3 (N : News h₀ L h (x :: y :: v :: z)) (hs : ∀ p ∈ news, p ∈ z) : News h₀ L h (x :: y :: v :: news) := fun p hp => by
  rcases List.mem_cons.mp hp with rfl | hp
  · exact N _ (.head _)
  · exact keep2 (fun p hp => N p (.tail _ hp)) hs p hp
theorem keep4 (N : News h₀ L h (x :: y :: v :: u :: z)) (hs : ∀ p ∈ news, p ∈ z) : News h₀ L h (x :: y :: v :: u :: news) := fun p hp => by
  rcases List.mem_cons.mp hp with rfl | hp
  · exact N _ (.head _)
  · exact keep3 (fun p hp => N p (.tail _ hp)) hs p hp
end
theorem rc_getElem? : ∀ (lo : Int) (xs : List Int) (i : Nat), (rc lo xs)[i]? = xs[i]?.map fun x => (lo + (i : Int), x)
  | _, [], i => by simp [rc]
  | lo, x :: xs, 0 => by simp [rc]
  | lo, x :: xs, i + 1 => by
    simp only [rc, List.getElem?_cons_succ, rc_getElem? (lo + 1) xs i]
    congr 1
    funext y
    congr 1
    push_cast; omega
theorem pairs_of {lo : Int} {xs : List Int} {n : Nat} {f g : Int → Int} (hn : n = xs.length) (hf : ∀ i : Nat, i < n → f i = lo + i) (hg : ∀ i : Nat, i < n → g i = xs.getD i 0) : (rangeKs 0 n).map (fun k => (f k, g k)) = rc lo xs := by
  apply List.ext_getElem?
  intro i
  rw [List.getElem?_map, rangeKs_getElem?, rc_getElem?]
  by_cases hi : i < n
  · rw [if_pos hi, Option.map_some, Int.zero_add, hf i hi, hg i hi, List.getD_eq_getElem?_getD, List.getElem?_eq_getElem (by omega)]
    rfl
  · rw [if_neg hi, List.getElem?_eq_none (by omega)]; rfl
theorem range_getD {a : Int} {n i : Nat} (h : i < n) : (rangeKs a n).getD i 0 = a + (i : Int) := by
  rw [List.getD_eq_getElem?_getD, rangeKs_getElem?, if_pos h]; rfl
theorem merge_putAll (c ps : List (Int × Int)) : ktMergeD (kdfD c) (kdfD ps) = kdfD (putAll c ps) := by
  induction ps generalizing c with
  | nil => rfl
  | cons p ps ih =>
    have h := ih (kdfPut c p.1 p.2)
    simp only [ktMergeD, kdfD, List.map_cons, List.foldl_cons, putAll] at h ⊢
    rw [← h]
    congr 1
    exact kdfD_put c p.1 p.2
section
variable {prog : Program} {w : World} {A : Around} {E : Value → Shared → Prop} {s : Shared} {h₀ : Heap} {L : Addr} {m : Str → Option Value} {news : Led}
theorem dict_copy_K {src : Addr} {c : List (Int × Int)} {Q : Value → Shared → Prop} (F : Fr h₀ L s.heap m) (N : News h₀ L s.heap news) (hbig : h₀.NoLimit) (T : IntTab prog w s.heap src (kdfD c)) (hz : c.length ≤ 16777216)
    (k : ∀ D h' o kvs, Fr h₀ L h' m → News h₀ L h' ((D, o) :: news) → (D == sysModules) = false → Obj.IsDictOf (PySem.intKind prog w) o kvs → PyProof.V.FlatPairs PyData.int kvs (kdfD c) → AllLt D news → Q (.ref D) { s with heap := h' }) :
    wpAny (model prog w) A (call (.type "dict") [.ref src]) Q E s := by
  have hb : sysModules < h₀.objs.size := by
    obtain ⟨mc, ⟨o, _, _, ho, _⟩, _⟩ := hbig
    exact Nat.lt_trans (by decide) (Heap.lt_size ho)
  exact kt_dict_of F N hb T (by rw [kdfD_length, sizeLine_eq]; omega) fun h' o kvs F' N' lo' hd hf _ => k _ h' o kvs F' N' lo' hd hf (allLt_of fun q hq => Heap.lt_size (N q hq).1)
theorem update_K {d o₂ : Addr} {o : Obj} {u : Obj → Led} {kvs : List (Int × Value)} {c ps : List (Int × Int)} {Q : Value → Shared → Prop} (F : Fr h₀ L s.heap m) (N : News h₀ L s.heap news) (U : UpdF d o news u) (hd : o.IsDictOf (PySem.intKind prog w) kvs) (hf : PyProof.V.FlatPairs PyData.int kvs (kdfD c))
    (T₂ : IntTab prog w s.heap o₂ (kdfD ps)) (hne : d ≠ o₂) (hz : c.length + ps.length ≤ 16777216)
    (k : ∀ h' o' kvs', Fr h₀ L h' m → News h₀ L h' (u o') → o'.IsDictOf (PySem.intKind prog w) kvs' → PyProof.V.FlatPairs PyData.int kvs' (kdfD (putAll c ps)) → Q .none { s with heap := h' }) :
    wpAny (model prog w) A (call (.builtin "dict.update") [.ref d, .ref o₂]) Q E s :=
  kt_update_K PyProof.V.same_int F N U hd hf T₂ hne (fun h' o' kvs' F' N' a b => k h' o' kvs' F' N' a (by rw [← merge_putAll]; exact b)) (by rw [kdfD_length, kdfD_length, sizeLine_eq]; omega)
theorem not_of_lt {a d : Addr} {o : Obj} {l : Led} (h : AllLt d l) (hm : (a, o) ∈ l) : d ≠ a := (allLtNe h _ hm).symm
end

end
example : True := by
  (k_with "compareOp NotIn int ref" => (k_here; (with_reducible show wpAny _ _ (compareOp CmpOp.NotIn (Value.int _ _) (Value.ref _)) _ _ _); k_dflt (refine kdf_notin (by k_tabat) ?_)))
  (k_with "TurnPost" => dsimp only [TurnPost])
  (k_with "eval ListComp" => (k_here; (with_reducible show wpAny _ _ (eval (Expr.ListComp (Expr.Tuple _ _ _) _ _ _) _) _ _ _); k_dflt (refine LCg.ListComp_U (F₀ := by k_asm) (by with_unfolding_all rfl) (by decide) (by rfl) (by decide) (by rfl) ?_)))
  (k_with "CompSrc" => (k_here; (with_reducible show LCg.CompSrc _ _ _ _ _ _ _ (Expr.Tuple _ _ _) _ _ _ _ _ _); refine stop_it ?_))
  (k_with "CompEnd" => ((with_reducible show LCg.CompEnd _ _ _ _ _ _ _ _ _ _ _ (fun y n'7 => TupEl _ _ _ y n'7) _ _); refine tup_end (by k_asm) (by k_asm) (by assumption) (by assumption) (by first | rfl | omega) (by first | rfl | omega) (fun _ => trivial)))
  (k_with "call type:dict" => (k_here; (with_reducible show wpAny _ _ (call (Value.type "dict") [Value.ref _]) _ _ _); k_dflt (refine dict_pairs_K (by rfl) (by k_asm) (by k_asm) (TopRead.nolimit (by k_asm)) (by k_mem) (by assumption) (by simp only [List.length_map, rangeKs_length]; omega) ?_); intro D'7 h'7 o'7 kvs'7 tk'7 F'7 N'7 lo'7 hD'7 hf'7 lt'7))
  trivial
section
/-- a part of a row -/
def partR (lo : Int) (xs : List Int) (a b : Int) : Option (Int × List Int) :=
  if b < a then some (a, []) else if lo ≤ a ∧ b < lo + xs.length then some (a, (xs.drop (a - lo).toNat).take (b + 1 - a).toNat) else none
def RowOr (w : World) (led : Led) (v : Value) : Option (Int × List Int) → Prop
  | none => v = .none
  | some p => RowIn w led v p.1 p.2
set_option maxRecDepth 100000 in
set_option maxHeartbeats 1000000 in
theorem part_does {w : World} {mean : ExcName → Option Value} {mg mb : Str → Option Value} {v : Value} {lo : Int} {xs : List Int} {a b : Int} {ta tb : Tok} {news : Led}
   (R : RowIn w news v lo xs) (hl : xs.length ≤ 40) (hb : -1000 ≤ lo ∧ lo ≤ 1000) (hab : a - 1 ≤ b) (hba : b ≤ a + 40) (ha : -1000 ≤ a ∧ a ≤ 1000) :
   Does 20 w mean mg mb 208 [v, .int a ta, .int b tb] news (fun r post => ∃ tl, post = tl ++ news ∧ RowOr w post r (partR lo xs a b)) := by
  refine RowIn.elim R ?_
  clear R
  intro r d od kvs hi t t' n hr hhi hd hlo hD hF _
  unfold Does
  k_fill
  intro dp un gd cn cs' ac ccd cl outer A₀ base h₀ L m s Q E B F X N T hk hd' hu hret
  refine wpAny_call ?_
  obtain ⟨ck, cnm, cg, cco, cmo⟩ := cs'
  dsimp only at hk
  subst hk
  k_dflt k_enter
  k_steps
  · refine hret _ _ _ _ (by assumption) (by assumption) ⟨[_, _, _], rfl, ?_⟩
    rw [partR, if_pos (by assumption)]
    exact RowIn.mk (.head _) (by simp; omega) (.tail _ (.head _)) (by assumption) (by assumption) (by assumption)
  · show wpAny _ _ (pyIter _) _ _ _
    rename ¬(b < a) => hnlt
    rename IsRange _ _ _ _ _ _ _ _ => hR
    rename Fr _ _ _ _ => hFr
    rename News _ _ _ _ => hN
    refine range_K (fun i nw => nw = _ ∧ ∀ j : Nat, j < i → kdfHas (rc lo xs) (a + j) = true) rfl hR (small_one (by omega) (by omega) (by omega) (by omega)) (rangeSize_nat _ _) hFr hN ⟨rfl, by intro j hj; omega⟩ ?_ ?_
    · rintro i tt news₁ h tk own hi' ⟨rfl, hall⟩ hoff F₁ N₁
      simp only [List.cons_append] at N₁
      k_steps
      · refine ⟨_, _, _, _ :: news, rfl, F₁, N₁, hoff, fun z hz => by simp [hz], rfl, fun j hj => ?_⟩
        by_cases e : j = i
        · rw [e]; assumption
        · exact hall j (by omega)
      · rename News h₀ L _ _ => kN
        refine hret _ news _ _ (by assumption) (kst_newsOf kN (by kcf_all)) ⟨[], rfl, ?_⟩
        rename kdfHas _ _ = false => hno
        rw [rc_has, decide_eq_false_iff_not] at hno
        rw [partR, if_neg hnlt, if_neg (by omega)]
        exact rfl
    · rintro u news₁ h tk ⟨rfl, hall⟩ F₁ N₁
      k_steps
      show LCg.CompSrc _ _ _ _ _ _ _ _ _ _ _ _ _ _
      rename IsRange _ _ _ _ _ _ _ _ => hR2
      rename Fr _ _ _ _ => hF2
      rename News _ _ _ _ => hN2
      have hin : lo ≤ a ∧ b < lo + xs.length := by
        have h1 := hall 0 (by omega)
        have h2 := hall (b - a).toNat (by omega)
        rw [rc_has, decide_eq_true_eq] at h1 h2
        omega
      refine LCg.CompSrc.range (by rfl) hF2 hN2 hR2 (small_one (by omega) (by omega) (by omega) (by omega)) (rangeSize_nat _ _) (by rw [sizeLine_eq]; omega) ?_
      intro g
      refine comp_pairs (fun k => k) (fun k => kdfLook (rc lo xs) k 0) ?_ ?_
      · intro k tk I oI C oC D m₂ ys nw h tk E' hk1 hk2 hC hx F₂ N₂ off ne hsub
        have hd2 := hsub _ (.tail _ hd)
        have hr2 := hsub _ (.tail _ hr)
        have hc2 := hsub _ (.head _)
        have l9 := news_lt3 N₂
        k_steps
      · intro ys tl hp D h tk F₂ N₂ o1
        have hp2 := hp.mono fun p hp => List.mem_cons_of_mem (D, LCg.lst ys) hp
        k_steps
        rename Fr h₀ L _ _ => F9
        rename News h₀ L _ _ => N9
        rename PyProof.V.FlatPairs PyData.int _ (kdfD (putAll _ _)) => hf9
        rw [pairs_rc, putAll_nil, map_part hin.1 (by omega)] at hf9
        refine hret _ _ _ _ F9 (keep2 N9 (news := news) (by intro p hp; kcf_m)) ⟨[_, _], rfl, ?_⟩
        rw [partR, if_neg hnlt, if_pos hin]
        exact RowIn.mk (.head _) (by simp only [List.length_take, List.length_drop]; omega) (.tail _ (.head _)) (by assumption) (by assumption) hf9

end
section
/-- a row under other bounds -/
def movedR (xs : List Int) (a b : Int) : Option (Int × List Int) := if (xs.length : Int) = b - a + 1 then some (a, xs) else none
set_option maxRecDepth 100000 in
set_option maxHeartbeats 1000000 in
theorem moved_does {w : World} {mean : ExcName → Option Value} {mg mb : Str → Option Value} {v : Value} {lo : Int} {xs : List Int} {a b : Int} {ta tb : Tok} {news : Led}
   (R : RowIn w news v lo xs) (hl : xs.length ≤ 40) (hb : -1000 ≤ lo ∧ lo ≤ 1000) (hab : a - 1 ≤ b) (hba : b ≤ a + 60) (ha : -1000 ≤ a ∧ a ≤ 1000) :
   Does 20 w mean mg mb 213 [v, .int a ta, .int b tb] news (fun r post => ∃ tl, post = tl ++ news ∧ RowOr w post r (movedR xs a b)) := by
  refine RowIn.elim R ?_
  clear R
  intro r d od kvs hi t t' n hr hhi hd hlo hD hF _
  unfold Does
  k_fill
  intro dp un gd cn cs' ac ccd cl outer A₀ base h₀ L m s Q E B F X N T hk hd' hu hret
  refine wpAny_call ?_
  obtain ⟨ck, cnm, cg, cco, cmo⟩ := cs'
  dsimp only at hk
  subst hk
  k_dflt k_enter
  k_steps
  · rename Fr h₀ L _ _ => F9
    rename News h₀ L _ _ => N9
    rename (_ : Int) ≠ _ => hne
    refine hret _ _ _ _ F9 (keep0 N9 (news := news) (by intro p hp; kcf_m)) ⟨[], rfl, ?_⟩
    simp only [List.length_map, rangeKs_length] at hne
    rw [movedR, if_neg (by omega)]
    exact rfl
  · show LCg.CompSrc _ _ _ _ _ _ _ _ _ _ _ _ _ _
    rename IntsAre _ (rangeKs a _) => hI7
    rename IntsAre _ (List.map (fun k => kdfLook _ k 0) _) => hI8
    rename (_ : Int) = _ => hee
    rw [map_rc (by omega)] at hI8
    simp only [List.length_map, rangeKs_length] at hee
    rename IsRange _ _ 0 _ _ _ _ _ => hR2
    rename Fr _ _ _ _ => hF2
    rename News _ _ _ _ => hN2
    simp only [List.length_map, rangeKs_length] at hR2
    refine LCg.CompSrc.range (by rfl) hF2 hN2 hR2 (small_one (by omega) (by omega) (by omega) (by omega)) (rangeSize_nat _ _) (by rw [sizeLine_eq]; omega) ?_
    intro g
    refine comp_pairs (fun k => (rangeKs a (b + 1 - a).toNat).getD k.toNat 0) (fun k => xs.getD k.toNat 0) ?_ ?_
    · intro k tk I oI C oC D m₂ ys nw h tk E' hk1 hk2 hC hx F₂ N₂ off ne hsub
      have h1 := hsub _ (.head _)
      have h2 := hsub _ (.tail _ (.head _))
      have h3 := hsub _ (.tail _ (.tail _ (.head _)))
      have h4 := hsub _ (.tail _ (.tail _ (.tail _ (.head _))))
      have h5 := hsub _ (.tail _ (.tail _ (.tail _ (.tail _ (.head _)))))
      have l9 := news_lt3 N₂
      k_steps
    · intro ys tl hp D h tk F₂ N₂ o1
      have hp2 := hp.mono fun p hp => List.mem_cons_of_mem (D, LCg.lst ys) hp
      k_steps
      rename Fr h₀ L _ _ => F9
      rename News h₀ L _ _ => N9
      rename PyProof.V.FlatPairs PyData.int _ (kdfD (putAll _ _)) => hf9
      rw [pairs_of (lo := a) (xs := xs) (by omega) (fun i hi => by simp only [Int.toNat_natCast]; exact range_getD (by omega)) (fun i hi => by simp only [Int.toNat_natCast]), putAll_nil] at hf9
      refine hret _ _ _ _ F9 (keep2 N9 (news := news) (by intro p hp; kcf_m)) ⟨[_, _], rfl, ?_⟩
      rw [movedR, if_pos (by omega)]
      show RowIn w _ _ a xs
      exact RowIn.mk (.head _) (by omega) (.tail _ (.head _)) (by assumption) (by assumption) hf9

end
section
theorem rc_keys : ∀ (lo : Int) (xs : List Int), (rc lo xs).map (·.1) = rangeKs lo xs.length
  | lo, xs => by
    apply List.ext_getElem?
    intro i
    rw [List.getElem?_map, rc_getElem?, rangeKs_getElem?]
    by_cases hi : i < xs.length
    · rw [if_pos hi, List.getElem?_eq_getElem hi]; rfl
    · rw [if_neg hi, List.getElem?_eq_none (by omega)]; rfl
theorem range_mem {a k : Int} {n : Nat} (h : k ∈ rangeKs a n) : a ≤ k ∧ k < a + (n : Int) := by
  simp only [rangeKs, List.mem_map, List.mem_range] at h
  obtain ⟨i, hi, rfl⟩ := h
  omega
theorem range_sorted (a : Int) (n : Nat) : (rangeKs a n).Pairwise (· ≤ ·) := by
  rw [List.pairwise_iff_getElem]
  intro i j hi hj hij
  have e1 : (rangeKs a n)[i] = a + (i : Int) := by simp [rangeKs]
  have e2 : (rangeKs a n)[j] = a + (j : Int) := by simp [rangeKs]
  rw [e1, e2]; omega
section
variable {prog : Program} {w : World} {A : Around} {E : Value → Shared → Prop} {s : Shared} {h₀ : Heap} {L d : Addr} {m : Str → Option Value} {news : Led} {Q : Value → Shared → Prop}
theorem sorted_rc (hh : A.handled = none) (F : Fr h₀ L s.heap m) (N : News h₀ L s.heap news) {lo : Int} {xs : List Int} (Ta : IntTab prog w s.heap d (kdfD (rc lo xs))) (hn : xs.length < 64)
    (h : ∀ (B : Addr) h' tk vs n, Fr h₀ L h' m → News h₀ L h' ((B, listOf vs.toArray n) :: news) → AllLt B news → IntsAre vs (rangeKs lo xs.length) → Q (.ref B) { s with heap := h', toks := tk }) :
    wpAny (model prog w) A (call (.builtin "sorted") [.ref d]) Q E s := by
  obtain ⟨hlo, kvs, hD, hf⟩ := Ta
  obtain ⟨ep, hat⟩ := hD.dictAt
  have hlen : kvs.length = xs.length := by rw [← hf.length, kdfD_length, rc_length]
  refine kdu_sorted (kdl_dict (knd := PySem.intKind prog w) (kvs := kvs) (ep := ep) hlo) hh F N hat (kdl_size (by omega)) fun B h' tk vs F' N' l1 hl hv => ?_
  have hI : IntsAre vs (rangeKs lo xs.length) := by
    refine kdy_ints (by rw [hl, rangeKs_length, hlen]) fun j v hj => ?_
    obtain ⟨k, x, hx, hk⟩ := hv j v hj
    obtain ⟨dv, hd, _⟩ := hf.at hx
    obtain ⟨t, rfl⟩ := PyProof.V.Flat.int_inv (kdl_flat_int hk)
    refine ⟨k, ?_, t, rfl⟩
    have e : (kdfD (rc lo xs))[j]? = some (PyData.int k, dv) := hd
    rw [kdfD, List.getElem?_map, rc_getElem?] at e
    have hj' : j < xs.length := by
      rcases Nat.lt_or_ge j xs.length with h | h
      · exact h
      · rw [List.getElem?_eq_none h] at e; cases e
    rw [List.getElem?_eq_getElem hj'] at e
    simp only [Option.map_some, Option.some.injEq, Prod.mk.injEq, PyData.int.injEq] at e
    rw [rangeKs_getElem?, if_pos hj', e.1]
  have z := N' (B, listOf vs.toArray 0) (.head _)
  have ho : h'.get? B = some (seqObj "list" vs.toArray 0) := z.1
  refine wpAny_call_entry PyProof.Rows.slot_list_sort ⟨_, z.1, rfl⟩ PyProof.Rows.entry_list_sort (list_sort_tree (n := 0) (vs := vs) ho hI (by omega) fun out ns' hI' hp hP => ⟨.none, rfl, ?_⟩) (PyProof.Rows.args_list_sort _)
  have hns : ns' = rangeKs lo xs.length := lks_uniq hp hP (range_sorted _ _)
  subst hns
  obtain ⟨e, he⟩ := sortedHeap_at (vs := vs) (out := out) ho
  have old : ∀ b o, b ≠ B → h'.get? b = some o → (sortedHeap h' B vs out).get? b = some o := fun b o hb q => (sortedHeap_old hb (Heap.lt_size q)).trans q
  have F2 : Fr h₀ L (sortedHeap h' B vs out) m := by
    obtain ⟨oL, a1, a2, hL, a3⟩ := F'.ns
    refine ⟨⟨oL, a1, a2, old _ _ (fun e => z.2.1 e.symm) hL, a3⟩, fun b o q => old b o (fun e => ?_) (F'.keep b o q), F'.above⟩
    rw [e] at q; rw [z.2.2] at q; cases q
  refine h B _ tk out.toList e F2 (fun p hp => ?_) (allLt_of l1) hI'
  rcases List.mem_cons.mp hp with rfl | hp
  · exact ⟨by rw [Array.toArray_toList]; exact he, z.2⟩
  · exact ⟨old _ _ (Nat.ne_of_lt (l1 p hp)) (N' p (.tail _ hp)).1, (N' p (.tail _ hp)).2⟩
theorem eq_empty {e : Addr} {lo : Int} {xs : List Int} (Ta : IntTab prog w s.heap d (kdfD (rc lo xs))) (Te : IntTab prog w s.heap e (kdfD [])) (hu : A.units < cLine)
    (h : Q (.bool xs.isEmpty) s) : wpAny (model prog w) A (compareOp .Eq (.ref d) (.ref e)) Q E s := by
  obtain ⟨ha, ka, hda, hfa⟩ := Ta
  obtain ⟨hb, kb, hdb, hfb⟩ := Te
  have e1 : kb = [] := by cases hfb; rfl
  subst e1
  have hlen : ka.length = xs.length := by rw [← hfa.length, kdfD_length, rc_length]
  refine keq_eq (r := true) ha hb hda hdb hu (fun hl => ?_) ?_
  · cases ka with
    | nil => exact .nil
    | cons _ _ => cases hl
  · have e2 : (ka.length == ([] : List (Int × Value)).length && true) = xs.isEmpty := by
      rw [Bool.and_true, hlen]
      cases xs <;> rfl
    rw [e2]; exact h
end
/-- ways that meet in one int -/
theorem join_int {M : Model} {A : Around} {t : Sem Value} {E : Value → Shared → Prop} {s : Shared} {Q : Value → Shared → Prop} (x : Int) (h : wpAny M A t (fun v s' => ∃ u tk, v = .int x u ∧ s' = { s with toks := tk }) E s)
    (k : ∀ u tk, Q (.int x u) { s with toks := tk }) : wpAny M A t Q E s :=
  wpAny_mono h (fun v s' ⟨u, tk, e1, e2⟩ => by subst e1 e2; exact k u tk) fun _ _ e => e

end
example : True := by
  (k_with "call builtin:sorted" => (k_here; (with_reducible show wpAny _ _ (call (Value.builtin "sorted") [Value.ref _]) _ _ _); k_dflt (refine sorted_rc (by rfl) (by k_asm) (by k_asm) (by k_tabat) (by omega) ?_); intro D'7 h'7 tk'7 vs'7 n'7 F'7 N'7 lt'7 i'7; (try simp only [AllLt, and_true] at lt'7)))
  (k_with "compareOp Eq ref" => (k_here; (with_reducible show wpAny _ _ (compareOp CmpOp.Eq (Value.ref _) (Value.ref _)) _ _ _); k_dflt (refine eq_empty (by k_tabat) (TabAt.ofNews (D := kdfD []) (by k_asm) (by k_mem) (by k_asm) (by k_asm) (by k_asm)) (by ktr_units) ?_)))
  (k_with "HAS" => (rw [rc_has]; exact decide_eq_true (range_mem (by assumption))))
  trivial
section
/-- one row behind another, the index subtype -6 .. 9 -/
def behindR (lo : Int) (xs : List Int) (lo2 : Int) (ys : List Int) (fixed : Bool) : Option (Int × List Int) :=
  if xs = [] then some (lo2, ys) else
    let l := if fixed then -6 else lo
    if l < -6 ∨ 9 < l + (xs.length + ys.length) - 1 then none else some (l, xs ++ ys)
example : True := by
  (k_with "eval IfExp" => (k_here; refine stop_it ?_))
  trivial
set_option maxRecDepth 100000 in
set_option maxHeartbeats 2000000 in
theorem behind_does {w : World} {mean : ExcName → Option Value} {mg mb : Str → Option Value} {v v2 : Value} {lo lo2 : Int} {xs rs : List Int} {fixed : Bool} {news : Led}
   (R : RowIn w news v lo xs) (R2 : RowIn w news v2 lo2 rs) (hl : xs.length ≤ 40) (hb : -1000 ≤ lo ∧ lo ≤ 1000) (hl2 : rs.length ≤ 40) (hb2 : -1000 ≤ lo2 ∧ lo2 ≤ 1000) :
   Does 20 w mean mg mb 218 [v, v2, .bool fixed] news (fun r post => ∃ tl, post = tl ++ news ∧ RowOr w post r (behindR lo xs lo2 rs fixed)) := by
  have R2' := R2
  refine RowIn.elim R ?_
  clear R
  intro r d od kvs hi t t' n hr hhi hd hlo hD hF _
  obtain ⟨r2, d2, od2, kvs2, hi2, t2, t2', n2, rfl, hr2, hhi2, hd2, hlo2, hD2, hF2⟩ := R2
  unfold Does
  k_fill
  intro dp un gd cn cs' ac ccd cl outer A₀ base h₀ L m s Q E B F X N T hk hd' hu hret
  refine wpAny_call ?_
  obtain ⟨ck, cnm, cg, cco, cmo⟩ := cs'
  dsimp only at hk
  subst hk
  k_dflt k_enter
  k_steps
  · rename Fr h₀ L _ _ => F9
    rename News h₀ L _ _ => N9
    rename List.isEmpty _ = true => he
    refine hret _ _ _ _ F9 (keep0 N9 (news := news) (by intro p hp; kcf_m)) ⟨[], rfl, ?_⟩
    rw [behindR, if_pos (List.isEmpty_iff.mp he)]
    exact R2'
  · show wpAny _ _ (eval _ _) _ _ _
    refine join_int (if fixed then -6 else lo) ?_ ?_
    · show wpAny _ _ (isTrue _ _ (eval _ _) >>= fun b => if b then eval _ _ else eval _ _) _ _ _
      refine wpAny_bind ?_
      k_steps
      all_goals (refine wpAny_ite ?_; split)
      all_goals k_steps
      all_goals exact ⟨_, _, by simp [*], rfl⟩
    · intro u tk
      generalize hlw : (if fixed then (-6 : Int) else lo) = lw
      rename List.isEmpty _ = false => he
      have hne : xs ≠ [] := fun e => by rw [e] at he; cases he
      have hlwb : -1000 ≤ lw ∧ lw ≤ 1000 := by rw [← hlw]; split <;> omega
      k_steps
      · rename Fr h₀ L _ _ => F9
        rename News h₀ L _ _ => N9
        refine hret _ _ _ _ F9 (keep0 N9 (news := news) (by intro p hp; kcf_m)) ⟨[], rfl, ?_⟩
        rw [behindR, if_neg hne, hlw]
        dsimp only
        rw [if_pos (.inl (by assumption))]
        exact rfl
      · rename Fr h₀ L _ _ => F9
        rename News h₀ L _ _ => N9
        rename (9 : Int) < _ => h9
        simp only [List.length_map, rangeKs_length] at h9
        refine hret _ _ _ _ F9 (keep0 N9 (news := news) (by intro p hp; kcf_m)) ⟨[], rfl, ?_⟩
        rw [behindR, if_neg hne, hlw]
        dsimp only
        rw [if_pos (.inr (by push_cast at h9; omega))]
        exact rfl
      · show LCg.CompSrc _ _ _ _ _ _ _ _ _ _ _ _ _ _
        rename IntsAre _ (_ ++ _) => hIm
        rename ¬(9 : Int) < _ => h9
        rename ¬_ < (-6 : Int) => h6
        rename IsRange _ _ 0 _ _ _ _ _ => hR2
        rw [map_rc rfl, map_rc rfl] at hIm
        simp only [List.length_map, rangeKs_length] at h9 hR2
        rename Fr _ _ _ _ => hF2
        rename News _ _ _ _ => hN2
        refine LCg.CompSrc.range (by rfl) hF2 hN2 hR2 (small_one (by omega) (by omega) (by omega) (by omega)) (rangeSize_nat _ _) (by rw [sizeLine_eq]; omega) ?_
        intro g
        refine comp_pairs (fun k => lw + k) (fun k => (xs ++ rs).getD k.toNat 0) ?_ ?_
        · intro k tk I oI C oC D m₂ zs nw h tk E' hk1 hk2 hC hx F₂ N₂ off ne hsub
          have hlen : (xs ++ rs).length = xs.length + rs.length := List.length_append
          have h1 := hsub _ (.head _)
          have h2 := hsub _ (.tail _ (.tail _ (.tail _ (.tail _ (.tail _ (.tail _ (.head _)))))))
          have h3 := hsub _ (.tail _ (.tail _ (.tail _ (.tail _ (.tail _ (.tail _ (.tail _ (.head _))))))))
          have h4 := hsub _ (.tail _ (.tail _ (.tail _ (.tail _ (.tail _ (.tail _ (.tail _ (.tail _ (.head _)))))))))
          have h5 := hsub _ (.tail _ (.tail _ (.tail _ (.tail _ (.tail _ (.tail _ (.tail _ (.tail _ (.tail _ (.head _))))))))))
          have l9 := news_lt3 N₂
          k_steps
        · intro zs tl hp D h tk F₂ N₂ o1
          have hp2 := hp.mono fun p hp => List.mem_cons_of_mem (D, LCg.lst zs) hp
          k_steps
          rename Fr h₀ L _ _ => F9
          rename News h₀ L _ _ => N9
          rename PyProof.V.FlatPairs PyData.int _ (kdfD (putAll _ _)) => hf9
          rw [pairs_of (lo := lw) (xs := xs ++ rs) (by rw [List.length_append]; omega) (fun i hi => rfl) (fun i hi => by simp only [Int.toNat_natCast]), putAll_nil] at hf9
          refine hret _ _ _ _ F9 (keep2 N9 (news := news) (by intro p hp; kcf_m)) ⟨[_, _], rfl, ?_⟩
          rw [behindR, if_neg hne, hlw]
          dsimp only
          rw [if_neg (by omega)]
          show RowIn w _ _ lw (xs ++ rs)
          exact RowIn.mk (.head _) (by simp only [List.length_map, rangeKs_length, List.length_append]) (.tail _ (.head _)) (by assumption) (by assumption) hf9

end
example : True := by
  k_with_none
  trivial
example : True := by
  (k_with "ALL" => exact ltNe' (by assumption) (by omega))
  (k_with "ALL" => exact ltNe (by assumption) (by omega))
  (k_with "ALL" => exact allLtNe (by assumption))
  trivial
example : True := by
  (k_with "call ref" => (k_here; (with_reducible show wpAny _ _ (call (Value.ref 191) [Value.ref _, Value.int _ _]) _ _ _); k_dflt (refine Does.on (by k_asm) (by k_asm) (by k_asm) (by k_asm) (by k_asm) (by rfl) (by ktr_room) (by ktr_units) (pull_does (by k_updF) (by assumption) (by k_mem) (by assumption) (by assumption) (by omega) (by omega)) ?_; k_whole); (rintro r'7 post'7 h'7 tk'7 F'7 N'7 ⟨i'7, t'7, o'7, e1'7, lo'7, hi'7, D'7, e2'7⟩); subst e1'7; subst e2'7; (try dsimp only at N'7); (try dsimp only); (try k_fold); walk_say "PULL"))
  (k_with "exec For Name Call cons nil" => (k_here; (rename Fr _ _ _ _ => lF'7); (with_unfolding_all refine' For_invVF lF'7 ?k1 ?k2 ?_; (case k1 => exact rfl); (case k2 => exact rfl); k_whole)))
  (k_with "pyIter ref" => (k_here; (with_reducible show wpAny _ _ (pyIter (Value.ref _)) (fun it s₂ => LoopAtV _ _ _ _ _ _ _ _ _ it s₂) _ _); refine stop_it ?_))
  trivial
example : True := by
  (k_with "setItem ref int" => (k_here; (with_reducible show wpAny _ _ (setItem (Value.ref _) (Value.int _ _) (Value.int _ _)) _ _ _); k_dflt (refine kdf_setItem (by k_asm) (by k_asm) (by k_updF) (by k_asm) (by k_asm) (by first | assumption | omega) ?_); intro h'7 o'7 kvs'7 F'7 N'7 hd'7 hf'7; (try dsimp only at N'7)))
  trivial
example : True := by
  (k_with "HAS" => first | assumption | (rw [rc_has]; exact decide_eq_true ⟨by first | assumption | omega, by first | exact has_lt (by assumption) (by assumption) | omega⟩))
  (k_with "getItem ref int" => (k_here; k_dflt (refine gi_dict (by k_tabat) (by walk_at "HAS") ?_); intro _))
  (k_with "subscriptTail" => (k_here; (with_reducible show wpAny _ _ (subscriptTail _ _ (Value.ref _) (Value.int _ _)) _ _ _); k_dflt (refine kdf_item (by k_tabat) (by walk_at "HAS") ?_); intro _))
  trivial
example : True := by
  (k_with "compareOp NotIn int ref" => (k_here; (with_reducible show wpAny _ _ (compareOp CmpOp.NotIn (Value.int _ _) (Value.ref _)) _ _ _); k_dflt (refine kdf_notin (by k_tabat) ?_)))
  (k_with "TurnPost" => dsimp only [TurnPost])
  (k_with "eval ListComp" => (k_here; (with_reducible show wpAny _ _ (eval (Expr.ListComp (Expr.Tuple _ _ _) _ _ _) _) _ _ _); k_dflt (refine LCg.ListComp_U (F₀ := by k_asm) (by with_unfolding_all rfl) (by decide) (by rfl) (by decide) (by rfl) ?_)))
  (k_with "CompSrc" => (k_here; (with_reducible show LCg.CompSrc _ _ _ _ _ _ _ (Expr.Tuple _ _ _) _ _ _ _ _ _); refine stop_it ?_))
  (k_with "CompEnd" => ((with_reducible show LCg.CompEnd _ _ _ _ _ _ _ _ _ _ _ (fun y n'7 => TupEl _ _ _ y n'7) _ _); refine tup_end (by k_asm) (by k_asm) (by assumption) (by assumption) (by first | rfl | omega) (by first | rfl | omega) (fun _ => trivial)))
  (k_with "call type:dict" => (k_here; (with_reducible show wpAny _ _ (call (Value.type "dict") [Value.ref _]) _ _ _); k_dflt (refine dict_pairs_K (by rfl) (by k_asm) (by k_asm) (TopRead.nolimit (by k_asm)) (by k_mem) (by assumption) (by simp only [List.length_map, rangeKs_length]; omega) ?_); intro D'7 h'7 o'7 kvs'7 tk'7 F'7 N'7 lo'7 hD'7 hf'7 lt'7))
  trivial
example : True := by
  (k_with "call builtin:sorted" => (k_here; (with_reducible show wpAny _ _ (call (Value.builtin "sorted") [Value.ref _]) _ _ _); k_dflt (refine sorted_rc (by rfl) (by k_asm) (by k_asm) (by k_tabat) (by omega) ?_); intro D'7 h'7 tk'7 vs'7 n'7 F'7 N'7 lt'7 i'7; (try simp only [AllLt, and_true] at lt'7)))
  (k_with "compareOp Eq ref" => (k_here; (with_reducible show wpAny _ _ (compareOp CmpOp.Eq (Value.ref _) (Value.ref _)) _ _ _); k_dflt (refine eq_empty (by k_tabat) (TabAt.ofNews (D := kdfD []) (by k_asm) (by k_mem) (by k_asm) (by k_asm) (by k_asm)) (by ktr_units) ?_)))
  (k_with "HAS" => (rw [rc_has]; exact decide_eq_true (range_mem (by assumption))))
  trivial
example : True := by
  (k_with "USE" => ((case B => k_asm); (case F => k_asm); (case X => k_asm); (case N => k_asm); (case T => k_asm); (case hk => rfl); (case hd => ktr_room); (case hu => ktr_units)))
  (k_with "call type:dict" => (k_here; (with_reducible show wpAny _ _ (call (Value.type "dict") [Value.ref _]) _ _ _); k_dflt (refine dict_copy_K (by k_asm) (by k_asm) (TopRead.nolimit (by k_asm)) (by k_tabat) (by rw [rc_length]; omega) ?_); intro D'7 h'7 o'7 kvs'7 F'7 N'7 lo'7 hD'7 hf'7 lt'7))
  (k_with "call builtin:dict.update" => (k_here; (first | (with_reducible show wpAny _ _ (call (Value.builtin "dict.update") [Value.ref _, Value.ref _]) _ _ _) | (k_dflt (show wpAny _ _ (call (Value.builtin "dict.update") [Value.ref _, Value.ref _]) _ _ _))); k_dflt (refine update_K (by k_asm) (by k_asm) (by k_updF) (by k_asm) (by k_asm) (by k_tabat) (not_of_lt (by assumption) (by k_mem)) (by rw [rc_length, rc_length]; omega) ?_); intro h'7 o'7 kvs'7 F'7 N'7 hD'7 hf'7; (try dsimp only at N'7)))
  trivial
section
/-- members put over members from a place on -/
def setAll (xs : List Int) (k : Nat) : List Int → List Int
  | [] => xs
  | z :: zs => setAll (xs.set k z) (k + 1) zs
theorem setAll_length (xs : List Int) (k : Nat) (zs : List Int) : (setAll xs k zs).length = xs.length := by
  induction zs generalizing xs k with
  | nil => rfl
  | cons z zs ih => rw [setAll, ih, List.length_set]
theorem rc_put_in : ∀ (lo : Int) (xs : List Int) (k v : Int), lo ≤ k → k < lo + xs.length → kdfPut (rc lo xs) k v = rc lo (xs.set (k - lo).toNat v)
  | lo, [], k, v, h1, h2 => by simp at h2; omega
  | lo, x :: xs, k, v, h1, h2 => by
    have hh : kdfHas (rc lo (x :: xs)) k = true := by rw [rc_has]; exact decide_eq_true ⟨h1, h2⟩
    unfold kdfPut
    simp only [kdfHas] at hh
    simp only [hh, if_true]
    apply List.ext_getElem?
    intro i
    rw [List.getElem?_map, rc_getElem?, rc_getElem?, List.getElem?_set]
    by_cases hi : i < (x :: xs).length
    · rw [List.getElem?_eq_getElem hi]
      by_cases e : (k - lo).toNat = i
      · rw [if_pos e, if_pos (by omega)]
        simp only [Option.map_some]
        rw [if_pos (by have : lo + (i : Int) = k := by omega
                       simpa using this)]
        try (congr 2 <;> omega)
      · rw [if_neg e]
        simp only [Option.map_some]
        rw [if_neg (by have : ¬ lo + (i : Int) = k := by omega
                       simpa using this)]
    · rw [List.getElem?_eq_none (by omega)]
      rw [if_neg (by omega)]
      try simp
theorem putAll_in (lo : Int) (zs : List Int) : ∀ (xs : List Int) (a : Int), lo ≤ a → a + zs.length ≤ lo + xs.length → putAll (rc lo xs) (rc a zs) = rc lo (setAll xs (a - lo).toNat zs) := by
  induction zs with
  | nil => intro xs a _ _; rfl
  | cons z zs ih =>
    intro xs a h1 h2
    simp only [List.length_cons] at h2
    have h := ih (xs.set (a - lo).toNat z) (a + 1) (by omega) (by rw [List.length_set]; push_cast at h2; omega)
    simp only [putAll, rc, List.foldl_cons, setAll] at h ⊢
    rw [rc_put_in lo xs a z h1 (by push_cast at h2; omega), h]
    congr 2; omega
/-- a slice of a row given to another slice of it -/
def givenR (lo : Int) (xs : List Int) (a b c e : Int) : Option (Int × List Int) :=
  match partR lo xs a b with
  | none => none
  | some _ => match partR lo xs c e with
    | none => none
    | some p => match movedR p.2 a b with
      | none => none
      | some q => some (lo, setAll xs (a - lo).toNat q.2)
example : True := by
  (k_with "call ref" => (k_here; (first | (with_reducible show wpAny _ _ (call (Value.ref 208) _) _ _ _) | (with_reducible show wpAny _ _ (call (Value.ref 213) _) _ _ _)); refine stop_it ?_))
  trivial
set_option maxRecDepth 100000 in
set_option maxHeartbeats 1000000 in
theorem given_does {w : World} {mean : ExcName → Option Value} {mg mb : Str → Option Value} {v : Value} {lo : Int} {xs : List Int} {a b c e : Int} {ta tb tc te : Tok} {news : Led}
   (R : RowIn w news v lo xs) (hl : xs.length ≤ 40) (hb : -1000 ≤ lo ∧ lo ≤ 1000) (hab : a - 1 ≤ b) (hba : b ≤ a + 40) (ha : -1000 ≤ a ∧ a ≤ 1000) (hce : c - 1 ≤ e) (hec : e ≤ c + 40) (hc : -1000 ≤ c ∧ c ≤ 1000) :
   Does 30 w mean mg mb 225 [v, .int a ta, .int b tb, .int c tc, .int e te] news (fun r post => ∃ tl, post = tl ++ news ∧ RowOr w post r (givenR lo xs a b c e)) := by
  refine RowIn.elim R ?_
  clear R
  intro r d od kvs hi t t' n hr hhi hd hlo hD hF R0
  unfold Does
  k_fill
  intro dp un gd cn cs' ac ccd cl outer A₀ base h₀ L m s Q E B F X N T hk hd' hu hret
  refine wpAny_call ?_
  obtain ⟨ck, cnm, cg, cco, cmo⟩ := cs'
  dsimp only at hk
  subst hk
  k_dflt k_enter
  k_steps
  show wpAny _ _ (call _ _) _ _ _
  k_dflt (refine' Does.use (part_does R0 hl hb hab hba ha) ?B ?F ?X ?N ?T ?hk ?hd ?hu ?_; walk_at "USE")
  rintro r1 post1 h1 tk1 F1 N1 ⟨tl1, rfl, hP1⟩
  cases hp1 : partR lo xs a b with
  | none =>
    rw [hp1] at hP1
    replace hP1 : r1 = .none := hP1
    subst hP1
    try dsimp only
    k_steps
    rename Fr h₀ L _ _ => F9
    rename News h₀ L _ _ => N9
    exact hret _ _ _ _ F9 N9 ⟨tl1, rfl, by rw [givenR, hp1]; rfl⟩
  | some p1 =>
    rw [hp1] at hP1
    replace hP1 : RowIn w (tl1 ++ news) r1 p1.1 p1.2 := hP1
    obtain ⟨q1, _, _, _, _, _, _, _, rfl, _⟩ := hP1
    have R1 := R0.mono fun p hp => List.mem_append_right tl1 hp
    try dsimp only
    k_steps
    show wpAny _ _ (call _ _) _ _ _
    k_dflt (refine' Does.use (part_does R1 hl hb hce hec hc) ?B ?F ?X ?N ?T ?hk ?hd ?hu ?_; walk_at "USE")
    rintro r2 post2 h2 tk2 F2 N2 ⟨tl2, rfl, hP2⟩
    cases hp2 : partR lo xs c e with
    | none =>
      rw [hp2] at hP2
      replace hP2 : r2 = .none := hP2
      subst hP2
      try dsimp only
      k_steps
      rename Fr h₀ L _ _ => F9
      rename News h₀ L _ _ => N9
      exact hret _ _ _ _ F9 (keep0 N9 (news := news) (by intro p hp; kcf_m)) ⟨[], rfl, by rw [givenR, hp1]; dsimp only; rw [hp2]; exact rfl⟩
    | some p2 =>
      rw [hp2] at hP2
      replace hP2 : RowIn w (tl2 ++ (tl1 ++ news)) r2 p2.1 p2.2 := hP2
      have R2 := hP2
      obtain ⟨q2, _, _, _, _, _, _, _, rfl, _⟩ := hP2
      have hl2 : p2.2.length ≤ 40 ∧ -1000 ≤ p2.1 ∧ p2.1 ≤ 1000 := by
        unfold partR at hp2
        split at hp2
        · cases hp2; simp; omega
        · split at hp2
          · cases hp2; simp only [List.length_take, List.length_drop]; omega
          · cases hp2
      try dsimp only
      k_steps
      show wpAny _ _ (call _ _) _ _ _
      k_dflt (refine' Does.use (moved_does R2 hl2.1 hl2.2 hab (by omega) ha) ?B ?F ?X ?N ?T ?hk ?hd ?hu ?_; walk_at "USE")
      rintro r3 post3 h3 tk3 F3 N3 ⟨tl3, rfl, hP3⟩
      cases hp3 : movedR p2.2 a b with
      | none =>
        rw [hp3] at hP3
        replace hP3 : r3 = .none := hP3
        subst hP3
        try dsimp only
        k_steps
        rename Fr h₀ L _ _ => F9
        rename News h₀ L _ _ => N9
        exact hret _ _ _ _ F9 (keep0 N9 (news := news) (by intro p hp; kcf_m)) ⟨[], rfl, by rw [givenR, hp1]; dsimp only; rw [hp2]; dsimp only; rw [hp3]; exact rfl⟩
      | some p3 =>
        rw [hp3] at hP3
        replace hP3 : RowIn w (tl3 ++ (tl2 ++ (tl1 ++ news))) r3 p3.1 p3.2 := hP3
        have e3 : p3 = (a, p2.2) := by
          unfold movedR at hp3
          split at hp3
          · exact (Option.some.inj hp3).symm
          · cases hp3
        subst e3
        replace hP3 : RowIn w (tl3 ++ (tl2 ++ (tl1 ++ news))) r3 a p2.2 := hP3
        have hl3 := hl2.1
        obtain ⟨q3, d3, od3, kvs3, hi3, t3, t3', n3, rfl, hr3, hhi3, hd3, hlo3, hD3, hF3⟩ := hP3
        try dsimp only
        k_steps
        rename Fr h₀ L _ _ => F9
        rename News h₀ L _ _ => N9
        rename PyProof.V.FlatPairs PyData.int _ (kdfD (putAll _ _)) => hf9
        have hput : putAll (rc lo xs) (rc a p2.2) = rc lo (setAll xs (a - lo).toNat p2.2) := by
          by_cases hz : p2.2 = []
          · rw [hz]; rfl
          · have hpos : 0 < p2.2.length := List.length_pos_iff.mpr hz
            have hlen : (p2.2.length : Int) = b - a + 1 := by
              unfold movedR at hp3
              split at hp3
              · assumption
              · cases hp3
            have hin : lo ≤ a ∧ b < lo + xs.length := by
              unfold partR at hp1
              split at hp1
              · omega
              · split at hp1
                · assumption
                · cases hp1
            exact putAll_in lo _ xs a hin.1 (by omega)
        rw [hput] at hf9
        refine hret _ _ _ _ F9 (keep2 N9 (news := news) (by intro p hp; kcf_m)) ⟨[_, _], rfl, ?_⟩
        rw [givenR, hp1]; dsimp only; rw [hp2]; dsimp only; rw [hp3]
        show RowIn w _ _ lo (setAll xs (a - lo).toNat p2.2)
        exact RowIn.mk (.head _) (by rw [setAll_length]; omega) (.tail _ (.head _)) (by assumption) (by assumption) hf9

end
example : True := by
  k_with_none
  trivial
example : True := by
  (k_with "ALL" => exact ltNe' (by assumption) (by omega))
  (k_with "ALL" => exact ltNe (by assumption) (by omega))
  (k_with "ALL" => exact allLtNe (by assumption))
  trivial
example : True := by
  (k_with "call ref" => (k_here; (with_reducible show wpAny _ _ (call (Value.ref 191) [Value.ref _, Value.int _ _]) _ _ _); k_dflt (refine Does.on (by k_asm) (by k_asm) (by k_asm) (by k_asm) (by k_asm) (by rfl) (by ktr_room) (by ktr_units) (pull_does (by k_updF) (by assumption) (by k_mem) (by assumption) (by assumption) (by omega) (by omega)) ?_; k_whole); (rintro r'7 post'7 h'7 tk'7 F'7 N'7 ⟨i'7, t'7, o'7, e1'7, lo'7, hi'7, D'7, e2'7⟩); subst e1'7; subst e2'7; (try dsimp only at N'7); (try dsimp only); (try k_fold); walk_say "PULL"))
  (k_with "exec For Name Call cons nil" => (k_here; (rename Fr _ _ _ _ => lF'7); (with_unfolding_all refine' For_invVF lF'7 ?k1 ?k2 ?_; (case k1 => exact rfl); (case k2 => exact rfl); k_whole)))
  (k_with "pyIter ref" => (k_here; (with_reducible show wpAny _ _ (pyIter (Value.ref _)) (fun it s₂ => LoopAtV _ _ _ _ _ _ _ _ _ it s₂) _ _); refine stop_it ?_))
  trivial
example : True := by
  (k_with "setItem ref int" => (k_here; (with_reducible show wpAny _ _ (setItem (Value.ref _) (Value.int _ _) (Value.int _ _)) _ _ _); k_dflt (refine kdf_setItem (by k_asm) (by k_asm) (by k_updF) (by k_asm) (by k_asm) (by first | assumption | omega) ?_); intro h'7 o'7 kvs'7 F'7 N'7 hd'7 hf'7; (try dsimp only at N'7)))
  trivial
example : True := by
  (k_with "HAS" => first | assumption | (rw [rc_has]; exact decide_eq_true ⟨by first | assumption | omega, by first | exact has_lt (by assumption) (by assumption) | omega⟩))
  (k_with "getItem ref int" => (k_here; k_dflt (refine gi_dict (by k_tabat) (by walk_at "HAS") ?_); intro _))
  (k_with "subscriptTail" => (k_here; (with_reducible show wpAny _ _ (subscriptTail _ _ (Value.ref _) (Value.int _ _)) _ _ _); k_dflt (refine kdf_item (by k_tabat) (by walk_at "HAS") ?_); intro _))
  trivial
example : True := by
  (k_with "compareOp NotIn int ref" => (k_here; (with_reducible show wpAny _ _ (compareOp CmpOp.NotIn (Value.int _ _) (Value.ref _)) _ _ _); k_dflt (refine kdf_notin (by k_tabat) ?_)))
  (k_with "TurnPost" => dsimp only [TurnPost])
  (k_with "eval ListComp" => (k_here; (with_reducible show wpAny _ _ (eval (Expr.ListComp (Expr.Tuple _ _ _) _ _ _) _) _ _ _); k_dflt (refine LCg.ListComp_U (F₀ := by k_asm) (by with_unfolding_all rfl) (by decide) (by rfl) (by decide) (by rfl) ?_)))
  (k_with "CompSrc" => (k_here; (with_reducible show LCg.CompSrc _ _ _ _ _ _ _ (Expr.Tuple _ _ _) _ _ _ _ _ _); refine stop_it ?_))
  (k_with "CompEnd" => ((with_reducible show LCg.CompEnd _ _ _ _ _ _ _ _ _ _ _ (fun y n'7 => TupEl _ _ _ y n'7) _ _); refine tup_end (by k_asm) (by k_asm) (by assumption) (by assumption) (by first | rfl | omega) (by first | rfl | omega) (fun _ => trivial)))
  (k_with "call type:dict" => (k_here; (with_reducible show wpAny _ _ (call (Value.type "dict") [Value.ref _]) _ _ _); k_dflt (refine dict_pairs_K (by rfl) (by k_asm) (by k_asm) (TopRead.nolimit (by k_asm)) (by k_mem) (by assumption) (by simp only [List.length_map, rangeKs_length]; omega) ?_); intro D'7 h'7 o'7 kvs'7 tk'7 F'7 N'7 lo'7 hD'7 hf'7 lt'7))
  trivial
example : True := by
  (k_with "call builtin:sorted" => (k_here; (with_reducible show wpAny _ _ (call (Value.builtin "sorted") [Value.ref _]) _ _ _); k_dflt (refine sorted_rc (by rfl) (by k_asm) (by k_asm) (by k_tabat) (by omega) ?_); intro D'7 h'7 tk'7 vs'7 n'7 F'7 N'7 lt'7 i'7; (try simp only [AllLt, and_true] at lt'7)))
  (k_with "compareOp Eq ref" => (k_here; (with_reducible show wpAny _ _ (compareOp CmpOp.Eq (Value.ref _) (Value.ref _)) _ _ _); k_dflt (refine eq_empty (by k_tabat) (TabAt.ofNews (D := kdfD []) (by k_asm) (by k_mem) (by k_asm) (by k_asm) (by k_asm)) (by ktr_units) ?_)))
  (k_with "HAS" => (rw [rc_has]; exact decide_eq_true (range_mem (by assumption))))
  trivial
example : True := by
  (k_with "USE" => ((case B => k_asm); (case F => k_asm); (case X => k_asm); (case N => k_asm); (case T => k_asm); (case hk => rfl); (case hd => ktr_room); (case hu => ktr_units)))
  (k_with "call type:dict" => (k_here; (with_reducible show wpAny _ _ (call (Value.type "dict") [Value.ref _]) _ _ _); k_dflt (refine dict_copy_K (by k_asm) (by k_asm) (TopRead.nolimit (by k_asm)) (by k_tabat) (by rw [rc_length]; omega) ?_); intro D'7 h'7 o'7 kvs'7 F'7 N'7 lo'7 hD'7 hf'7 lt'7))
  (k_with "call builtin:dict.update" => (k_here; (first | (with_reducible show wpAny _ _ (call (Value.builtin "dict.update") [Value.ref _, Value.ref _]) _ _ _) | (k_dflt (show wpAny _ _ (call (Value.builtin "dict.update") [Value.ref _, Value.ref _]) _ _ _))); k_dflt (refine update_K (by k_asm) (by k_asm) (by k_updF) (by k_asm) (by k_asm) (by k_tabat) (not_of_lt (by assumption) (by k_mem)) (by rw [rc_length, rc_length]; omega) ?_); intro h'7 o'7 kvs'7 F'7 N'7 hD'7 hf'7; (try dsimp only at N'7)))
  trivial
example : True := by
  (k_with "UP" => first | assumption | exact RowIn.mono (by assumption) (by intro p hp; kcf_m))
  (k_with "call ref" => (k_here; (with_reducible show wpAny _ _ (call (Value.ref 208) [Value.ref _, Value.int _ _, Value.int _ _]) _ _ _); k_dflt (refine Does.on (by k_asm) (by k_asm) (by k_asm) (by k_asm) (by k_asm) (by rfl) (by ktr_room) (by ktr_units) (part_does (by walk_at "UP") (by omega) (by omega) (by omega) (by omega) (by omega)) ?_; k_whole); (rintro r'7 post'7 h'7 tk'7 F'7 N'7 ⟨tl'7, e'7, hR'7⟩; subst e'7); (try dsimp only); (try k_fold); walk_say "PART"))
  (k_with "call ref" => (k_here; (with_reducible show wpAny _ _ (call (Value.ref 213) [Value.ref _, Value.int _ _, Value.int _ _]) _ _ _); k_dflt (refine Does.on (by k_asm) (by k_asm) (by k_asm) (by k_asm) (by k_asm) (by rfl) (by ktr_room) (by ktr_units) (moved_does (by walk_at "UP") (by omega) (by omega) (by omega) (by omega) (by omega)) ?_; k_whole); (rintro r'7 post'7 h'7 tk'7 F'7 N'7 ⟨tl'7, e'7, hR'7⟩; subst e'7); (try dsimp only); (try k_fold); walk_say "MOVED"))
  (k_with "call ref" => (k_here; (with_reducible show wpAny _ _ (call (Value.ref 225) _) _ _ _); k_dflt (refine Does.on (by k_asm) (by k_asm) (by k_asm) (by k_asm) (by k_asm) (by rfl) (by ktr_room) (by ktr_units) (given_does (by walk_at "UP") (by omega) (by omega) (by omega) (by omega) (by omega) (by omega) (by omega) (by omega)) ?_; k_whole); (rintro r'7 post'7 h'7 tk'7 F'7 N'7 ⟨tl'7, e'7, hR'7⟩; subst e'7); (try dsimp only); (try k_fold); walk_say "GIVEN"))
  (k_with "call ref" => (k_here; (with_reducible show wpAny _ _ (call (Value.ref 218) _) _ _ _); refine stop_it ?_))
  (k_with "subscriptTail" => (k_here; (with_reducible show wpAny _ _ (subscriptTail _ (Expr.Constant _ _ _) (Value.ref _) (Value.int _ _)) _ _ _); k_dflt (refine item_M (by k_asm) (by k_mem) (by decide) (by decide) (by rfl) ?_)))
  (k_with "eval Dict cons cons" => (k_here; k_dflt (refine kdn_eval (knd := PySem.intKind _ _) (by k_asm) (by k_asm) (TopRead.nolimit (by k_asm)) (by rfl) (by rfl) (by intro e; cases e) (by decide) ?_); intro d'7 h'7 o'7 F'7 N'7 l1 lo'7 hd'7; (try k_lt l1)))
  trivial
section
/-- what a deed is due -/
inductive Res where
  | none
  | int (i : Int)
  | row (p : Int × List Int)
def Res.ofOr : Option (Int × List Int) → Res
  | .none => .none
  | .some p => .row p
def ResIs (w : World) (led : Led) (v : Value) : Res → Prop
  | .none => v = .none
  | .int i => ∃ t, v = .int i t
  | .row p => RowIn w led v p.1 p.2
theorem ResIs.ofOr {w : World} {led : Led} {v : Value} {o : Option (Int × List Int)} (h : RowOr w led v o) : ResIs w led v (Res.ofOr o) := by
  cases o <;> exact h
def getR (lo : Int) (xs : List Int) (a : Int) : Res := if lo ≤ a ∧ a < lo + xs.length then .int (xs.getD (a - lo).toNat 0) else .none
def dueR (way lo : Int) (xs : List Int) (lo2 : Int) (ys : List Int) (a b c e f : Int) : Res :=
  if way = 0 then .ofOr (partR lo xs a b)
  else if way = 1 then .ofOr (movedR xs a (a + xs.length - 1 + f))
  else if way = 2 then .ofOr (behindR lo xs lo2 ys (f == 1))
  else if way = 3 then .ofOr (behindR lo xs (-6) [77] (f == 1))
  else if way = 4 then .ofOr (behindR (-6) [78] lo xs (f == 1))
  else if way = 5 then .ofOr (givenR lo xs a b c e)
  else getR lo xs a
set_option maxRecDepth 100000 in
set_option maxHeartbeats 1000000 in
theorem due_does {w : World} {mean : ExcName → Option Value} {mg mb : Str → Option Value} {v v2 : Value} {way lo lo2 : Int} {xs rs : List Int} {a b c e f : Int} {tw ta tb tc te tf : Tok} {el : Addr} {ne : Nat} {news : Led}
   (R : RowIn w news v lo xs) (R2 : RowIn w news v2 lo2 rs) (hE : (el, listOf #[.int a ta, .int b tb, .int c tc, .int e te, .int f tf] ne) ∈ news)
   (hw : 0 ≤ way ∧ way ≤ 6) (hl : xs.length ≤ 20) (hb : -500 ≤ lo ∧ lo ≤ 500) (hl2 : rs.length ≤ 20) (hb2 : -500 ≤ lo2 ∧ lo2 ≤ 500) (hab : a - 1 ≤ b) (hba : b ≤ a + 20) (ha : -900 ≤ a ∧ a ≤ 900) (hce : c - 1 ≤ e) (hec : e ≤ c + 20) (hc : -900 ≤ c ∧ c ≤ 900) (hf : 0 ≤ f ∧ f ≤ 1) :
   Does 40 w mean mg mb 239 [.int way tw, v, v2, .ref el] news (fun r post => ∃ tl, post = tl ++ news ∧ ResIs w post r (dueR way lo xs lo2 rs a b c e f)) := by
  have R20 := R2
  refine RowIn.elim R ?_
  clear R
  intro r d od kvs hi t t' n hr hhi hd hlo hD hF R0
  obtain ⟨r2, d2, od2, kvs2, hi2, t2, t2', n2, rfl, hr2, hhi2, hd2, hlo2, hD2, hF2⟩ := R2
  unfold Does
  k_fill
  intro dp un gd cn cs' ac ccd cl outer A₀ base h₀ L m s Q E B F X N T hk hd' hu hret
  refine wpAny_call ?_
  obtain ⟨ck, cnm, cg, cco, cmo⟩ := cs'
  dsimp only at hk
  subst hk
  k_dflt k_enter
  k_steps
  · rename Fr h₀ L _ _ => F9
    rename News h₀ L _ _ => N9
    have ew : way = 0 := by omega
    refine hret _ _ _ _ F9 N9 ⟨_, rfl, ?_⟩
    rw [dueR, if_pos ew]
    exact ResIs.ofOr (by assumption)
  · rename Fr h₀ L _ _ => F9
    rename News h₀ L _ _ => N9
    rename RowOr _ _ _ _ => hR9
    have ew : way = 1 := by omega
    have eb : a + hi - lo + f = a + xs.length - 1 + f := by omega
    rw [eb] at hR9
    refine hret _ _ _ _ F9 N9 ⟨_, rfl, ?_⟩
    rw [dueR, if_neg (by omega), if_pos ew]
    exact ResIs.ofOr hR9
  · show wpAny _ _ (call _ _) _ _ _
    k_dflt (refine' Does.use (behind_does R0 R20 (by omega) (by omega) (by omega) (by omega)) ?B ?F ?X ?N ?T ?hk ?hd ?hu ?_; walk_at "USE")
    rintro r1 post1 h1 tk1 F1 N1 ⟨tl1, rfl, hP⟩
    try dsimp only
    have ew : way = 2 := by omega
    k_steps
    rename Fr h₀ L _ _ => F9
    rename News h₀ L _ _ => N9
    refine hret _ _ _ _ F9 N9 ⟨_, rfl, ?_⟩
    rw [dueR, if_neg (by omega), if_neg (by omega), if_pos ew]
    exact ResIs.ofOr hP
  · show wpAny _ _ (call _ _) _ _ _
    have ew : way = 3 := by omega
    k_dflt (refine' Does.use (behind_does (lo2 := -6) (rs := [77]) ?R ?R2 ?a1 ?a2 ?a3 ?a4) ?B ?F ?X ?N ?T ?hk ?hd ?hu ?_; walk_at "USE"; (case R => exact R0.mono (by intro p hp; kcf_m)); (case R2 => exact RowIn.mk (.head _) (by simp) (.tail _ (.head _)) (by assumption) (by assumption) (by assumption)); (case a1 => omega); (case a2 => omega); (case a3 => simp); (case a4 => omega))
    rintro r1 post1 h1 tk1 F1 N1 ⟨tl1, rfl, hP⟩
    try dsimp only
    k_steps
    rename Fr h₀ L _ _ => F9
    rename News h₀ L _ _ => N9
    refine hret _ (_ ++ [_, _] ++ news) _ _ F9 (by rw [List.append_assoc]; exact N9) ⟨_, rfl, ?_⟩
    rw [dueR, if_neg (by omega), if_neg (by omega), if_neg (by omega), if_pos ew]
    exact ResIs.ofOr (by rw [List.append_assoc]; exact hP)
  · show wpAny _ _ (call _ _) _ _ _
    have ew : way = 4 := by omega
    k_dflt (refine' Does.use (behind_does (lo := -6) (xs := [78]) ?R ?R2 ?a1 ?a2 ?a3 ?a4) ?B ?F ?X ?N ?T ?hk ?hd ?hu ?_; walk_at "USE"; (case R2 => exact R0.mono (by intro p hp; kcf_m)); (case R => exact RowIn.mk (.head _) (by simp) (.tail _ (.head _)) (by assumption) (by assumption) (by assumption)); (case a1 => simp); (case a2 => omega); (case a3 => omega); (case a4 => omega))
    rintro r1 post1 h1 tk1 F1 N1 ⟨tl1, rfl, hP⟩
    try dsimp only
    k_steps
    rename Fr h₀ L _ _ => F9
    rename News h₀ L _ _ => N9
    refine hret _ (_ ++ [_, _] ++ news) _ _ F9 (by rw [List.append_assoc]; exact N9) ⟨_, rfl, ?_⟩
    rw [dueR, if_neg (by omega), if_neg (by omega), if_neg (by omega), if_neg (by omega), if_pos ew]
    exact ResIs.ofOr (by rw [List.append_assoc]; exact hP)
  · rename Fr h₀ L _ _ => F9
    rename News h₀ L _ _ => N9
    have ew : way = 5 := by omega
    refine hret _ _ _ _ F9 N9 ⟨_, rfl, ?_⟩
    rw [dueR, if_neg (by omega), if_neg (by omega), if_neg (by omega), if_neg (by omega), if_neg (by omega), if_pos ew]
    exact ResIs.ofOr (by assumption)
  · rename Fr h₀ L _ _ => F9
    rename News h₀ L _ _ => N9
    rename PyProof.V.Flat _ _ => hv
    refine hret _ _ _ _ F9 N9 ⟨[], rfl, ?_⟩
    rw [dueR, if_neg (by omega), if_neg (by omega), if_neg (by omega), if_neg (by omega), if_neg (by omega), if_neg (by omega), getR]
    by_cases hin : lo ≤ a ∧ a < lo + xs.length
    · rw [if_pos hin]
      rw [kdfD_item (by rw [rc_has]; exact decide_eq_true hin), rc_look lo xs a hin.1 hin.2] at hv
      exact PyProof.V.Flat.int_inv hv
    · rw [if_neg hin]
      rw [kdfD_none (by rw [rc_has]; exact decide_eq_false hin)] at hv
      exact PyProof.V.Flat.none_inv hv

end
section
/-- the exception's own dict -/
def WordIs (w : World) (od : Obj) : Prop :=
  ∃ k1 k2 k3 k4 v1 v2 v4 tw n, od = dictOf [⟨PyData.keyHash w.params (Str.ofString "text"), .str (Str.ofString "text") k1, v1⟩, ⟨PyData.keyHash w.params (Str.ofString "name"), .str (Str.ofString "name") k2, v2⟩,
    ⟨PyData.keyHash w.params (Str.ofString "word"), .str (Str.ofString "word") k3, .str (Str.ofString "constraint_error") tw⟩, ⟨PyData.keyHash w.params (Str.ofString "line"), .str (Str.ofString "line") k4, v4⟩] n
/-- an AdaRaise that flies on through the frames l -/
def Flies (w : World) (base G : Heap) (l : List Env) (e : Addr) (news : Led) (h : Heap) : Prop :=
  ∃ t vs dd od, RaisedS base G l e (.ref 51) t vs ((dd, od) :: news) h ∧ (∃ oe, h.get? e = some oe ∧ oe.dict = some dd) ∧ WordIs w od
/-- what a call of a def does that may raise -/
def DoesE (k : Nat) (w : World) (mean : ExcName → Option Value) (mg mb : Str → Option Value) (f : Addr) (vs : List Value) (pre : Led) (ret : Value → Led → Prop) (exc : Prop) : Prop :=
  ∀ (dp un : Nat) (gd : Option (List Code)) (cn : Str) (cs : Scope) (a : Addr) (ccd : Value) (cl : List (Str × Addr)) (outer : List Env) (A₀ : Around) (base h₀ : Heap) (L : Addr) (m : Str → Option Value) (s : Shared)
    (Q E : Value → Shared → Prop),
    Below A₀ base outer h₀ → Fr h₀ L s.heap m → (heapK w.params).In h₀ → News h₀ L s.heap pre → Top viewV (looseW viewV []) mean mg mb h₀ → cs.kind = .function → dp + k < recursionLimit → un + 8 * k < cLine →
    (∀ r post h' tk', Fr h₀ L h' m → News h₀ L h' post → ret r post → Q r { s with heap := h', toks := tk' }) →
    (∀ g e h' tk', exc → Fr h₀ L g m → g.UpToSlots h' → Flies w base g (envX cn cs L a ccd cl :: outer) e pre h' → E (.ref e) { s with heap := h', toks := tk' }) →
    wpAny (model Challenge.rw_pb0006_01.row.prog w) (ktrTop dp un gd cn cs L a ccd cl outer) (call (.ref f) vs) Q E s
section
variable {k : Nat} {w : World} {mean : ExcName → Option Value} {mg mb : Str → Option Value} {f : Addr} {vs : List Value} {pre : Led} {ret : Value → Led → Prop} {exc : Prop} {dp un : Nat} {gd : Option (List Code)} {cn : Str} {cs : Scope} {a : Addr} {ccd : Value} {cl : List (Str × Addr)} {outer : List Env} {A₀ : Around} {base h₀ : Heap} {L : Addr} {m : Str → Option Value} {s : Shared}
    {Q E : Value → Shared → Prop}
theorem DoesE.use (D : DoesE k w mean mg mb f vs pre ret exc) (B : Below A₀ base outer h₀) (F : Fr h₀ L s.heap m) (X : (heapK w.params).In h₀) (N : News h₀ L s.heap pre) (T : Top viewV (looseW viewV []) mean mg mb h₀) (hk : cs.kind = .function) (hd : dp + k < recursionLimit) (hu : un + 8 * k < cLine)
    (hret : ∀ r post h' tk', Fr h₀ L h' m → News h₀ L h' post → ret r post → Q r { s with heap := h', toks := tk' })
    (hexc : ∀ g e h' tk', exc → Fr h₀ L g m → g.UpToSlots h' → Flies w base g (envX cn cs L a ccd cl :: outer) e pre h' → E (.ref e) { s with heap := h', toks := tk' }) :
    wpAny (model Challenge.rw_pb0006_01.row.prog w) (ktrTop dp un gd cn cs L a ccd cl outer) (call (.ref f) vs) Q E s := D _ _ _ _ _ _ _ _ _ _ _ _ _ _ _ _ _ B F X N T hk hd hu hret hexc
theorem DoesE.on (B : Below A₀ base outer h₀) (F : Fr h₀ L s.heap m) (X : (heapK w.params).In h₀) (N : News h₀ L s.heap pre) (T : Top viewV (looseW viewV []) mean mg mb h₀) (hk : cs.kind = .function) (hd : dp + k < recursionLimit) (hu : un + 8 * k < cLine)
    (D : DoesE k w mean mg mb f vs pre ret exc) (hret : ∀ r post h' tk', Fr h₀ L h' m → News h₀ L h' post → ret r post → Q r { s with heap := h', toks := tk' })
    (hexc : ∀ g e h' tk', exc → Fr h₀ L g m → g.UpToSlots h' → Flies w base g (envX cn cs L a ccd cl :: outer) e pre h' → E (.ref e) { s with heap := h', toks := tk' }) :
    wpAny (model Challenge.rw_pb0006_01.row.prog w) (ktrTop dp un gd cn cs L a ccd cl outer) (call (.ref f) vs) Q E s := D _ _ _ _ _ _ _ _ _ _ _ _ _ _ _ _ _ B F X N T hk hd hu hret hexc
end

end
section
section
variable {prog : Program} {w : World} {A : Around} {R : Result → Shared → Prop} {E : Value → Shared → Prop} {h : Heap} {g : Array GenState} {d : Drawn} {t : Nat} {os : OsState}
variable {nm q : Str} {C N : Addr} {bs bm : List Value} {hdct : Bool} {sn : List Str} {sub : List Value} {ab : Bool} {col : Option Bool} {dd : Option Addr} {k0 k1 k2 k3 k5 : Option Value}
abbrev exN : String := "Exception.__new__"
theorem exc_new {rest : List Value} (hC : h.get? C = some (excClassObj nm q C N bs bm hdct sn sub ab col dd k0 k1 k2 k3 k5 "Exception.__new__"))
    (hcB : (Value.ref C :: bm).contains (.type "Exception") = true) (hcA : (Value.ref C :: bm).contains (.type "AttributeError") = false) (hcN : (Value.ref C :: bm).contains (.type "NameError") = false)
    (hq : R (.ok (.ret (.ref (h.objs.size + 1)))) ⟨(h.push { cls := .type "tuple", data := .seq rest.toArray }).push
      { cls := .ref C, data := .fields #[.ref h.objs.size, .none, .none, .none, .bool false, .none] }, g, d, t, os⟩) (hrest : rest.length ≤ sizeLine := by size_fits) :
    codeAny (model prog w) A (.builtin "Exception.__new__" ⟨.ref C :: rest, []⟩) R ⟨h, g, d, t, os⟩ := by
  have Fn := PySem.F.excBase_Exception
  have hends := Fn.ends
  refine codeAny_builtinAt Fn.entry ?_
  unfold Builtin.«BaseException.__new__»
  refine _root_.PySem.wpAt_bind ?_
  show _root_.PySem.wpAt _ _ _ (stack >>= _) _ _ _
  refine _root_.PySem.wpAt_bind (_root_.PySem.wpAt_stack fun p below => _root_.PySem.wpAt_of_wpAny ?_)
  wp_walk
  refine _root_.PySem.wpAt_of_wpAny ?_
  rw [Fn.owner]
  repeat (first | with_reducible refine wpAny_madeHere_exc Fn.canon hC ?_ | with_reducible refine wpAny_loadPart_at hC ?_ | (with_reducible refine wpAny_isSubtype_exc hC ?_; first | rw [hcB] | rw [hcA] | rw [hcN]) | wp_step)
  show R _ _
  rw [Heap.size_push]
  exact hq
theorem exc_type_call {rest : List Value} {fI : Addr} {oI : Obj} {Q : Fin → Shared → Prop}
    (hC : h.get? C = some (excClassObj nm q C N bs bm hdct sn sub ab col dd k0 k1 k2 k3 k5 "Exception.__new__"))
    (hcB : (Value.ref C :: bm).contains (.type "Exception") = true) (hcA : (Value.ref C :: bm).contains (.type "AttributeError") = false) (hcN : (Value.ref C :: bm).contains (.type "NameError") = false)
    (hbm : bm.contains (.type "Exception") = true)
    (hL : Looks (model prog w) h (typeLookup (.ref C) "__init__") (some (.ref fI))) (hfI : h.get? fI = some oI) (hfc : oI.cls = .type "function")
    (hq : ∀ h' e, Heap.MadeExcOf h h' e (.ref C) rest →
      wpAny (model prog w) A (call (.ref fI) (.ref e :: rest)) (fun r s' => r = .none ∧ Q (.done (.ret (.ref e))) s') E ⟨h', g, d, t, os⟩) (hrest : rest.length ≤ sizeLine := by size_fits) :
    wpAny (model prog w) A (Builtin.«type.__call__» ⟨.ref C :: rest, []⟩) Q E ⟨h, g, d, t, os⟩ := by
  have Fn := PySem.F.excBase_Exception
  repeat (first | with_reducible refine wpAny_loadPart_at hC ?_ | with_reducible refine wpAny_madeBy_exc hC ?_ | wp_step)
  refine codeAny_call_builtin_code (Code.quiet_builtin _ Fn.quiet) (wpAny_check_new_subU Fn hbm .base hC ?_)
  refine exc_new hC hcB hcA hcN ?_ hrest
  show wpAny _ _ _ _ _ _
  have hk : ∀ b o, h.get? b = some o → ((h.push { cls := .type "tuple", data := .seq rest.toArray }).push { cls := .ref C, data := .fields #[.ref h.objs.size, .none, .none, .none, .bool false, .none] }).get? b = some o :=
    fun b o e => Heap.get?_push_of_some _ (Heap.get?_push_of_some _ e)
  have hC₁ := hk _ _ hC
  have hfI₁ := hk _ _ hfI
  have hget : ((h.push { cls := .type "tuple", data := .seq rest.toArray }).push
      { cls := .ref C, data := .fields #[.ref h.objs.size, .none, .none, .none, .bool false, .none] }).get? (h.objs.size + 1) = some
      { cls := .ref C, data := .fields #[.ref h.objs.size, .none, .none, .none, .bool false, .none] } := by heap_get
  have hcC : (Value.ref C :: bm).contains (.ref C) = true := by simp
  unfold isInstance
  repeat (first | with_reducible refine wpAny_loadPart_at hget ?_ | (with_reducible refine wpAny_isSubtype_exc hC₁ ?_; rw [hcC]) | wp_step)
  show wpAny _ _ (typeLookup (.ref C) _) _ _ _
  refine (hL.keeps hk).here ?_
  refine wpAny_holding (wpAny_bind ?_)
  unfold bindSpecial
  refine wpAny_bind (wpAny_typeOf (T := "function") ⟨_, hfI₁, hfc⟩ ?_)
  rw [if_pos (by decide)]
  refine wpAny_pure (wpAny_bind (wpAny_mono (hq _ (h.objs.size + 1) ⟨hk, Heap.get?_none_of_le (Nat.le_succ _), h.objs.size, hget, Heap.get?_none_of_le (Nat.le_refl _), ?_⟩) (fun r s' hr => ?_) fun _ _ x => x))
  · exact Heap.get?_push_of_some _ (Heap.get?_push_at rfl rfl)
  · obtain ⟨rfl, hQ⟩ := hr
    wp_walk
    exact hQ
theorem exc_call {rest : List Value} {fI : Addr} {oI : Obj} {Q : Value → Shared → Prop}
    (hC : h.get? C = some (excClassObj nm q C N bs bm hdct sn sub ab col dd k0 k1 k2 k3 k5 "Exception.__new__"))
    (hcB : (Value.ref C :: bm).contains (.type "Exception") = true) (hcA : (Value.ref C :: bm).contains (.type "AttributeError") = false) (hcN : (Value.ref C :: bm).contains (.type "NameError") = false)
    (hbm : bm.contains (.type "Exception") = true)
    (hL : Looks (model prog w) h (typeLookup (.ref C) "__init__") (some (.ref fI))) (hfI : h.get? fI = some oI) (hfc : oI.cls = .type "function")
    (hq : ∀ h' e, Heap.MadeExcOf h h' e (.ref C) rest →
      wpAny (model prog w) (A.under (.builtin "type.__call__" ⟨.ref C :: rest, []⟩)) (call (.ref fI) (.ref e :: rest)) (fun r s' => r = .none ∧ Q (.ref e) s') E ⟨h', g, d, t, os⟩) (hrest : rest.length ≤ sizeLine := by size_fits) :
    wpAny (model prog w) A (call (.ref C) rest) Q E ⟨h, g, d, t, os⟩ := by
  have f1 := tc_lookup
  have f2 := tc_bind (.ref C)
  have hT : (⟨h, g, d, t, os⟩ : Shared).TypeIs (.ref C) "type" := ⟨_, hC, rfl⟩
  refine wpAny_call (codeAny_of_tree ?_)
  show wpAny _ _ (callAny (.ref C) _) _ _ _
  repeat (any_goals (first | assumption | with_reducible refine wpAny_loadPart_at hC ?_ | wp_step))
  refine ⟨rfl, ?_⟩
  refine codeAny_call_builtin_at (Code.quiet_builtin _ (by decide +kernel)) entry_typeCall (wpAny_check_type_call_sub hC (exc_type_call (hrest := hrest) hC hcB hcA hcN hbm hL hfI hfc fun h' e hm => ?_))
  exact hq h' e hm
end

section
variable {M : Model} {A : Around} {E : Value → Shared → Prop} {s : Shared} {env : Env}
variable {nm q : Str} {C N : Addr} {bs bm : List Value} {hdct : Bool} {sn : List Str} {sub : List Value} {ab : Bool} {col : Option Bool} {dd : Option Addr} {k0 k1 k2 k3 k5 : Option Value} {newId : String}
/-- an AdaRaise object that may be raised -/
def RaisableD (C : Addr) (oC : Obj) (E : Value → Shared → Prop) (v : Value) (s₁ : Shared) : Prop :=
  ∃ e t od, v = .ref e ∧ s₁.heap.get? C = some oC ∧ s₁.heap.get? e = some { cls := .ref C, dict := od, data := .fields #[.ref t, .none, .none, .none, .bool false, .none] } ∧ E (.ref e) s₁
theorem raise_own {x : Sem Value} {Q : Flow → Shared → Prop} (hbase : bm.contains (.type "BaseException") = true) (hh : A.handled = none)
    (h : wpAny M A x (RaisableD C (excClassObj nm q C N bs bm hdct sn sub ab col dd k0 k1 k2 k3 k5 newId) E) E s) :
    wpAny M A (raiseStmt env (some x) none) Q E s := by
  have hcB : (Value.ref C :: bm).contains (.type "BaseException") = true := by rw [List.contains_cons, hbase, Bool.or_true]
  unfold raiseStmt
  refine wpAny_bind (wpAny_mono h (fun v s₁ h₁ => ?_) fun _ _ x => x)
  obtain ⟨e, t, od, rfl, hC, he, hE⟩ := h₁
  obtain ⟨hp, g, d, tk, os⟩ := s₁
  repeat (first | with_reducible refine wpAny_loadPart_at he ?_ | with_reducible refine wpAny_loadPart_at hC ?_ | (with_reducible refine wpAny_isSubtype_exc hC ?_; rw [hcB]) | wp_step)
  exact wpAny_raiseNew_none hh hE
theorem raise_stmt {e : PySem.Expr} {pos : Pos} {Q : Flow → Shared → Prop} (hbase : bm.contains (.type "BaseException") = true) (hh : A.handled = none)
    (h : wpAny M A (eval e env) (RaisableD C (excClassObj nm q C N bs bm hdct sn sub ab col dd k0 k1 k2 k3 k5 newId) E) E s) :
    wpAny M A (exec (.Raise (some e) none pos) env) Q E s := by
  rw [arm_exec_Raise]
  refine wpAny_bind (wpAny_standAt ?_)
  show wpAny _ _ (raiseStmt env (some (do let v ← eval e env; standAt pos; pure v)) none) _ _ _
  refine raise_own hbase hh (wpAny_bind (wpAny_mono h (fun v s₁ h₁ => wpAny_bind (wpAny_standAt (wpAny_pure h₁))) fun _ _ x => x))
end
section
variable {h₀ h h' : Heap} {L e C : Addr} {m : Str → Option Value} {news : Led} {args : List Value}
theorem made_news (F : Fr h₀ L h m) (N : News h₀ L h news) (x : Heap.MadeExcOf h h' e (.ref C) args) :
    ∃ t, Fr h₀ L h' m ∧ News h₀ L h' ((e, ({ cls := .ref C, data := .fields #[.ref t, .none, .none, .none, .bool false, .none] } : Obj)) :: (t, ({ cls := .type "tuple", data := .seq args.toArray } : Obj)) :: news) ∧ OwnOff news [e, t] ∧ e ≠ t := by
  obtain ⟨t, he, ht, ht'⟩ := x.there
  have F' := F.keeps x.keeps
  have nf : ∀ a, h.get? a = none → h₀.get? a = none ∧ a ≠ L := fun a ha => by
    refine ⟨?_, ?_⟩
    · cases q : h₀.get? a with
      | none => rfl
      | some o => have := F.keep _ _ q; rw [ha] at this; cases this
    · rintro rfl
      obtain ⟨o, _, _, ho, _⟩ := F.ns
      rw [ha] at ho; cases ho
  refine ⟨t, F', fun p hp => ?_, fun p hp b hb => ?_, ?_⟩
  · rcases List.mem_cons.mp hp with rfl | hp
    · exact ⟨he, (nf e x.new).2, (nf e x.new).1⟩
    · rcases List.mem_cons.mp hp with rfl | hp
      · exact ⟨ht', (nf t ht).2, (nf t ht).1⟩
      · exact ⟨x.keeps _ _ (N p hp).1, (N p hp).2⟩
  · rintro rfl
    have hg := (N p hp).1
    simp only [List.mem_cons, List.not_mem_nil, or_false] at hb
    rcases hb with hb | hb
    · rw [hb, x.new] at hg; cases hg
    · rw [hb, ht] at hg; cases hg
  · rintro rfl
    rw [ht'] at he
    cases he
end

end
section
section
open Builtin Builtin.ObjectAttr
variable {prog : Program} {w : World} {A : Around} {E : Value → Shared → Prop} {s : Shared} {K : Frag} {x C L : Addr} {h₀ : Heap} {m : Str → Option Value} {name : Str} {v : Value} {cd : ClassData}
/-- object.__setattr__ at an object of a class of the program over an exception class -/
theorem xsa_open {R : Result → Shared → Prop} {ox : Obj} {od : Option Obj} {tk : Tok} (X : K.In s.heap) (I : InstAt s.heap x ox C od) (hc : clsIn K C = some cd)
    (ho : cd.mro.contains (.type "object") = true) (hp : refuseLoop (.ref x) "__setattr__" cd.mro = pure ()) (ht : takerIn K C name = some none)
    (h : ∀ b, wpAny (model prog w) A.in1 (storeInOwnDict (.ref x) (.ref C) (.str name tk) name v b)
      (fun fin s' => match fin with | .done f => R (.ok f) s' | .again c' => c'.quiet = true ∧ codeAny (model prog w) A c' R s') (fun e s' => R (.error e) s') s) :
    codeAny (model prog w) A (.call (.builtin "object.__setattr__") ⟨[.ref x, .str name tk, v], []⟩) R s := by
  have SF := PySem.F.store_object
  have ne : cd.mro.isEmpty = false := by cases q : cd.mro with | nil => rw [q] at ho; cases ho | cons _ _ => rfl
  have sub : Looks (model prog w) s.heap (isInstance (.ref x) (.type "object")) true := I.type.andThen (looks_mroIn X (by unfold mroIn; rw [hc, Option.bind_some, if_neg (by rw [ne]; decide), ho]))
  refine codeAny_call_builtin SF.slot.plain SF.entry (@check_slot (model prog w) _ _ s "object.__setattr__" "object" "__setattr__" (.ref x) [.str name tk, v] [] _ SF.kind SF.split sub (SF.args (.ref x) (.str name tk) v) ?_)
  obtain ⟨attr, ha, hr⟩ := Option.bind_eq_some_iff.mp ht
  have hm : Looks (model prog w) s.heap (mroOf (.ref C)) cd.mro := (looks_clsIn X hc).andThen .now
  have L3 : Looks (model prog w) s.heap (storeTaker? attr) none := by
    cases attr with
    | none => cases hr; exact .now
    | some a =>
      obtain ⟨b, hb, hbe⟩ := Option.map_eq_some_iff.mp hr
      refine (looks_takesIn X hb).andThen ?_
      cases b <;> first | exact .now | cases hbe
  rw [osa_eq, refuse_eq]
  refine wpAny_bind (wpAny_bind (I.type.here (wpAny_bind (hm.here ?_))))
  rw [hp]
  refine wpAny_pure (wpAny_bind (I.type.here (wpAny_bind ((looks_findIn X ha).here (wpAny_bind (L3.here ?_))))))
  exact h _
abbrev xObj (C : Addr) (od : Option Addr) (t : Addr) : Obj := { cls := .ref C, dict := od, data := .fields #[.ref t, .none, .none, .none, .bool false, .none] }
theorem xset_next {Q : Unit → Shared → Prop} {t dx : Addr} {es es' : List DictEntry} {n n' : Nat} {rest : Led} (F : Fr h₀ L s.heap m) (X₀ : K.In h₀)
    (N : News h₀ L s.heap ((x, xObj C (some dx) t) :: (dx, dictOf es n) :: rest)) (hne : x ≠ dx) (hr : ∀ p ∈ rest, p.1 ≠ dx)
    (hs : findIn K (.ref C) "__setattr__" = some (some (.builtin "object.__setattr__"))) (hc : clsIn K C = some cd) (hdt : cd.hasDict = true)
    (ho : cd.mro.contains (.type "object") = true) (hp : refuseLoop (.ref x) "__setattr__" cd.mro = pure ()) (ht : takerIn K C name = some none)
    (hl : (getL name es).isSome = true) (e : (putL name (PyData.keyHash w.params name) (.str name (s.toks + 1)) v es, putN name es n) = (es', n')) (hz : es'.length ≤ 1000)
    (h : ∀ h', Fr h₀ L h' m → News h₀ L h' ((x, xObj C (some dx) t) :: (dx, dictOf es' n') :: rest) → Q () { s with heap := h', toks := s.toks + 2 }) :
    wpAny (model prog w) A (setAttr (.ref x) name v) Q E s := by
  obtain ⟨hh, g, d, tk, os⟩ := s
  dsimp only at F N e h ⊢
  have X1 := X₀.keeps F.keep
  have I : InstAt hh x (xObj C (some dx) t) C (some (dictOf es n)) := ⟨(N _ (.head _)).1, rfl, rfl, (N _ (.tail _ (.head _))).1⟩
  obtain ⟨e1, e2⟩ := Prod.mk.inj e
  refine set_plain X1 I hs (xsa_open (s := ⟨hh, g, d, tk + 1, os⟩) X1 I hc ho hp ht fun b => ?_)
  have e3 : Obj.putName name (PyData.keyHash w.params name) (.str name (tk + 1)) v (dictOf es n) = dictOf es' n' := by rw [putName_dict, e1, e2]
  obtain ⟨U1, U2⟩ := news_upd (pre := [(x, xObj C (some dx) t)]) (f := Obj.putName name (PyData.keyHash w.params name) (.str name (tk + 1)) v) F N (fun p hp => by rw [List.mem_singleton.mp hp]; exact hne) hr e3 rfl
  have D : hh.get? dx = _ := (N (dx, dictOf es n) (.tail _ (.head _))).1
  have D' := (U2 (dx, dictOf es' n') (.tail _ (.head _))).1
  refine wpAny_bind (wpAny_pure (wpAny_bind (wpAny_bind (wpAny_loadPart (N _ (.head _)).1 (wpAny_bind ((looks_clsIn X1 hc).here ?_))))))
  rw [hdt]
  refine wpAny_pure (a := some dx) (wpAny_bind (wpAny_pure (wpAny_bind ?_)))
  unfold nsSet
  refine wpAny_bind (wpAny_bind (wpAny_askSetting (wpAny_pure (wpAny_bind (wpAny_mkText (wpAny_bind (wpAny_loadPart D ?_)))))))
  have c : (!es.toArray.any (·.key.isStr name) && es.toArray.any (·.refKey)) = false := by
    rw [← Array.any_toList, ← Array.any_toList]
    unfold getL at hl
    split at hl
    · rename_i en he
      rw [List.any_eq_true.mpr ⟨en, List.mem_of_find?_eq_some he, List.find?_some he⟩]; rfl
    · split at hl
      · cases hl
      · rename_i z; rw [Bool.not_eq_true] at z; rw [z, Bool.and_false]
  dsimp only [dictOf]
  rw [aRefKeyMayBeTheName_at, c]
  refine wpAny_updatePart D ?_
  refine wpAny_bind (wpAny_lookBehind D' (pastItsLine_dict (by rw [List.size_toArray, sizeLine_eq]; omega)) ?_)
  exact wpAny_pure (h _ U1 U2)
theorem xset_first {Q : Unit → Shared → Prop} {t : Addr} {rest : Led} (F : Fr h₀ L s.heap m) (X₀ : K.In h₀)
    (N : News h₀ L s.heap ((x, xObj C none t) :: rest)) (hr : ∀ p ∈ rest, p.1 ≠ x)
    (hs : findIn K (.ref C) "__setattr__" = some (some (.builtin "object.__setattr__"))) (hc : clsIn K C = some cd) (hdt : cd.hasDict = true)
    (ho : cd.mro.contains (.type "object") = true) (hp : refuseLoop (.ref x) "__setattr__" cd.mro = pure ()) (ht : takerIn K C name = some none)
    (h : ∀ h' dx, Fr h₀ L h' m → News h₀ L h' ((x, xObj C (some dx) t) :: (dx, dictOf [⟨PyData.keyHash w.params name, .str name (s.toks + 1), v⟩] 1) :: rest) → x ≠ dx → (∀ p ∈ rest, p.1 ≠ dx) → Q () { s with heap := h', toks := s.toks + 2 }) :
    wpAny (model prog w) A (setAttr (.ref x) name v) Q E s := by
  have hx := (N _ (.head _)).1
  have I : InstAt s.heap x (xObj C none t) C none := ⟨hx, rfl, rfl, trivial⟩
  refine set_plain (X₀.keeps F.keep) I hs (xsa_open (s := { s with toks := s.toks + 1 }) (X₀.keeps F.keep) I hc ho hp ht fun b => ?_)
  obtain ⟨hh, g, d, tk, os⟩ := s
  dsimp only at F N hx h I ⊢
  have N1 := N.push F emptyDict
  have F1 := F.push emptyDict (L := L)
  have hx1 : x ≠ hh.objs.size := Nat.ne_of_lt (Heap.lt_size hx)
  have hrx : ∀ p ∈ rest, p.1 ≠ hh.objs.size := fun p hp => N.apart p (.tail _ hp)
  obtain ⟨U1, U2⟩ := news_upd (pre := [(hh.objs.size, emptyDict)]) (f := fun o => { o with dict := some hh.objs.size }) (o' := xObj C (some hh.objs.size) t) F1 N1 (fun p hp => by rw [List.mem_singleton.mp hp]; exact hx1.symm) hr rfl rfl
  have e3 : Obj.putName name (PyData.keyHash w.params name) (.str name (tk + 1)) v emptyDict = dictOf [⟨PyData.keyHash w.params name, .str name (tk + 1), v⟩] 1 := by
    rw [show emptyDict = dictOf [] 0 from rfl, putName_dict]; rfl
  obtain ⟨V1, V2⟩ := news_upd (pre := []) (f := Obj.putName name (PyData.keyHash w.params name) (.str name (tk + 1)) v) U1 U2 (fun p hp => nomatch hp) (fun p hp => (List.mem_cons.mp hp).elim (fun q => by rw [q]; exact hx1) (hrx p)) e3 rfl
  have D := (U2 _ (.head _)).1
  have D' := (V2 _ (.head _)).1
  refine wpAny_bind (wpAny_pure (wpAny_bind (wpAny_bind (wpAny_loadPart hx (wpAny_bind ((looks_clsIn (X₀.keeps F.keep) hc).here ?_))))))
  rw [hdt]
  refine wpAny_bind (wpAny_alloc' ?_)
  refine wpAny_bind (wpAny_update' (N1 _ (.tail _ (.head _))).1 ?_)
  refine wpAny_pure ?_
  refine wpAny_bind (wpAny_pure (wpAny_bind ?_))
  unfold nsSet
  refine wpAny_bind (wpAny_bind (wpAny_askSetting (wpAny_pure (wpAny_bind (wpAny_mkText (wpAny_bind (wpAny_loadPart D ?_)))))))
  dsimp only
  rw [aRefKeyMayBeTheName_at, show (!(#[] : Array DictEntry).any (·.key.isStr name) && (#[] : Array DictEntry).any (·.refKey)) = false from by simp]
  refine wpAny_updatePart D ?_
  refine wpAny_bind (wpAny_lookBehind D' (pastItsLine_dict (by rw [sizeLine_eq]; exact Nat.le_of_ble_eq_true rfl)) ?_)
  refine wpAny_pure (h _ _ V1 (V2.perm fun p hp => ?_) hx1 hrx)
  rcases List.mem_cons.mp hp with rfl | hp
  · exact .tail _ (.head _)
  · rcases List.mem_cons.mp hp with rfl | hp
    · exact .head _
    · exact .tail _ (.tail _ hp)
end
section
variable {prog : Program} {w : World} {A : Around} {E : Value → Shared → Prop} {s : Shared} {x C L : Addr} {h₀ : Heap} {m : Str → Option Value} {v : Value}
variable {nm q : Str} {N : Addr} {bs bm : List Value} {hdct : Bool} {sn : List Str} {sub : List Value} {ab : Bool} {col : Option Bool} {dd : Option Addr} {k0 k1 k2 k3 k5 : Option Value} {newId : String}
theorem xinit_base {Q : Value → Shared → Prop} {t : Addr} {news : Led} {args : List Value} (F : Fr h₀ L s.heap m) (N : News h₀ L s.heap ((x, xObj C none t) :: news)) (hr : ∀ p ∈ news, p.1 ≠ x)
    (hC : s.heap.get? C = some (excClassObj nm q C N' bs bm hdct sn sub ab col dd k0 k1 k2 k3 k5 newId)) (hcB : (Value.ref C :: bm).contains (.type "Exception") = true)
    (h : ∀ h' t', Fr h₀ L h' m → News h₀ L h' ((x, xObj C none t') :: (t', ({ cls := .type "tuple", data := .seq args.toArray } : Obj)) :: news) → x ≠ t' → (∀ p ∈ news, p.1 ≠ t') → Q .none { s with heap := h' }) (hl : args.length ≤ sizeLine := by size_fits) :
    wpAny (model prog w) A (call (.builtin "Exception.__init__") (.ref x :: args)) Q E s := by
  have Fn := PySem.F.excBase_Exception
  obtain ⟨hh, g, d, tk, os⟩ := s
  dsimp only at F N hC h ⊢
  have hx := (N _ (.head _)).1
  have chk : ∀ {M : Model} {A : Around} {E : Value → Shared → Prop} {Q : Unit → Shared → Prop}, Q () ⟨hh, g, d, tk, os⟩ → wpAny M A (checkBuiltinCall "Exception.__init__" ⟨.ref x :: args, []⟩) Q E ⟨hh, g, d, tk, os⟩ := by
    intro M A E Q hq
    have hshort := Fn.noStar
    simp only [checkBuiltinCall, Fn.initKind, Fn.initSplit, Fn.initRow]
    repeat (first | (with_reducible refine wpAny_loadPart_at hx ?_) | with_reducible refine wpAny_loadPart_at hC ?_ | (with_reducible refine wpAny_isSubtype_exc hC ?_; rw [hcB]) | wp_step)
    refine wpAny_onRaise ?_
    rw [show ∀ (a b : String) (n : Nat), Bind.check ⟨.positional, "*", "Exception", .self, [⟨"args", .varPos, false⟩]⟩ a b n (List.map (fun x => x.fst) ({ pos := Value.ref x :: args } : Args).kw) = pure () from
      fun a b n => check_star_args _ _ _ _ _ _]
    exact wpAny_pure hq
  refine wpAny_call (codeAny_call_builtin Fn.init.plain Fn.initEntry (chk ?_))
  have N1 := N.push F { cls := .type "tuple", data := .seq args.toArray }
  have F1 := F.push { cls := .type "tuple", data := .seq args.toArray } (L := L)
  have hx1 : x ≠ hh.objs.size := Nat.ne_of_lt (Heap.lt_size hx)
  have hxx := (N1 _ (.tail _ (.head _))).1
  wp_walk
  obtain ⟨U1, U2⟩ := news_upd (pre := [(hh.objs.size, ({ cls := .type "tuple", data := .seq args.toArray } : Obj))]) (f := Obj.mapFields fun x => x.setIfInBounds 0 (Value.ref hh.objs.size)) (o' := xObj C none hh.objs.size) F1 N1 (fun p hp => by rw [List.mem_singleton.mp hp]; exact hx1.symm) hr rfl rfl
  refine h _ hh.objs.size U1 (U2.perm fun p hp => ?_) hx1 (fun p hp => N.apart p (.tail _ hp))
  rcases List.mem_cons.mp hp with rfl | hp
  · exact .tail _ (.head _)
  · rcases List.mem_cons.mp hp with rfl | hp
    · exact .head _
    · exact .tail _ (.tail _ hp)
end

end
section
/-- each object keeps its own dict -/
def SameDict (h h' : Heap) : Prop := ∀ b o, h.get? b = some o → ∃ o', h'.get? b = some o' ∧ o'.dict = o.dict
theorem SameDict.refl (h : Heap) : SameDict h h := fun _ o e => ⟨o, e, rfl⟩
theorem SameDict.trans {h₁ h₂ h₃ : Heap} (x : SameDict h₁ h₂) (y : SameDict h₂ h₃) : SameDict h₁ h₃ := fun b o e => by
  obtain ⟨o', e', d'⟩ := x b o e
  obtain ⟨o'', e'', d''⟩ := y b o' e'
  exact ⟨o'', e'', d''.trans d'⟩
def CalmF (f : Obj → Obj) : Prop := ∀ o, (f o).dict = o.dict ∧ (o.isFreed = false → (f o).isFreed = false)
theorem SameDict.update {h : Heap} {a : Addr} {f : Obj → Obj} (c : CalmF f) : SameDict h (h.update a f) := fun b o e => by
  by_cases q : a = b
  · subst q
    exact ⟨f o, Heap.get?_update_self f e ((c o).2 (Heap.get?_some_iff.mp e).2), (c o).1⟩
  · exact ⟨o, (Heap.get?_update_other _ _ q).trans e, rfl⟩
theorem SameDict.push {h : Heap} {x : Obj} : SameDict h (h.push x) := fun _ o e => ⟨o, Heap.get?_push_of_some _ e, rfl⟩
/-- a tree that changes no object's own dict and calls nothing -/
def Calm {α : Type} : Sem α → Prop
  | .pure _ | .raise _ | .unsupported _ | .finish _ | .register _ _ | .yield .. | .fork .. | .await .. => True
  | .rule _ k | .at _ k | .point _ k => Calm (k ())
  | .load _ _ k => ∀ o, Calm (k o)
  | .update _ _ f k => CalmF f ∧ Calm (k ())
  | .loadIfAlive _ k => ∀ o, Calm (k o)
  | .alloc _ k => ∀ a, Calm (k a)
  | .fresh k => ∀ a, Calm (k a)
  | .ask k => ∀ a, Calm (k a)
  | .choose _ _ k => ∀ a, Calm (k a)
  | .os _ _ k => ∀ a, Calm (k a)
  | .handled _ k => ∀ a, Calm (k a)
  | .newGen _ k => ∀ a, Calm (k a)
  | .genState _ k => ∀ a, Calm (k a)
  | .stack k => ∀ a, Calm (k a)
  | .thread k => Calm (k 0)
  | .call .. | .resume .. => False
theorem calm_wp {α : Type} (M : Model) (Γ : PySem.Ctx) (h₀ : Heap) (E : Value → Pos → Shared → Prop) : ∀ (t : Sem α) (Q : α → Pos → Shared → Prop) (p : Pos) (s : Shared), Calm t → SameDict h₀ s.heap → Sem.wp M Γ t Q E p s →
    Sem.wp M Γ t (fun a p s => Q a p s ∧ SameDict h₀ s.heap) E p s := by
  intro t
  induction t with
  | pure a => intro Q p s _ k h; exact ⟨h, k⟩
  | raise e => intro Q p s _ k h; exact h
  | unsupported e => intro Q p s _ k h; exact h
  | finish e => intro Q p s _ k h; exact h
  | rule _ k ih => intro Q p s c d h; exact ih () Q p s c d h
  | «at» _ k ih => intro Q p s c d h; exact ih () Q _ s c d h
  | point _ k ih => intro Q p s c d h; exact ih () Q p s c d h
  | load a _ k ih => intro Q p s c d h; obtain ⟨o, e, h⟩ := h; exact ⟨o, e, ih o Q p s (c o) d h⟩
  | update a _ f k ih => intro Q p s c d h; exact ⟨h.1, ih () Q p _ c.2 (d.trans (.update c.1)) h.2⟩
  | loadIfAlive a k ih => intro Q p s c d h; exact ih _ Q p s (c _) d h
  | alloc o k ih => intro Q p s c d h; exact ih _ Q p _ (c _) (d.trans .push) h
  | fresh k ih => intro Q p s c d h; exact ih _ Q p _ (c _) d h
  | ask k ih => intro Q p s c d h; exact ih _ Q p _ (c _) d h
  | choose _ _ k ih => intro Q p s c d h; exact ⟨h.1, ih _ Q p _ (c _) d h.2⟩
  | os _ _ k ih => intro Q p s c d h; exact ih _ Q p _ (c _) d h
  | handled _ k ih => intro Q p s c d h; exact ih _ Q p _ (c _) d h
  | newGen _ k ih => intro Q p s c d h; exact ih _ Q p _ (c _) d h
  | genState _ k ih => intro Q p s c d h; obtain ⟨st, e, h⟩ := h; exact ⟨st, e, ih _ Q p s (c _) d h⟩
  | stack k ih => intro Q p s c d h; exact ih _ Q p _ (c _) d h
  | thread k ih => intro Q p s c d h; exact ih _ Q p _ c d h
  | register _ _ => intro Q p s _ _ h; exact h
  | yield => intro Q p s _ _ h; exact h
  | fork => intro Q p s _ _ h; exact h
  | await => intro Q p s _ _ h; exact h
  | call => intro Q p s c; exact c.elim
  | resume => intro Q p s c; exact c.elim
theorem calm_any {α : Type} {M : Model} {A : Around} {t : Sem α} {Q : α → Shared → Prop} {E : Value → Shared → Prop} {s : Shared} (c : Calm t) (h : wpAny M A t Q E s) :
    wpAny M A t (fun a s' => Q a s' ∧ SameDict s.heap s'.heap) E s := fun Γ p hΓ => calm_wp M Γ s.heap _ t _ p s c (.refl _) (h Γ p hΓ)
theorem Calm.bind {α β : Type} {f : α → Sem β} : ∀ {m : Sem α}, Calm m → (∀ a, Calm (f a)) → Calm (m >>= f) := by
  intro m
  show Calm m → (∀ a, Calm (f a)) → Calm (Sem.bind m f)
  induction m with
  | pure a => intro _ h; exact h a
  | raise | unsupported | finish | register | yield | fork | await => intro _ _; trivial
  | rule _ _ ih | «at» _ _ ih | point _ _ ih => intro c h; exact ih () c h
  | load _ _ _ ih => intro c h o; exact ih o (c o) h
  | update _ _ _ _ ih => intro c h; exact ⟨c.1, ih () c.2 h⟩
  | loadIfAlive _ _ ih | alloc _ _ ih | fresh _ ih | ask _ ih | os _ _ _ ih | handled _ _ ih | newGen _ _ ih | genState _ _ ih | stack _ ih => intro c h o; exact ih o (c o) h
  | choose _ _ _ ih => intro c h o; exact ih o (c o) h
  | thread _ ih => intro c h; exact ih 0 c h
  | call | resume => intro c; exact c.elim
theorem Calm.pure' {α : Type} {a : α} : Calm (pure a : Sem α) := trivial
theorem Calm.uns {α : Type} {a : String} : Calm (unsupported a : Sem α) := trivial
theorem calmF_fields {f : Array Value → Array Value} : CalmF (Obj.mapFields f) := fun o => by
  obtain ⟨c, d, dt, sl⟩ := o
  cases dt <;> exact ⟨rfl, id⟩
theorem calm_fieldsOf {v : Value} : Calm (fieldsOf v) := by
  unfold fieldsOf
  cases v <;> first | exact trivial | skip
  intro o
  show Calm (match o.data with | .fields vs => _ | _ => _)
  split <;> trivial
theorem calm_field {v : Value} {i : Nat} : Calm (field v i) := by
  unfold field
  refine calm_fieldsOf.bind fun a => ?_
  split <;> trivial
theorem calm_setField {v x : Value} {i : Nat} : Calm (setField v i x) := by
  unfold setField
  cases v <;> first | exact trivial | skip
  unfold updateField
  intro o
  show Calm (match o.data with | .fields vs => _ | _ => _)
  split
  · split
    · exact ⟨calmF_fields, trivial⟩
    · trivial
  · trivial
theorem calm_stack : Calm stack := fun _ => trivial
theorem calm_frameEnvs : Calm frameEnvs := calm_stack.bind fun _ => trivial
theorem calm_keptBack {env : Env} {b : Bool} {l : List Env} : Calm (keptBack env b l) := by
  unfold keptBack
  split
  · split
    · trivial
    · unfold underTheClaimsCaller
      exact Calm.bind (Calm.bind calm_stack fun _ => Calm.pure') fun _ => Calm.pure'
  · trivial
theorem calm_readyFrames : ∀ {l : List Env}, Calm (readyFrames l)
  | [] => trivial
  | env :: outer => by
    unfold readyFrames
    cases env.frame with
    | none => trivial
    | some f =>
      intro o
      show Calm (ite _ _ _)
      split
      · trivial
      · refine Calm.bind ?_ fun _ => Calm.bind calm_keptBack fun _ => ⟨fun o => ⟨rfl, ?_⟩, calm_readyFrames⟩
        · unfold behindIsImport
          split
          · trivial
          · split
            · trivial
            · exact calm_field.bind fun _ => trivial
        · obtain ⟨_, _, dt, _⟩ := o
          cases dt <;> exact id
theorem calm_frameOf {env : Env} : Calm (PySem.frameOf env) := by
  unfold PySem.frameOf
  refine calm_frameEnvs.bind fun l => Calm.bind ?_ fun r => ?_
  · unfold frameObject
    split
    · trivial
    · exact calm_readyFrames.bind fun _ => trivial
  · split <;> trivial
theorem calm_setFlight {e : Value} {f : Option Addr} : Calm (setFlight e f) := by
  unfold setFlight
  refine calm_field.bind fun _ => ?_
  split
  · exact calm_setField
  · trivial
theorem calm_entryPlaceOf {f : Addr} {b : Bool} : Calm (entryPlaceOf f b) := by
  unfold entryPlaceOf
  refine calm_stack.bind fun _ => ?_
  split <;> trivial
theorem calm_newEntry {a b c d e : Value} {l : List Value} : Calm (EntryCells.newEntry a b c d e l) := by
  unfold EntryCells.newEntry newFields newObj
  dsimp only
  split <;> (split <;> first | trivial | exact fun _ => trivial)
theorem calm_noteFrame {e : Value} {env : Env} : Calm (noteFrame e env) := by
  unfold noteFrame
  cases env.frame with
  | none => trivial
  | some f =>
    refine calm_field.bind fun hd => ?_
    have z : Calm (do setField e 1 (← EntryCells.newEntry hd (← frameOf env) .none (rawInt f) .none (← entryPlaceOf f (hd != .none)))) :=
      calm_frameOf.bind fun _ => calm_entryPlaceOf.bind fun _ => calm_newEntry.bind fun _ => calm_setField
    dsimp only
    split
    · refine calm_field.bind fun x => ?_
      split
      · trivial
      · exact calm_setField.bind fun _ => z
    · exact z
theorem calm_leaving {e : Value} {env : Env} : Calm (leaving env e) := calm_noteFrame.bind fun _ => calm_setFlight

section
variable {M : Model} {A : Around} {E : Value → Shared → Prop} {s' : Shared} {base g g₂ h : Heap} {outer : List Env} {L a e t C dd : Addr} {m : Str → Option Value} {name : Str} {scope : Scope} {cd : Value} {Q : Unit → Shared → Prop} {news : List (Addr × Obj)} {od : Obj}
/-- the first frame that an exception with its own dict leaves -/
theorem leave_raiseD {vs : List Value} (K : Below A base outer g) (F : Fr g L s'.heap m) (N : News g L s'.heap ((e, xObj C (some dd) t) :: (dd, od) :: (t, ({ cls := .type "tuple", data := .seq vs.toArray } : Obj)) :: news))
    (hed : e ≠ dd) (hdt : dd ≠ t) (off : ∀ p ∈ news, p.1 ≠ e ∧ p.1 ≠ t)
    (hQ : ∀ h', RaisedS base g outer e (.ref C) t vs ((dd, od) :: news) h' → (∃ oe, h'.get? e = some oe ∧ oe.dict = some dd) → g.UpToSlots h' → Q () { s' with heap := h' }) (hk : scope.kind = .function := by rfl) :
    wpAny M (A.deeper (envOf name scope L a cd)) (leaving (envOf name scope L a cd) (.ref e)) Q E s' := by
  have K' := K.push (name := name) (a := a) (cd := cd) F hk
  have hin : ∀ env ∈ (envOf name scope L a cd :: outer), ∀ b, env.frame = some b → b ∈ (envOf name scope L a cd :: outer).filterMap (·.frame) ++ [e, t] := fun env he b hb => List.mem_append_left _ (List.mem_filterMap.mpr ⟨env, he, hb⟩)
  have he := N _ (.head _)
  have ht := N _ (.tail _ (.tail _ (.head _)))
  have nof : ∀ q ∈ ((dd, od) :: news), q.1 ∉ (envOf name scope L a cd :: outer).filterMap (·.frame) ++ [e, t] := fun q hq hm => by
    have hN : s'.heap.get? q.1 = some q.2 ∧ q.1 ≠ L ∧ g.get? q.1 = none := by
      rcases List.mem_cons.mp hq with rfl | hq
      · exact N _ (.tail _ (.head _))
      · exact N _ (.tail _ (.tail _ (.tail _ hq)))
    rcases List.mem_append.mp hm with hm | hm
    · rcases kts_mem hm with z | z
      · exact hN.2.1 z
      · obtain ⟨o, ho, _⟩ := (K.frames.mem z).2
        rw [hN.2.2] at ho; cases ho
    · have hof : q.1 ≠ e ∧ q.1 ≠ t := by
        rcases List.mem_cons.mp hq with rfl | hq
        · exact ⟨hed.symm, hdt⟩
        · exact off _ hq
      simp only [List.mem_cons, List.not_mem_nil, or_false] at hm
      rcases hm with hm | hm
      · exact hof.1 hm
      · exact hof.2 hm
  have st : base.StaysIn (hideAll s'.heap ((envOf name scope L a cd :: outer).filterMap (·.frame) ++ [e, t])) := fun b o q => hideAll_get _ (K'.stays b o q) fun hm => by
    rcases List.mem_append.mp hm with hm | hm
    · rw [(K'.frames.mem hm).1] at q; cases q
    · simp only [List.mem_cons, List.not_mem_nil, or_false] at hm
      have q' := K.stays b o q
      rcases hm with rfl | rfl
      · rw [he.2.2] at q'; cases q'
      · rw [ht.2.2] at q'; cases q'
  have sg : ∀ b o, g.get? b = some o → b ∉ outer.filterMap (·.frame) → (hideAll s'.heap ((envOf name scope L a cd :: outer).filterMap (·.frame) ++ [e, t])).get? b = some o := fun b o q nm => hideAll_get _ (F.keep b o q) fun hm => by
    rcases List.mem_append.mp hm with hm | hm
    · rcases kts_mem hm with z | z
      · rw [z, kts_self F] at q
        cases q
      · exact nm z
    · simp only [List.mem_cons, List.not_mem_nil, or_false] at hm
      rcases hm with rfl | rfl
      · rw [he.2.2] at q; cases q
      · rw [ht.2.2] at q; cases q
  have hl : ∀ q ∈ ((dd, od) :: news), (hideAll s'.heap ((envOf name scope L a cd :: outer).filterMap (·.frame) ++ [e, t])).get? q.1 = some q.2 ∧ g.get? q.1 = none ∧ base.get? q.1 = none := fun q hq => by
    have hN : s'.heap.get? q.1 = some q.2 ∧ q.1 ≠ L ∧ g.get? q.1 = none := by
      rcases List.mem_cons.mp hq with rfl | hq
      · exact N _ (.tail _ (.head _))
      · exact N _ (.tail _ (.tail _ (.tail _ hq)))
    exact ⟨hideAll_get _ hN.1 (nof q hq), hN.2.2, fresh_of_stays K.stays hN.2.2⟩
  have hBe : (hideAll s'.heap ((envOf name scope L a cd :: outer).filterMap (·.frame) ++ [e, t])).get? e = none := hideAll_none _ (List.mem_append_right _ (.head _))
  have hBt : (hideAll s'.heap ((envOf name scope L a cd :: outer).filterMap (·.frame) ++ [e, t])).get? t = none := hideAll_none _ (List.mem_append_right _ (.tail _ (.head _)))
  refine wpAny_mono (calm_any calm_leaving (wpAny_leaving_firstW (Q := fun _ s₂ => ∃ h', Heap.LeftW (hideAll s'.heap ((envOf name scope L a cd :: outer).filterMap (·.frame) ++ [e, t])) (envOf name scope L a cd :: outer) e (.ref C) (.ref t) s'.heap h' ∧ s₂ = { s' with heap := h' })
    (oe := xObj C (some dd) t) (a0 := .ref t) K'.stack (funFrames_hide K'.frames hin) rfl he.1 (fun b o q => of_hideAll _ q) hBe rfl rfl rfl fun h' hL => ⟨h', hL, rfl⟩)) (fun _ s₂ hs => ?_) fun _ _ z => z
  obtain ⟨⟨h', ⟨k1, ⟨_, _, k2⟩, k3, k4⟩, rfl⟩, sd⟩ := hs
  obtain ⟨oe, heo, hde⟩ := sd _ _ he.1
  exact hQ h' ⟨⟨_, st, sg, hl, ⟨k1, hBe, k2, k3⟩, hBt⟩, Heap.TupAt.of_slots ⟨_, _, ht.1, rfl, rfl⟩ k4⟩ ⟨oe, heo, hde⟩ ((Heap.UpToSlots.of_keeps F.keep).trans k4)
/-- a further frame that it leaves -/
theorem leave_onD {w : World} {l : Led} (K : Below A base outer g) (F : Fr g L g₂ m) (R : Flies w base g₂ (envOf name scope L a cd :: outer) e l s'.heap) (hsm : g₂.UpToSlots s'.heap)
    (hQ : ∀ h', Flies w base g outer e l h' → g.UpToSlots h' → Q () { s' with heap := h' }) :
    wpAny M (A.deeper (envOf name scope L a cd)) (leaving (envOf name scope L a cd) (.ref e)) Q E s' := by
  obtain ⟨t, vs, dd, od, R, ⟨oe, heo, hde⟩, W⟩ := R
  refine wpAny_mono (calm_any calm_leaving (leave_onS (Q := fun _ s₂ => ∃ h', RaisedS base g outer e (.ref 51) t vs ((dd, od) :: l) h' ∧ g.UpToSlots h' ∧ s₂ = { s' with heap := h' }) K F R hsm fun h' R' _ u => ⟨h', R', u, rfl⟩)) (fun _ s₂ hs => ?_) fun _ _ z => z
  obtain ⟨⟨h', R', u, rfl⟩, sd⟩ := hs
  obtain ⟨oe', heo', hde'⟩ := sd _ _ heo
  exact hQ h' ⟨t, vs, dd, od, R', ⟨oe', heo', hde'.trans hde⟩, W⟩ u
end

end
section
section
variable {w : World} {A : Around} {E : Value → Shared → Prop} {s : Shared} {x L : Addr} {h₀ : Heap} {m : Str → Option Value} {name : Str} {v : Value}
theorem ar_cls (w : World) : ∃ cd, clsIn (heapK w.params) 51 = some cd ∧ cd.hasDict = true ∧ cd.mro.contains (.type "object") = true ∧ ∀ x, refuseLoop (.ref x) "__setattr__" cd.mro = pure () := by
  exact ⟨_, by with_unfolding_all rfl, rfl, by decide, fun x => (refuseLoop_ref _ _ _ _).trans ((refuseLoop_ref _ _ _ _).trans (PySem.F.store_Exception.passes _))⟩
theorem ar_first {Q : Unit → Shared → Prop} {t : Addr} {rest : Led} (F : Fr h₀ L s.heap m) (X₀ : (heapK w.params).In h₀)
    (N : News h₀ L s.heap ((x, xObj 51 none t) :: rest)) (hr : ∀ p ∈ rest, p.1 ≠ x) (ht : takerIn (heapK w.params) 51 name = some none)
    (h : ∀ h' dx, Fr h₀ L h' m → News h₀ L h' ((x, xObj 51 (some dx) t) :: (dx, dictOf [⟨PyData.keyHash w.params name, .str name (s.toks + 1), v⟩] 1) :: rest) → x ≠ dx → (∀ p ∈ rest, p.1 ≠ dx) → Q () { s with heap := h', toks := s.toks + 2 }) :
    wpAny (model Challenge.rw_pb0006_01.row.prog w) A (setAttr (.ref x) name v) Q E s := by
  obtain ⟨cd, h1, h2, h3, h4⟩ := ar_cls w
  exact xset_first F X₀ N hr (by with_unfolding_all rfl) h1 h2 h3 (h4 x) ht h
theorem ar_next {Q : Unit → Shared → Prop} {t dx : Addr} {es es' : List DictEntry} {n n' : Nat} {rest : Led} (F : Fr h₀ L s.heap m) (X₀ : (heapK w.params).In h₀)
    (N : News h₀ L s.heap ((x, xObj 51 (some dx) t) :: (dx, dictOf es n) :: rest)) (hne : x ≠ dx) (hr : ∀ p ∈ rest, p.1 ≠ dx) (ht : takerIn (heapK w.params) 51 name = some none)
    (hl : (getL name es).isSome = true) (e : (putL name (PyData.keyHash w.params name) (.str name (s.toks + 1)) v es, putN name es n) = (es', n')) (hz : es'.length ≤ 1000)
    (h : ∀ h', Fr h₀ L h' m → News h₀ L h' ((x, xObj 51 (some dx) t) :: (dx, dictOf es' n') :: rest) → Q () { s with heap := h', toks := s.toks + 2 }) :
    wpAny (model Challenge.rw_pb0006_01.row.prog w) A (setAttr (.ref x) name v) Q E s := by
  obtain ⟨cd, h1, h2, h3, h4⟩ := ar_cls w
  exact xset_next F X₀ N hne hr (by with_unfolding_all rfl) h1 h2 h3 (h4 x) ht hl e hz h
theorem ar_obj (w : World) : ∃ (nm qn : Str) (N' : Addr) (bs bm : List Value) (hdct : Bool) (sn : List Str) (sub : List Value) (ab : Bool) (col : Option Bool) (dd : Option Addr) (k0 k1 k2 k3 k5 : Option Value),
      (heapK w.params).lookup 51 = some (excClassObj nm qn 51 N' bs bm hdct sn sub ab col dd k0 k1 k2 k3 k5 "Exception.__new__") ∧ bm.contains (.type "BaseException") = true ∧ (Value.ref 51 :: bm).contains (.type "Exception") = true ∧
      (Value.ref 51 :: bm).contains (.type "AttributeError") = false ∧ (Value.ref 51 :: bm).contains (.type "NameError") = false ∧ bm.contains (.type "Exception") = true := by
  exact ⟨_, _, _, _, _, _, _, _, _, _, _, _, _, _, _, _, by with_unfolding_all rfl, by decide, by decide, by decide, by decide, by decide⟩
theorem off_conz {x t : Addr} {o : Obj} {news : Led} (a : x ≠ t) (b : ∀ p ∈ news, p.1 ≠ x) : ∀ p ∈ (t, o) :: news, p.1 ≠ x := fun p hp => (List.mem_cons.mp hp).elim (fun q => by rw [q]; exact a.symm) (b p)
theorem ar_init {Q : Value → Shared → Prop} {t : Addr} {news : Led} {args : List Value} (F : Fr h₀ L s.heap m) (X₀ : (heapK w.params).In h₀) (N : News h₀ L s.heap ((x, xObj 51 none t) :: news)) (hr : ∀ p ∈ news, p.1 ≠ x)
    (h : ∀ h' t', Fr h₀ L h' m → News h₀ L h' ((x, xObj 51 none t') :: (t', ({ cls := .type "tuple", data := .seq args.toArray } : Obj)) :: news) → x ≠ t' → (∀ p ∈ news, p.1 ≠ t') → (∀ p ∈ (t', ({ cls := .type "tuple", data := .seq args.toArray } : Obj)) :: news, p.1 ≠ x) → Q .none { s with heap := h' }) (hl : args.length ≤ sizeLine := by size_fits) :
    wpAny (model Challenge.rw_pb0006_01.row.prog w) A (call (.builtin "Exception.__init__") (.ref x :: args)) Q E s := by
  obtain ⟨nm, qn, N', bs, bm, hdct, sn, sub, ab, col, dd, k0, k1, k2, k3, k5, hC, hc1, hc2, hc3, hc4, hc5⟩ := ar_obj w
  exact xinit_base F N hr (X₀.keeps F.keep _ _ hC) hc2 (fun h' t' F' N' a b => h h' t' F' N' a b (off_conz a hr)) hl
theorem meta_Exception : typeOf (.type "Exception") = pure (.type "type") := by first | rfl | kernel_rfl
end
example : True := by
  (k_with "getMethod type:Exception" => (k_here; refine method_type (by k_asm) (by k_asm) meta_Exception (by decide +kernel) (by k_dflt k_is) (by k_handed) ?_))
  (k_with "call builtin:Exception.__init__" => (k_here; (with_reducible show wpAny _ _ (call (Value.builtin "Exception.__init__") [Value.ref _, _]) _ _ _); k_dflt (refine ar_init (by k_asm) (by k_asm) (by k_asm) (by assumption) ?_); intro h'7 t'7 F'7 N'7 net'7 hrt'7 hrx'7))
  (k_with "setAttr ref" => (k_here; (with_reducible show wpAny _ _ (setAttr (Value.ref _) _ _) _ _ _); k_dflt (first | (refine ar_first (by k_asm) (by k_asm) (by k_asm) (by assumption) (by k_is) ?_; intro h'7 dx'7 F'7 N'7 ne'7 hr'7) | (refine ar_next (by k_asm) (by k_asm) (by k_asm) (by assumption) (by assumption) (by k_is) (by k_get) (by k_put) (Nat.le_of_ble_eq_true rfl) ?_; intro h'7 F'7 N'7))))
  (k_with "exec Raise some none" => (k_here; (with_reducible show wpAny _ _ (exec (Stmt.Raise (some (Expr.Call (Expr.Name _ _) (_ :: _) [] _)) none _) _) _ _ _); refine stop_it ?_))
  trivial
set_option maxRecDepth 100000 in
set_option maxHeartbeats 1000000 in
theorem raise_does {w : World} {mean : ExcName → Option Value} {mg mb : Str → Option Value} {x : Str} {t : Tok} {news : Led} :
   DoesE 20 w mean mg mb 129 [.str x t] news (fun _ _ => False) True := by
  unfold DoesE
  k_fill
  intro dp un gd cn cs' ac ccd cl outer A₀ base h₀ L m s Q E B F X N T hk hd' hu hret hexc
  refine wpAny_call ?_
  obtain ⟨ck, cnm, cg, cco, cmo⟩ := cs'
  dsimp only at hk
  subst hk
  k_dflt k_enter
  k_steps
  show wpAny _ _ (exec _ _) _ _ _
  rename Fr _ _ _ _ => F1
  rename News _ _ _ _ => N1
  rename Frag.In _ _ => X1
  obtain ⟨nm, qn, N', bs, bm, hdct, sn, sub, ab, col, dd, k0, k1, k2, k3, k5, hC, hc1, hc2, hc3, hc4, hc5⟩ := ar_obj w
  refine raise_stmt (C := 51) (nm := nm) (q := qn) (N := N') (bs := bs) (bm := bm) (hdct := hdct) (sn := sn) (sub := sub) (ab := ab) (col := col) (dd := dd) (k0 := k0) (k1 := k1) (k2 := k2) (k3 := k3) (k5 := k5) (newId := "Exception.__new__") hc1 (by rfl) ?_
  k_steps
  have X2 := X1.keeps F1.keep
  refine exc_call (C := 51) (fI := 48) (X2 _ _ hC) hc2 hc3 hc4 hc5 (looks_findIn X2 (by k_is)) (X2 _ _ (by k_is)) (by rfl) ?_
  intro h2 e hm
  obtain ⟨t2, F2, N2', off2, hne⟩ := made_news F1 N1 hm
  have N2 := keep1 (news := news) N2' (fun p hp => .tail _ hp)
  have hre : ∀ p ∈ news, p.1 ≠ e := fun p hp => off2 p hp e (.head _)
  clear N2'
  refine wpAny_call ?_
  k_dflt k_enter
  k_steps
  rename Fr _ _ _ _ => F9
  rename News _ _ _ _ => N9
  rename ∀ p ∈ _ :: news, _ => hr9
  rename ∀ p ∈ news, _ => hrt9
  refine ⟨e, _, _, rfl, X1.keeps F9.keep _ _ hC, (N9 _ (.head _)).1, ?_⟩
  refine leave_raiseD (by k_asm) F9 N9 (by assumption) (Ne.symm (hr9 _ (.head _))) (fun p hp => ⟨hre p hp, hrt9 p hp⟩) fun h' R od u => ?_
  refine hexc _ _ _ _ trivial (by k_asm) u ⟨_, _, _, _, R, od, _, _, _, _, _, _, _, _, _, rfl⟩

end
example : True := by
  k_with_none
  trivial
example : True := by
  (k_with "ALL" => exact ltNe' (by assumption) (by omega))
  (k_with "ALL" => exact ltNe (by assumption) (by omega))
  (k_with "ALL" => exact allLtNe (by assumption))
  trivial
example : True := by
  (k_with "call ref" => (k_here; (with_reducible show wpAny _ _ (call (Value.ref 191) [Value.ref _, Value.int _ _]) _ _ _); k_dflt (refine Does.on (by k_asm) (by k_asm) (by k_asm) (by k_asm) (by k_asm) (by rfl) (by ktr_room) (by ktr_units) (pull_does (by k_updF) (by assumption) (by k_mem) (by assumption) (by assumption) (by omega) (by omega)) ?_; k_whole); (rintro r'7 post'7 h'7 tk'7 F'7 N'7 ⟨i'7, t'7, o'7, e1'7, lo'7, hi'7, D'7, e2'7⟩); subst e1'7; subst e2'7; (try dsimp only at N'7); (try dsimp only); (try k_fold); walk_say "PULL"))
  (k_with "exec For Name Call cons nil" => (k_here; (rename Fr _ _ _ _ => lF'7); (with_unfolding_all refine' For_invVF lF'7 ?k1 ?k2 ?_; (case k1 => exact rfl); (case k2 => exact rfl); k_whole)))
  (k_with "pyIter ref" => (k_here; (with_reducible show wpAny _ _ (pyIter (Value.ref _)) (fun it s₂ => LoopAtV _ _ _ _ _ _ _ _ _ it s₂) _ _); refine stop_it ?_))
  trivial
example : True := by
  (k_with "setItem ref int" => (k_here; (with_reducible show wpAny _ _ (setItem (Value.ref _) (Value.int _ _) (Value.int _ _)) _ _ _); k_dflt (refine kdf_setItem (by k_asm) (by k_asm) (by k_updF) (by k_asm) (by k_asm) (by first | assumption | omega) ?_); intro h'7 o'7 kvs'7 F'7 N'7 hd'7 hf'7; (try dsimp only at N'7)))
  trivial
example : True := by
  (k_with "HAS" => first | assumption | (rw [rc_has]; exact decide_eq_true ⟨by first | assumption | omega, by first | exact has_lt (by assumption) (by assumption) | omega⟩))
  (k_with "getItem ref int" => (k_here; k_dflt (refine gi_dict (by k_tabat) (by walk_at "HAS") ?_); intro _))
  (k_with "subscriptTail" => (k_here; (with_reducible show wpAny _ _ (subscriptTail _ _ (Value.ref _) (Value.int _ _)) _ _ _); k_dflt (refine kdf_item (by k_tabat) (by walk_at "HAS") ?_); intro _))
  trivial
example : True := by
  (k_with "compareOp NotIn int ref" => (k_here; (with_reducible show wpAny _ _ (compareOp CmpOp.NotIn (Value.int _ _) (Value.ref _)) _ _ _); k_dflt (refine kdf_notin (by k_tabat) ?_)))
  (k_with "TurnPost" => dsimp only [TurnPost])
  (k_with "eval ListComp" => (k_here; (with_reducible show wpAny _ _ (eval (Expr.ListComp (Expr.Tuple _ _ _) _ _ _) _) _ _ _); k_dflt (refine LCg.ListComp_U (F₀ := by k_asm) (by with_unfolding_all rfl) (by decide) (by rfl) (by decide) (by rfl) ?_)))
  (k_with "CompSrc" => (k_here; (with_reducible show LCg.CompSrc _ _ _ _ _ _ _ (Expr.Tuple _ _ _) _ _ _ _ _ _); refine stop_it ?_))
  (k_with "CompEnd" => ((with_reducible show LCg.CompEnd _ _ _ _ _ _ _ _ _ _ _ (fun y n'7 => TupEl _ _ _ y n'7) _ _); refine tup_end (by k_asm) (by k_asm) (by assumption) (by assumption) (by first | rfl | omega) (by first | rfl | omega) (fun _ => trivial)))
  (k_with "call type:dict" => (k_here; (with_reducible show wpAny _ _ (call (Value.type "dict") [Value.ref _]) _ _ _); k_dflt (refine dict_pairs_K (by rfl) (by k_asm) (by k_asm) (TopRead.nolimit (by k_asm)) (by k_mem) (by assumption) (by simp only [List.length_map, rangeKs_length]; omega) ?_); intro D'7 h'7 o'7 kvs'7 tk'7 F'7 N'7 lo'7 hD'7 hf'7 lt'7))
  trivial
example : True := by
  (k_with "call builtin:sorted" => (k_here; (with_reducible show wpAny _ _ (call (Value.builtin "sorted") [Value.ref _]) _ _ _); k_dflt (refine sorted_rc (by rfl) (by k_asm) (by k_asm) (by k_tabat) (by omega) ?_); intro D'7 h'7 tk'7 vs'7 n'7 F'7 N'7 lt'7 i'7; (try simp only [AllLt, and_true] at lt'7)))
  (k_with "compareOp Eq ref" => (k_here; (with_reducible show wpAny _ _ (compareOp CmpOp.Eq (Value.ref _) (Value.ref _)) _ _ _); k_dflt (refine eq_empty (by k_tabat) (TabAt.ofNews (D := kdfD []) (by k_asm) (by k_mem) (by k_asm) (by k_asm) (by k_asm)) (by ktr_units) ?_)))
  (k_with "HAS" => (rw [rc_has]; exact decide_eq_true (range_mem (by assumption))))
  trivial
example : True := by
  (k_with "USE" => ((case B => k_asm); (case F => k_asm); (case X => k_asm); (case N => k_asm); (case T => k_asm); (case hk => rfl); (case hd => ktr_room); (case hu => ktr_units)))
  (k_with "call type:dict" => (k_here; (with_reducible show wpAny _ _ (call (Value.type "dict") [Value.ref _]) _ _ _); k_dflt (refine dict_copy_K (by k_asm) (by k_asm) (TopRead.nolimit (by k_asm)) (by k_tabat) (by rw [rc_length]; omega) ?_); intro D'7 h'7 o'7 kvs'7 F'7 N'7 lo'7 hD'7 hf'7 lt'7))
  (k_with "call builtin:dict.update" => (k_here; (first | (with_reducible show wpAny _ _ (call (Value.builtin "dict.update") [Value.ref _, Value.ref _]) _ _ _) | (k_dflt (show wpAny _ _ (call (Value.builtin "dict.update") [Value.ref _, Value.ref _]) _ _ _))); k_dflt (refine update_K (by k_asm) (by k_asm) (by k_updF) (by k_asm) (by k_asm) (by k_tabat) (not_of_lt (by assumption) (by k_mem)) (by rw [rc_length, rc_length]; omega) ?_); intro h'7 o'7 kvs'7 F'7 N'7 hD'7 hf'7; (try dsimp only at N'7)))
  trivial
example : True := by
  (k_with "UP" => first | assumption | exact RowIn.mono (by assumption) (by intro p hp; kcf_m))
  (k_with "call ref" => (k_here; (with_reducible show wpAny _ _ (call (Value.ref 208) [Value.ref _, Value.int _ _, Value.int _ _]) _ _ _); k_dflt (refine Does.on (by k_asm) (by k_asm) (by k_asm) (by k_asm) (by k_asm) (by rfl) (by ktr_room) (by ktr_units) (part_does (by walk_at "UP") (by omega) (by omega) (by omega) (by omega) (by omega)) ?_; k_whole); (rintro r'7 post'7 h'7 tk'7 F'7 N'7 ⟨tl'7, e'7, hR'7⟩; subst e'7); (try dsimp only); (try k_fold); walk_say "PART"))
  (k_with "call ref" => (k_here; (with_reducible show wpAny _ _ (call (Value.ref 213) [Value.ref _, Value.int _ _, Value.int _ _]) _ _ _); k_dflt (refine Does.on (by k_asm) (by k_asm) (by k_asm) (by k_asm) (by k_asm) (by rfl) (by ktr_room) (by ktr_units) (moved_does (by walk_at "UP") (by omega) (by omega) (by omega) (by omega) (by omega)) ?_; k_whole); (rintro r'7 post'7 h'7 tk'7 F'7 N'7 ⟨tl'7, e'7, hR'7⟩; subst e'7); (try dsimp only); (try k_fold); walk_say "MOVED"))
  (k_with "call ref" => (k_here; (with_reducible show wpAny _ _ (call (Value.ref 225) _) _ _ _); k_dflt (refine Does.on (by k_asm) (by k_asm) (by k_asm) (by k_asm) (by k_asm) (by rfl) (by ktr_room) (by ktr_units) (given_does (by walk_at "UP") (by omega) (by omega) (by omega) (by omega) (by omega) (by omega) (by omega) (by omega)) ?_; k_whole); (rintro r'7 post'7 h'7 tk'7 F'7 N'7 ⟨tl'7, e'7, hR'7⟩; subst e'7); (try dsimp only); (try k_fold); walk_say "GIVEN"))
  (k_with "call ref" => (k_here; (with_reducible show wpAny _ _ (call (Value.ref 218) _) _ _ _); refine stop_it ?_))
  (k_with "subscriptTail" => (k_here; (with_reducible show wpAny _ _ (subscriptTail _ (Expr.Constant _ _ _) (Value.ref _) (Value.int _ _)) _ _ _); k_dflt (refine item_M (by k_asm) (by k_mem) (by decide) (by decide) (by rfl) ?_)))
  (k_with "eval Dict cons cons" => (k_here; k_dflt (refine kdn_eval (knd := PySem.intKind _ _) (by k_asm) (by k_asm) (TopRead.nolimit (by k_asm)) (by rfl) (by rfl) (by intro e; cases e) (by decide) ?_); intro d'7 h'7 o'7 F'7 N'7 l1 lo'7 hd'7; (try k_lt l1)))
  trivial
example : True := by
  (k_with "call ref" => (k_here; (with_reducible show wpAny _ _ (call (Value.ref 129) [Value.str _ _]) _ _ _); k_dflt (refine DoesE.on (by k_asm) (by k_asm) (by k_asm) (by k_asm) (by k_asm) (by rfl) (by ktr_room) (by ktr_units) raise_does (by intro _ _ _ _ _ _ h; exact h.elim) ?_; k_whole); (intro g'7 e'7 h'7 tk'7 _ F'7 U'7 R'7); walk_say "RAISE"))
  (k_with "leaving ref" => (k_here; k_dflt (refine leave_onD (by k_asm) (by k_asm) (by assumption) (by assumption) ?_; k_whole); (intro h'7 R'7 U'7); (try dsimp only)))
  trivial
section
/-- a place that is a slice -/
def PlaceIn (led : Led) (r v : Value) (off a b : Int) : Prop :=
  ∃ (pl bd : Addr) (ts t1 t2 t3 : Tok) (n1 n2 : Nat), r = .ref pl ∧ (pl, ({ cls := .type "tuple", data := .seq #[.str (Str.ofString "slice") ts, v, .int off t1, .ref bd] n1 } : Obj)) ∈ led ∧
    (bd, ({ cls := .type "tuple", data := .seq #[.int a t2, .int b t3] n2 } : Obj)) ∈ led
set_option maxRecDepth 100000 in
set_option maxHeartbeats 1000000 in
theorem slice_place_does {w : World} {mean : ExcName → Option Value} {mg mb : Str → Option Value} {v : Value} {lo : Int} {xs : List Int} {il : Addr} {a b : Int} {ta tb : Tok} {news : Led}
   (R : ValIn w news v lo xs il) (hl : xs.length ≤ 40) (hb : -1000 ≤ lo ∧ lo ≤ 1000) (hab : a - 1 ≤ b) (hba : b ≤ a + 40) (ha : -1000 ≤ a ∧ a ≤ 1000) :
   DoesE 40 w mean mg mb 157 [v, .int a ta, .int b tb] news (fun r post => ∃ tl, post = tl ++ news ∧ PlaceIn post r v (if b < a then 0 else a - lo) a b ∧ (b < a ∨ lo ≤ a ∧ b < lo + xs.length)) (¬ (b < a ∨ lo ≤ a ∧ b < lo + xs.length)) := by
  refine ValIn.elim R ?_
  clear R
  intro x dx bl tp vs hi k1 k2 t t' n1 n2 n3 n4 hx hdx hbl htp ehi hil hI _
  unfold DoesE
  k_fill
  intro dp un gd cn cs' ac ccd cl outer A₀ base h₀ L m s Q E B F X N T hk hd' hu hret hexc
  refine wpAny_call ?_
  obtain ⟨ck, cnm, cg, cco, cmo⟩ := cs'
  dsimp only at hk
  subst hk
  k_dflt k_enter
  k_steps
  · rename Fr h₀ L _ _ => F9
    rename News h₀ L _ _ => N9
    refine hret _ _ _ _ F9 N9 ⟨[_, _], rfl, ?_, .inl (by assumption)⟩
    rw [if_pos (by assumption)]
    exact ⟨_, _, _, _, _, _, _, _, rfl, .head _, .tail _ (.head _)⟩
  · exact hexc _ _ _ _ (by omega) (by k_asm) (by assumption) (by assumption)
  · exact hexc _ _ _ _ (by omega) (by k_asm) (by assumption) (by assumption)
  · rename Fr h₀ L _ _ => F9
    rename News h₀ L _ _ => N9
    refine hret _ _ _ _ F9 N9 ⟨[_, _], rfl, ?_, by omega⟩
    rw [if_neg (by assumption)]
    exact ⟨_, _, _, _, _, _, _, _, rfl, .head _, .tail _ (.head _)⟩

end
example : True := by
  (k_with "UPV" => first | assumption | exact ValIn.mono (by assumption) (by intro p hp; kcf_m))
  (k_with "call ref" => (k_here; (with_reducible show wpAny _ _ (call (Value.ref 157) [Value.ref _, Value.int _ _, Value.int _ _]) _ _ _); refine stop_it ?_))
  trivial
section
set_option maxRecDepth 100000 in
set_option maxHeartbeats 1000000 in
theorem copy_int_does {w : World} {mean : ExcName → Option Value} {mg mb : Str → Option Value} {i : Int} {t : Tok} {news : Led} :
   Does 12 w mean mg mb 100 [.int i t] news (fun r post => r = .int i t ∧ post = news) := by
  unfold Does
  k_fill
  intro dp un gd cn cs' ac ccd cl outer A₀ base h₀ L m s Q E B F X N T hk hd' hu hret
  refine wpAny_call ?_
  obtain ⟨ck, cnm, cg, cco, cmo⟩ := cs'
  dsimp only at hk
  subst hk
  k_dflt k_enter
  k_steps
  rename Fr h₀ L _ _ => F9
  rename News h₀ L _ _ => N9
  exact hret _ _ _ _ F9 N9 ⟨rfl, rfl⟩
section
variable {prog : Program} {w : World} {A : Around} {E : Value → Shared → Prop} {s : Shared} {h₀ : Heap} {L : Addr} {m : Str → Option Value} {env : Env} {elt : PySem.Expr} {x : Str} {scope : Scope} {cl : List (Str × Addr)} {news : Led}
/-- a list built member by member from a list of ints, each as it is -/
theorem copy_src {ax : Addr} {vs : List Value} {xs : List Int} {k : Nat} {Q : Value → Shared → Prop} (hh : A.handled = none) (F : Fr h₀ L s.heap m) (N : News h₀ L s.heap news) (hm : (ax, listOf vs.toArray k) ∈ news) (hI : IntsAre vs xs) (hsz : xs.length ≤ 1000)
    (turn : ∀ (s' : Shared) (i : Int) (t : Tok) (I : Addr) (oI : Obj) (C : Addr) (oC : Obj) (D : Addr) (m₂ : Str → Option Value) (ys : List Value) (h : Heap) (tk : Nat) (E' : Value → Shared → Prop), LCg.NsObj oC m₂ → m₂ x = some (.int i t) → Fr h₀ L h m → News h₀ L h ((I, oI) :: (C, oC) :: (D, LCg.lst ys) :: news) → LCg.Off3 I C D news → (I ≠ C ∧ I ≠ D ∧ C ≠ D) →
      wpAny (model prog w) A (eval elt (compEnvC scope cl C env)) (LCg.CompEnd h₀ L m { s' with heap := h, toks := tk } I oI C oC D (LCg.lst ys) (LCg.SrcAt h₀ ax vs.toArray) (fun y news' => KCfEl news i y news')) E' { s' with heap := h, toks := tk })
    (fin : ∀ (ys : List Value) (D : Addr) (h : Heap) (tk : Nat), IntsAre ys xs → Fr h₀ L h m → News h₀ L h ((D, LCg.lst ys) :: news) → LCg.Off1 D news → Q (.ref D) { s with heap := h, toks := tk }) :
    LCg.CompSrc prog w A h₀ L m env elt x scope cl (fun s₂ => LCg.FinE h₀ L m s₂ Q) (.ref ax) s := by
  refine LCg.CompSrc.ledger hh F N hm (by rw [List.size_toArray, sizeLine_eq]; have := hI.length; omega) fun g => ?_
  refine kcf_list (fun k => k) hI (fun k t I oI C oC D m₂ ys h tk E' _ hC hx F N off ne _ => turn { s with heap := g } k t I oI C oC D m₂ ys h tk E' hC hx F N off ne) fun ys hys => ?_
  rw [List.map_id'] at hys
  exact fun D h tk F N o => fin ys D h tk hys F N o
theorem copy_srcA {ax : Addr} {vs : List Value} {xs : List Int} {k : Nat} {y : Str} {Q : Flow → Shared → Prop} (hh : A.handled = none) (F : Fr h₀ L s.heap m) (N : News h₀ L s.heap news) (hm : (ax, listOf vs.toArray k) ∈ news) (hI : IntsAre vs xs) (hsz : xs.length ≤ 1000)
    (turn : ∀ (s' : Shared) (i : Int) (t : Tok) (I : Addr) (oI : Obj) (C : Addr) (oC : Obj) (D : Addr) (m₂ : Str → Option Value) (ys : List Value) (h : Heap) (tk : Nat) (E' : Value → Shared → Prop), LCg.NsObj oC m₂ → m₂ x = some (.int i t) → Fr h₀ L h m → News h₀ L h ((I, oI) :: (C, oC) :: (D, LCg.lst ys) :: news) → LCg.Off3 I C D news → (I ≠ C ∧ I ≠ D ∧ C ≠ D) →
      wpAny (model prog w) A (eval elt (compEnvC scope cl C env)) (LCg.CompEnd h₀ L m { s' with heap := h, toks := tk } I oI C oC D (LCg.lst ys) (LCg.SrcAt h₀ ax vs.toArray) (fun y news' => KCfEl news i y news')) E' { s' with heap := h, toks := tk })
    (fin : ∀ (ys : List Value) (D : Addr) (h : Heap) (tk : Nat), IntsAre ys xs → Fr h₀ L h (fun z => if z = y then some (.ref D) else m z) → News h₀ L h ((D, LCg.lst ys) :: news) → LCg.Off1 D news → Q .next { s with heap := h, toks := tk }) :
    LCg.CompSrc prog w A h₀ L m env elt x scope cl (fun s₂ => LCg.FinA h₀ L m s₂ y Q) (.ref ax) s := by
  refine LCg.CompSrc.ledger hh F N hm (by rw [List.size_toArray, sizeLine_eq]; have := hI.length; omega) fun g => ?_
  refine kcf_list (fun k => k) hI (fun k t I oI C oC D m₂ ys h tk E' _ hC hx F N off ne _ => turn { s with heap := g } k t I oI C oC D m₂ ys h tk E' hC hx F N off ne) fun ys hys => ?_
  rw [List.map_id'] at hys
  exact fun D h tk F N o => fin ys D h tk hys F N o
end

end
example : True := by
  (k_with "eval ListComp" => (k_here; (with_reducible show wpAny _ _ (eval (Expr.ListComp (Expr.Call _ _ _ _) _ _ _) _) _ _ _); k_dflt (refine LCg.ListComp_U (F₀ := by k_asm) (by with_unfolding_all rfl) (by decide) (by rfl) (by decide) (by rfl) ?_)))
  (k_with "CompSrc" => (k_here; (with_reducible show LCg.CompSrc _ _ _ _ _ _ _ (Expr.Call _ _ _ _) _ _ _ _ _ _); refine stop_it ?_))
  (k_with "call ref" => (k_here; (with_reducible show wpAny _ _ (call (Value.ref 100) [Value.int _ _]) _ _ _); k_dflt (refine Does.on (by k_asm) (by k_asm) (by k_asm) (by k_asm) (by k_asm) (by rfl) (by ktr_room) (by ktr_units) copy_int_does ?_; k_whole); (intro r'7 post'7 h'7 tk'7 F'7 N'7 hh'7; obtain ⟨e1'7, e2'7⟩ := hh'7; subst e1'7; subst e2'7); (try dsimp only); (try k_fold); walk_say "COPY"))
  (k_with "exec Assign cons ListComp" => (k_here; (with_reducible show wpAny _ _ (exec (Stmt.Assign _ (Expr.ListComp (Expr.Call _ _ _ _) _ _ _) _) _) _ _ _); k_dflt (refine LCg.Assign_ListComp_U (F₀ := by k_asm) (by rfl) (by with_unfolding_all rfl) (by with_unfolding_all rfl) (by decide) (by rfl) (by decide) (by rfl) (by rfl) (by rfl) ?_)))
  trivial
section
theorem part_take {lo a b : Int} {xs : List Int} (h : b < a ∨ lo ≤ a ∧ b < lo + xs.length) (hab : a - 1 ≤ b) :
    ∃ p, partR lo xs a b = some p ∧ p.1 = a ∧ b = a + p.2.length - 1 ∧
      List.take (min ((if b < a then 0 else a - lo) + if 0 > b - a + 1 then 0 else b - a + 1).toNat xs.length - (if b < a then 0 else a - lo).toNat) (List.drop (if b < a then 0 else a - lo).toNat xs) = p.2 := by
  by_cases hba : b < a
  · refine ⟨(a, []), by rw [partR, if_pos hba], rfl, by simp; omega, ?_⟩
    rw [if_pos hba, if_neg (by omega), show (0 + (b - a + 1)).toNat = 0 by omega]
    simp
  · obtain ⟨h1, h2⟩ := h.resolve_left hba
    have e0 : (b + 1 - a).toNat ≤ xs.length - (a - lo).toNat := by omega
    refine ⟨_, by rw [partR, if_neg hba, if_pos ⟨h1, h2⟩], rfl, ?_, ?_⟩
    · show b = a + ((List.take (b + 1 - a).toNat (List.drop (a - lo).toNat xs)).length : Int) - 1
      rw [List.length_take, List.length_drop, Nat.min_eq_left e0]
      clear h2 e0
      omega
    rw [if_neg hba, if_neg (by omega), show (a - lo + (b - a + 1)).toNat = (a - lo).toNat + (b + 1 - a).toNat by clear h2 e0; omega, Nat.min_eq_left (by omega), Nat.add_sub_cancel_left]

set_option maxRecDepth 100000 in
set_option maxHeartbeats 1000000 in
theorem slice_value_does {w : World} {mean : ExcName → Option Value} {mg mb : Str → Option Value} {v : Value} {lo : Int} {xs : List Int} {il : Addr} {a b : Int} {ta tb : Tok} {news : Led}
   (R : ValIn w news v lo xs il) (hl : xs.length ≤ 40) (hb : -1000 ≤ lo ∧ lo ≤ 1000) (hab : a - 1 ≤ b) (hba : b ≤ a + 40) (ha : -1000 ≤ a ∧ a ≤ 1000) :
   DoesE 60 w mean mg mb 162 [v, .int a ta, .int b tb] news (fun r post => ∃ p il' tl, partR lo xs a b = some p ∧ ValIn w post r p.1 p.2 il' ∧ post = tl ++ news ∧ ∀ p ∈ news, p.1 ≠ il') (partR lo xs a b = none) := by
  refine ValIn.elim R ?_
  clear R
  intro x dx bl tp vs hi k1 k2 t t' n1 n2 n3 n4 hx hdx hbl htp ehi hil hI R0
  unfold DoesE
  k_fill
  intro dp un gd cn cs' ac ccd cl outer A₀ base h₀ L m s Q E B F X N T hk hd' hu hret hexc
  refine wpAny_call ?_
  obtain ⟨ck, cnm, cg, cco, cmo⟩ := cs'
  dsimp only at hk
  subst hk
  k_dflt k_enter
  k_steps
  show wpAny _ _ (call _ _) _ _ _
  k_dflt (refine' DoesE.use (slice_place_does ?R ?hl ?hb ?hab ?hba ?ha) ?B ?F ?X ?N ?T ?hk ?hd ?hu ?r ?e; walk_at "USE"; (case R => walk_at "UPV"); (case hl => omega); (case hb => omega); (case hab => omega); (case hba => omega); (case ha => omega))
  case' r => (rintro r' post' h' tk' F' N' ⟨tl', e', ⟨pl', bd', ts', t1', t2', t3', n1', n2', e2', hpl', hbd'⟩, hB'⟩; subst e'; subst e2'; (try dsimp only); (try k_fold))
  case' e => (intro g' e' h' tk' hB' F' U' R')
  · k_steps
    exact hexc _ _ _ _ (by rw [partR, if_neg (by omega), if_neg (by omega)]) (by k_asm) (by assumption) (by assumption)
  · have hx2 := List.mem_append_right tl' hx
    have hdx2 := List.mem_append_right tl' hdx
    have hil2 := List.mem_append_right tl' hil
    k_steps
    show LCg.CompSrc _ _ _ _ _ _ _ _ _ _ _ _ _ _
    rename Fr _ _ _ _ => F2
    rename News _ _ _ _ => N2
    rename IntsAre _ _ => hI2
    refine copy_src (by rfl) F2 N2 (.head _) hI2 (by first | exact cut_small hl | (simp only [List.length_take]; omega)) ?_ ?_
    · intro s' k t I oI C oC D m₂ ys h tk E' hC hx F₂ N₂ off ne
      k_steps
      exact ⟨rfl, _, rfl⟩
    · intro ys D h tk hI3 F3 N3 o3
      k_steps
      rename Fr h₀ L _ _ => F9
      rename News h₀ L _ _ => N9
      obtain ⟨p, hp1, hp2, hp3, hp4⟩ := part_take hB' hab
      rw [hp4] at hI3
      subst hp2
      refine hret _ _ _ _ F9 N9 ⟨p, _, _ :: _ :: _ :: _ :: _ :: _ :: tl', hp1, ValIn.mk (.head _) (.tail _ (.head _)) (by kcf_m) (by kcf_m) hp3 (.tail _ (.tail _ (.head _))) hI3, rfl, ?_⟩
      intro q hq
      exact off1_mem o3 q (by kcf_m)

end
example : True := by
  (k_with "eval ListComp" => (k_here; (with_reducible show wpAny _ _ (eval (Expr.ListComp _ [⟨Expr.Tuple _ _ _, _, _, _⟩] _ _) _) _ _ _); k_dflt (refine LCp.ListComp_P (F₀ := by k_asm) (by with_unfolding_all rfl) (by decide) (by rfl) (by decide) (by rfl) (by rfl) (by decide) ?_); walk_say "PAIRS"))
  (k_with "SrcLP" => (k_here; walk_say "SRC"; k_dflt (refine LCp.SrcLP.ledger (by rfl) (by k_asm) (by k_asm) (by k_mem) (by first | size_fits | exact Nat.le_of_ble_eq_true rfl) ?_; intro g'7; lcp_lit)))
  (k_with "CompEnd" => (k_here; (with_reducible show LCg.CompEnd _ _ _ _ _ _ _ _ _ _ _ (fun _ _ => LCp.CompRestP _ _ _ _ _ _ _ _ _ _ _ _ _ _ _ _ _ _ _ _) _ _); refine ⟨_, _, _, rfl, (by k_asm), (by assumption), (by assumption), Or.inr ⟨_, (by k_mem), rfl, _, rfl⟩, ?_⟩; walk_say "PEND"))
  trivial
section
theorem Flies.mono {w : World} {base G : Heap} {k : List Env} {e : Addr} {l l' : Led} {h : Heap} (R : Flies w base G k e l h) (hs : ∀ p ∈ l', p ∈ l) : Flies w base G k e l' h := by
  obtain ⟨t, vs, dd, od, ⟨⟨B, b1, b2, b3, b4, b5⟩, ht⟩, hd, W⟩ := R
  exact ⟨t, vs, dd, od, ⟨⟨B, b1, b2, fun q hq => b3 q ((List.mem_cons.mp hq).elim (fun e => e ▸ .head _) fun h => .tail _ (hs q h)), b4, b5⟩, ht⟩, hd, W⟩
set_option maxRecDepth 100000 in
set_option maxHeartbeats 600000 in
theorem check_does {w : World} {mean : ExcName → Option Value} {mg mb : Str → Option Value} {v : Value} {lo : Int} {xs : List Int} {il l2 q2 : Addr} {c d : Int} {tc td : Tok} {n2 n3 : Nat} {news : Led}
   (R : ValIn w news v lo xs il) (hl2 : (l2, listOf #[.ref q2] n2) ∈ news) (hq2 : (q2, ({ cls := .type "tuple", data := .seq #[.int c tc, .int d td] n3 } : Obj)) ∈ news)
   (hl : xs.length ≤ 40) (hb : -1000 ≤ lo ∧ lo ≤ 1000) (hc : -2000 ≤ c ∧ c ≤ 2000) (hcd : c - 1 ≤ d) (hdc : d ≤ c + 100) :
   DoesE 60 w mean mg mb 167 [v, .ref l2] news (fun r post => r = .none ∧ (∃ tl, post = tl ++ news) ∧ (xs.length : Int) = d - c + 1) (¬ ((xs.length : Int) = d - c + 1)) := by
  refine ValIn.elim R ?_
  clear R
  intro x dx bl tp vs hi k1 k2 t t' n1 n2 n3 n4 hx hdx hbl htp ehi hil hI R0
  unfold DoesE
  k_fill
  intro dp un gd cn cs' ac ccd cl outer A₀ base h₀ L m s Q E B F X N T hk hd' hu hret hexc
  refine wpAny_call ?_
  obtain ⟨ck, cnm, cg, cco, cmo⟩ := cs'
  dsimp only at hk
  subst hk
  k_dflt k_enter
  k_steps
  · rename Fr h₀ L _ _ => F9
    rename News h₀ L _ _ => N9
    rename [_] = [_] => e9
    rw [List.cons.injEq] at e9
    have e8 := e9.1
    refine hret _ _ _ _ F9 N9 ⟨rfl, ⟨[_, _], rfl⟩, ?_⟩
    split at e8 <;> split at e8 <;> omega
  · rename ¬ ([_] = [_]) => e9
    rename Flies _ _ _ _ _ _ _ => R9
    refine hexc _ _ _ _ ?_ (by k_asm) (by assumption) (R9.mono fun p hp => .tail _ (.tail _ hp))
    rw [List.cons.injEq] at e9
    intro e8
    apply e9
    refine ⟨?_, rfl⟩
    split <;> split <;> omega

end
section
set_option maxRecDepth 100000 in
set_option maxHeartbeats 1000000 in
theorem one_does {w : World} {mean : ExcName → Option Value} {mg mb : Str → Option Value} {i lo : Int} {ti tl : Tok} {news : Led} :
   Does 30 w mean mg mb 179 [.int i ti, .int lo tl] news (fun r post => ∃ il tl, ValIn w post r lo [i] il ∧ post = tl ++ news ∧ ∀ p ∈ news, p.1 ≠ il) := by
  unfold Does
  k_fill
  intro dp un gd cn cs' ac ccd cl outer A₀ base h₀ L m s Q E B F X N T hk hd' hu hret
  refine wpAny_call ?_
  obtain ⟨ck, cnm, cg, cco, cmo⟩ := cs'
  dsimp only at hk
  subst hk
  k_dflt k_enter
  k_steps
  rename Fr h₀ L _ _ => F9
  rename News h₀ L _ _ => N9
  refine hret _ _ _ _ F9 N9 ⟨_, [_, _, _, _, _], ValIn.mk (.head _) (.tail _ (.head _)) (by kcf_m) (by kcf_m) (by simp) (.tail _ (.tail _ (.head _))) (.cons _ _ .nil), rfl, ?_⟩
  rename _ < _ ∧ _ < _ ∧ AllLt _ news => l8
  exact allLtNe l8.2.2

end
section
example : True := by
  (k_with "subscriptTail" => (k_here; (with_reducible show wpAny _ _ (subscriptTail _ (Expr.Name _ _) (Value.ref _) (Value.int 0 _)) _ _ _); k_dflt (refine item_M (by k_asm) (by k_mem) (by decide) (by decide) (by rfl) ?_)))
  trivial
set_option maxRecDepth 100000 in
set_option maxHeartbeats 1000000 in
theorem get_does {w : World} {mean : ExcName → Option Value} {mg mb : Str → Option Value} {v : Value} {lo : Int} {xs : List Int} {il l2 : Addr} {a : Int} {ta : Tok} {n2 : Nat} {news : Led}
   (R : ValIn w news v lo xs il) (hl2 : (l2, listOf #[.int a ta] n2) ∈ news)
   (hl : xs.length ≤ 40) (hb : -1000 ≤ lo ∧ lo ≤ 1000) (ha : -2000 ≤ a ∧ a ≤ 2000) :
   DoesE 60 w mean mg mb 150 [v, .ref l2] news (fun r post => (∃ t, r = .int (xs.getD (a - lo).toNat 0) t) ∧ (∃ tl, post = tl ++ news) ∧ lo ≤ a ∧ a < lo + xs.length) (¬ (lo ≤ a ∧ a < lo + xs.length)) := by
  refine ValIn.elim R ?_
  clear R
  intro x dx bl tp vs hi k1 k2 t t' n1 n2 n3 n4 hx hdx hbl htp ehi hil hI R0
  unfold DoesE
  k_fill
  intro dp un gd cn cs' ac ccd cl outer A₀ base h₀ L m s Q E B F X N T hk hd' hu hret hexc
  refine wpAny_call ?_
  obtain ⟨ck, cnm, cg, cco, cmo⟩ := cs'
  dsimp only at hk
  subst hk
  k_dflt k_enter
  k_steps
  show wpAny _ _ (pyIter _) _ _ _
  rename IsRange _ _ _ _ _ _ _ _ => hR
  rename Fr _ _ _ _ => hFr
  rename News _ _ _ _ => hN
  refine range_J (fun i m nw => nw = _ ∧ (i = 0 → m = _) ∧ (i = 1 → ∃ (t : Tok) (g : Str → Option Value), lo ≤ a ∧ a < lo + xs.length ∧ m = fun y => if y = Str.ofString "offset" then some (.int (a - lo) t) else g y)) rfl hR (by decide) (rangeSize_nat 0 1) hFr hN ⟨rfl, fun _ => rfl, by intro h; cases h⟩ ?_ ?_
  · rintro i tt m₁ news₁ h tk own hi' ⟨rfl, hm0, -⟩ hoff F₁ N₁
    have ei : i = 0 := by simp at hi'; omega
    have em := hm0 ei
    subst em
    subst ei
    rw [show ((0 : Int) + ((0 : Nat) : Int)) = 0 from rfl] at F₁
    k_steps
    · rename Fr _ _ _ _ => F9
      rename News _ _ _ _ => N9
      rw [Int.zero_mul, Int.zero_add] at F9
      exact ⟨_, _, _, _, rfl, F9, N9, hoff, rfl, (by intro h; cases h), fun _ => ⟨_, _, by omega, by omega, rfl⟩⟩
    · rename Flies _ _ _ _ _ _ _ => R9
      exact hexc _ _ _ _ (by omega) (by k_asm) (by assumption) (R9.mono fun p hp => List.mem_append_left _ hp)
    · rename Flies _ _ _ _ _ _ _ => R9
      exact hexc _ _ _ _ (by omega) (by k_asm) (by assumption) (R9.mono fun p hp => List.mem_append_left _ hp)
  · rintro m₁ news₁ h tk ⟨rfl, -, hm⟩ F₁ N₁
    obtain ⟨t9, g9, hlo, hhi, rfl⟩ := hm (by simp)
    k_steps
    rename Fr h₀ L _ _ => F9
    rename News h₀ L _ _ => N9
    exact hret _ _ _ _ F9 N9 ⟨⟨_, rfl⟩, ⟨[], rfl⟩, hlo, hhi⟩

end
example : True := by
  k_with_none
  trivial
example : True := by
  (k_with "ALL" => exact ltNe' (by assumption) (by omega))
  (k_with "ALL" => exact ltNe (by assumption) (by omega))
  (k_with "ALL" => exact allLtNe (by assumption))
  trivial
example : True := by
  (k_with "call ref" => (k_here; (with_reducible show wpAny _ _ (call (Value.ref 191) [Value.ref _, Value.int _ _]) _ _ _); k_dflt (refine Does.on (by k_asm) (by k_asm) (by k_asm) (by k_asm) (by k_asm) (by rfl) (by ktr_room) (by ktr_units) (pull_does (by k_updF) (by assumption) (by k_mem) (by assumption) (by assumption) (by omega) (by omega)) ?_; k_whole); (rintro r'7 post'7 h'7 tk'7 F'7 N'7 ⟨i'7, t'7, o'7, e1'7, lo'7, hi'7, D'7, e2'7⟩); subst e1'7; subst e2'7; (try dsimp only at N'7); (try dsimp only); (try k_fold); walk_say "PULL"))
  (k_with "exec For Name Call cons nil" => (k_here; (rename Fr _ _ _ _ => lF'7); (with_unfolding_all refine' For_invVF lF'7 ?k1 ?k2 ?_; (case k1 => exact rfl); (case k2 => exact rfl); k_whole)))
  (k_with "pyIter ref" => (k_here; (with_reducible show wpAny _ _ (pyIter (Value.ref _)) (fun it s₂ => LoopAtV _ _ _ _ _ _ _ _ _ it s₂) _ _); refine stop_it ?_))
  trivial
example : True := by
  (k_with "setItem ref int" => (k_here; (with_reducible show wpAny _ _ (setItem (Value.ref _) (Value.int _ _) (Value.int _ _)) _ _ _); k_dflt (refine kdf_setItem (by k_asm) (by k_asm) (by k_updF) (by k_asm) (by k_asm) (by first | assumption | omega) ?_); intro h'7 o'7 kvs'7 F'7 N'7 hd'7 hf'7; (try dsimp only at N'7)))
  trivial
example : True := by
  (k_with "HAS" => first | assumption | (rw [rc_has]; exact decide_eq_true ⟨by first | assumption | omega, by first | exact has_lt (by assumption) (by assumption) | omega⟩))
  (k_with "getItem ref int" => (k_here; k_dflt (refine gi_dict (by k_tabat) (by walk_at "HAS") ?_); intro _))
  (k_with "subscriptTail" => (k_here; (with_reducible show wpAny _ _ (subscriptTail _ _ (Value.ref _) (Value.int _ _)) _ _ _); k_dflt (refine kdf_item (by k_tabat) (by walk_at "HAS") ?_); intro _))
  trivial
example : True := by
  (k_with "compareOp NotIn int ref" => (k_here; (with_reducible show wpAny _ _ (compareOp CmpOp.NotIn (Value.int _ _) (Value.ref _)) _ _ _); k_dflt (refine kdf_notin (by k_tabat) ?_)))
  (k_with "TurnPost" => dsimp only [TurnPost])
  (k_with "eval ListComp" => (k_here; (with_reducible show wpAny _ _ (eval (Expr.ListComp (Expr.Tuple _ _ _) _ _ _) _) _ _ _); k_dflt (refine LCg.ListComp_U (F₀ := by k_asm) (by with_unfolding_all rfl) (by decide) (by rfl) (by decide) (by rfl) ?_)))
  (k_with "CompSrc" => (k_here; (with_reducible show LCg.CompSrc _ _ _ _ _ _ _ (Expr.Tuple _ _ _) _ _ _ _ _ _); refine stop_it ?_))
  (k_with "CompEnd" => ((with_reducible show LCg.CompEnd _ _ _ _ _ _ _ _ _ _ _ (fun y n'7 => TupEl _ _ _ y n'7) _ _); refine tup_end (by k_asm) (by k_asm) (by assumption) (by assumption) (by first | rfl | omega) (by first | rfl | omega) (fun _ => trivial)))
  (k_with "call type:dict" => (k_here; (with_reducible show wpAny _ _ (call (Value.type "dict") [Value.ref _]) _ _ _); k_dflt (refine dict_pairs_K (by rfl) (by k_asm) (by k_asm) (TopRead.nolimit (by k_asm)) (by k_mem) (by assumption) (by simp only [List.length_map, rangeKs_length]; omega) ?_); intro D'7 h'7 o'7 kvs'7 tk'7 F'7 N'7 lo'7 hD'7 hf'7 lt'7))
  trivial
example : True := by
  (k_with "call builtin:sorted" => (k_here; (with_reducible show wpAny _ _ (call (Value.builtin "sorted") [Value.ref _]) _ _ _); k_dflt (refine sorted_rc (by rfl) (by k_asm) (by k_asm) (by k_tabat) (by omega) ?_); intro D'7 h'7 tk'7 vs'7 n'7 F'7 N'7 lt'7 i'7; (try simp only [AllLt, and_true] at lt'7)))
  (k_with "compareOp Eq ref" => (k_here; (with_reducible show wpAny _ _ (compareOp CmpOp.Eq (Value.ref _) (Value.ref _)) _ _ _); k_dflt (refine eq_empty (by k_tabat) (TabAt.ofNews (D := kdfD []) (by k_asm) (by k_mem) (by k_asm) (by k_asm) (by k_asm)) (by ktr_units) ?_)))
  (k_with "HAS" => (rw [rc_has]; exact decide_eq_true (range_mem (by assumption))))
  trivial
example : True := by
  (k_with "USE" => ((case B => k_asm); (case F => k_asm); (case X => k_asm); (case N => k_asm); (case T => k_asm); (case hk => rfl); (case hd => ktr_room); (case hu => ktr_units)))
  (k_with "call type:dict" => (k_here; (with_reducible show wpAny _ _ (call (Value.type "dict") [Value.ref _]) _ _ _); k_dflt (refine dict_copy_K (by k_asm) (by k_asm) (TopRead.nolimit (by k_asm)) (by k_tabat) (by rw [rc_length]; omega) ?_); intro D'7 h'7 o'7 kvs'7 F'7 N'7 lo'7 hD'7 hf'7 lt'7))
  (k_with "call builtin:dict.update" => (k_here; (first | (with_reducible show wpAny _ _ (call (Value.builtin "dict.update") [Value.ref _, Value.ref _]) _ _ _) | (k_dflt (show wpAny _ _ (call (Value.builtin "dict.update") [Value.ref _, Value.ref _]) _ _ _))); k_dflt (refine update_K (by k_asm) (by k_asm) (by k_updF) (by k_asm) (by k_asm) (by k_tabat) (not_of_lt (by assumption) (by k_mem)) (by rw [rc_length, rc_length]; omega) ?_); intro h'7 o'7 kvs'7 F'7 N'7 hD'7 hf'7; (try dsimp only at N'7)))
  trivial
example : True := by
  (k_with "UP" => first | assumption | exact RowIn.mono (by assumption) (by intro p hp; kcf_m))
  (k_with "call ref" => (k_here; (with_reducible show wpAny _ _ (call (Value.ref 208) [Value.ref _, Value.int _ _, Value.int _ _]) _ _ _); k_dflt (refine Does.on (by k_asm) (by k_asm) (by k_asm) (by k_asm) (by k_asm) (by rfl) (by ktr_room) (by ktr_units) (part_does (by walk_at "UP") (by omega) (by omega) (by omega) (by omega) (by omega)) ?_; k_whole); (rintro r'7 post'7 h'7 tk'7 F'7 N'7 ⟨tl'7, e'7, hR'7⟩; subst e'7); (try dsimp only); (try k_fold); walk_say "PART"))
  (k_with "call ref" => (k_here; (with_reducible show wpAny _ _ (call (Value.ref 213) [Value.ref _, Value.int _ _, Value.int _ _]) _ _ _); k_dflt (refine Does.on (by k_asm) (by k_asm) (by k_asm) (by k_asm) (by k_asm) (by rfl) (by ktr_room) (by ktr_units) (moved_does (by walk_at "UP") (by omega) (by omega) (by omega) (by omega) (by omega)) ?_; k_whole); (rintro r'7 post'7 h'7 tk'7 F'7 N'7 ⟨tl'7, e'7, hR'7⟩; subst e'7); (try dsimp only); (try k_fold); walk_say "MOVED"))
  (k_with "call ref" => (k_here; (with_reducible show wpAny _ _ (call (Value.ref 225) _) _ _ _); k_dflt (refine Does.on (by k_asm) (by k_asm) (by k_asm) (by k_asm) (by k_asm) (by rfl) (by ktr_room) (by ktr_units) (given_does (by walk_at "UP") (by omega) (by omega) (by omega) (by omega) (by omega) (by omega) (by omega) (by omega)) ?_; k_whole); (rintro r'7 post'7 h'7 tk'7 F'7 N'7 ⟨tl'7, e'7, hR'7⟩; subst e'7); (try dsimp only); (try k_fold); walk_say "GIVEN"))
  (k_with "call ref" => (k_here; (with_reducible show wpAny _ _ (call (Value.ref 218) _) _ _ _); refine stop_it ?_))
  (k_with "subscriptTail" => (k_here; (with_reducible show wpAny _ _ (subscriptTail _ (Expr.Constant _ _ _) (Value.ref _) (Value.int _ _)) _ _ _); k_dflt (refine item_M (by k_asm) (by k_mem) (by decide) (by decide) (by rfl) ?_)))
  (k_with "eval Dict cons cons" => (k_here; k_dflt (refine kdn_eval (knd := PySem.intKind _ _) (by k_asm) (by k_asm) (TopRead.nolimit (by k_asm)) (by rfl) (by rfl) (by intro e; cases e) (by decide) ?_); intro d'7 h'7 o'7 F'7 N'7 l1 lo'7 hd'7; (try k_lt l1)))
  trivial
example : True := by
  (k_with "call ref" => (k_here; (with_reducible show wpAny _ _ (call (Value.ref 129) [Value.str _ _]) _ _ _); k_dflt (refine DoesE.on (by k_asm) (by k_asm) (by k_asm) (by k_asm) (by k_asm) (by rfl) (by ktr_room) (by ktr_units) raise_does (by intro _ _ _ _ _ _ h; exact h.elim) ?_; k_whole); (intro g'7 e'7 h'7 tk'7 _ F'7 U'7 R'7); walk_say "RAISE"))
  (k_with "leaving ref" => (k_here; k_dflt (refine leave_onD (by k_asm) (by k_asm) (by assumption) (by assumption) ?_; k_whole); (intro h'7 R'7 U'7); (try dsimp only)))
  trivial
example : True := by
  (k_with "UPV" => first | assumption | exact ValIn.mono (by assumption) (by intro p hp; kcf_m))
  (k_with "call ref" => (k_here; (with_reducible show wpAny _ _ (call (Value.ref 157) [Value.ref _, Value.int _ _, Value.int _ _]) _ _ _); refine stop_it ?_))
  trivial
example : True := by
  (k_with "eval ListComp" => (k_here; (with_reducible show wpAny _ _ (eval (Expr.ListComp (Expr.Call _ _ _ _) _ _ _) _) _ _ _); k_dflt (refine LCg.ListComp_U (F₀ := by k_asm) (by with_unfolding_all rfl) (by decide) (by rfl) (by decide) (by rfl) ?_)))
  (k_with "CompSrc" => (k_here; (with_reducible show LCg.CompSrc _ _ _ _ _ _ _ (Expr.Call _ _ _ _) _ _ _ _ _ _); refine stop_it ?_))
  (k_with "call ref" => (k_here; (with_reducible show wpAny _ _ (call (Value.ref 100) [Value.int _ _]) _ _ _); k_dflt (refine Does.on (by k_asm) (by k_asm) (by k_asm) (by k_asm) (by k_asm) (by rfl) (by ktr_room) (by ktr_units) copy_int_does ?_; k_whole); (intro r'7 post'7 h'7 tk'7 F'7 N'7 hh'7; obtain ⟨e1'7, e2'7⟩ := hh'7; subst e1'7; subst e2'7); (try dsimp only); (try k_fold); walk_say "COPY"))
  (k_with "exec Assign cons ListComp" => (k_here; (with_reducible show wpAny _ _ (exec (Stmt.Assign _ (Expr.ListComp (Expr.Call _ _ _ _) _ _ _) _) _) _ _ _); k_dflt (refine LCg.Assign_ListComp_U (F₀ := by k_asm) (by rfl) (by with_unfolding_all rfl) (by with_unfolding_all rfl) (by decide) (by rfl) (by decide) (by rfl) (by rfl) (by rfl) ?_)))
  trivial
example : True := by
  (k_with "eval ListComp" => (k_here; (with_reducible show wpAny _ _ (eval (Expr.ListComp _ [⟨Expr.Tuple _ _ _, _, _, _⟩] _ _) _) _ _ _); k_dflt (refine LCp.ListComp_P (F₀ := by k_asm) (by with_unfolding_all rfl) (by decide) (by rfl) (by decide) (by rfl) (by rfl) (by decide) ?_); walk_say "PAIRS"))
  (k_with "SrcLP" => (k_here; walk_say "SRC"; k_dflt (refine LCp.SrcLP.ledger (by rfl) (by k_asm) (by k_asm) (by k_mem) (by first | size_fits | exact Nat.le_of_ble_eq_true rfl) ?_; intro g'7; lcp_lit)))
  (k_with "CompEnd" => (k_here; (with_reducible show LCg.CompEnd _ _ _ _ _ _ _ _ _ _ _ (fun _ _ => LCp.CompRestP _ _ _ _ _ _ _ _ _ _ _ _ _ _ _ _ _ _ _ _) _ _); refine ⟨_, _, _, rfl, (by k_asm), (by assumption), (by assumption), Or.inr ⟨_, (by k_mem), rfl, _, rfl⟩, ?_⟩; walk_say "PEND"))
  trivial
section
set_option maxRecDepth 100000 in
set_option maxHeartbeats 1000000 in
theorem copy_val_does {w : World} {mean : ExcName → Option Value} {mg mb : Str → Option Value} {v : Value} {lo : Int} {xs : List Int} {il : Addr} {news : Led}
   (R : ValIn w news v lo xs il) (hl : xs.length ≤ 40) :
   Does 40 w mean mg mb 100 [v] news (fun r post => ∃ il' tl, ValIn w post r lo xs il' ∧ post = tl ++ news ∧ ∀ p ∈ news, p.1 ≠ il') := by
  refine ValIn.elim R ?_
  clear R
  intro x dx bl tp vs hi k1 k2 t t' n1 n2 n3 n4 hx hdx hbl htp ehi hil hI R0
  unfold Does
  k_fill
  intro dp un gd cn cs' ac ccd cl outer A₀ base h₀ L m s Q E B F X N T hk hd' hu hret
  refine wpAny_call ?_
  obtain ⟨ck, cnm, cg, cco, cmo⟩ := cs'
  dsimp only at hk
  subst hk
  k_dflt k_enter
  k_steps
  show LCg.CompSrc _ _ _ _ _ _ _ _ _ _ _ _ _ _
  have hil2 := hI.length
  rename Fr _ _ _ _ => F2
  rename News _ _ _ _ => N2
  refine copy_src (by rfl) F2 N2 (by kcf_m) hI (by omega) ?_ ?_
  · intro s' k t I oI C oC D m₂ ys h tk E' hC hx F₂ N₂ off ne
    k_steps
    exact ⟨rfl, _, rfl⟩
  · intro ys D h tk hI3 F3 N3 o3
    k_steps
    rename Fr h₀ L _ _ => F9
    rename News h₀ L _ _ => N9
    refine hret _ _ _ _ F9 N9 ⟨_, [_, _, _, _], ValIn.mk (.head _) (.tail _ (.head _)) (by kcf_m) (by kcf_m) ehi (.tail _ (.tail _ (.head _))) hI3, rfl, ?_⟩
    intro q hq
    exact off1_mem o3 q (by kcf_m)

end
section
example : True := by
  (k_with "call ref" => (k_here; (with_reducible show wpAny _ _ (call (Value.ref 167) [Value.ref _, Value.ref _]) _ _ _); refine stop_it ?_))
  trivial
set_option maxRecDepth 100000 in
set_option maxHeartbeats 1000000 in
theorem slide_does {w : World} {mean : ExcName → Option Value} {mg mb : Str → Option Value} {v : Value} {lo : Int} {xs : List Int} {il l2 q2 : Addr} {c d : Int} {tc td : Tok} {m2 m3 : Nat} {news : Led}
   (R : ValIn w news v lo xs il) (hl2 : (l2, listOf #[.ref q2] m2) ∈ news) (hq2 : (q2, ({ cls := .type "tuple", data := .seq #[.int c tc, .int d td] m3 } : Obj)) ∈ news)
   (hl : xs.length ≤ 40) (hb : -1000 ≤ lo ∧ lo ≤ 1000) (hc : -2000 ≤ c ∧ c ≤ 2000) (hcd : c - 1 ≤ d) (hdc : d ≤ c + 100) :
   DoesE 80 w mean mg mb 172 [v, .ref l2] news (fun r post => ∃ il' tl, ValIn w post r c xs il' ∧ post = tl ++ news ∧ (∀ p ∈ news, p.1 ≠ il') ∧ (xs.length : Int) = d - c + 1) (¬ ((xs.length : Int) = d - c + 1)) := by
  refine ValIn.elim R ?_
  clear R
  intro x dx bl tp vs hi k1 k2 t t' n1 n2 n3 n4 hx hdx hbl htp ehi hil hI R0
  unfold DoesE
  k_fill
  intro dp un gd cn cs' ac ccd cl outer A₀ base h₀ L m s Q E B F X N T hk hd' hu hret hexc
  refine wpAny_call ?_
  obtain ⟨ck, cnm, cg, cco, cmo⟩ := cs'
  dsimp only at hk
  subst hk
  k_dflt k_enter
  k_steps
  show wpAny _ _ (call _ _) _ _ _
  k_dflt (refine' DoesE.use (check_does R0 hl2 hq2 hl hb hc hcd hdc) ?B ?F ?X ?N ?T ?hk ?hd ?hu ?r ?e; walk_at "USE")
  case' r => (rintro r' post' h' tk' F' N' ⟨e', ⟨tl', e2'⟩, hB'⟩; subst e'; subst e2'; (try dsimp only); (try k_fold))
  case' e => (intro g' e' h' tk' hB' F' U' R')
  · k_steps
    exact hexc _ _ _ _ hB' (by k_asm) (by assumption) (by assumption)
  have hx2 := List.mem_append_right tl' hx
  have hdx2 := List.mem_append_right tl' hdx
  have hil2 := List.mem_append_right tl' hil
  have hq22 := List.mem_append_right tl' hq2
  have hl22 := List.mem_append_right tl' hl2
  k_steps
  show LCg.CompSrc _ _ _ _ _ _ _ _ _ _ _ _ _ _
  have hil3 := hI.length
  rename Fr _ _ _ _ => F2
  rename News _ _ _ _ => N2
  refine copy_src (by rfl) F2 N2 (by kcf_m) hI (by omega) ?_ ?_
  · intro s' k t I oI C oC D m₂ ys h tk E' hC hx F₂ N₂ off ne
    k_steps
    exact ⟨rfl, _, rfl⟩
  · intro ys D h tk hI3 F3 N3 o3
    k_steps
    rename Fr h₀ L _ _ => F9
    rename News h₀ L _ _ => N9
    refine hret _ _ _ _ F9 N9 ⟨_, _ :: _ :: _ :: _ :: tl', ValIn.mk (.head _) (.tail _ (.head _)) (by kcf_m) (by kcf_m) (by omega) (.tail _ (.tail _ (.head _))) hI3, rfl, ?_, hB'⟩
    intro q hq
    exact off1_mem o3 q (by kcf_m)

end
example : True := by
  k_with_none
  trivial
example : True := by
  (k_with "ALL" => exact ltNe' (by assumption) (by omega))
  (k_with "ALL" => exact ltNe (by assumption) (by omega))
  (k_with "ALL" => exact allLtNe (by assumption))
  trivial
example : True := by
  (k_with "call ref" => (k_here; (with_reducible show wpAny _ _ (call (Value.ref 191) [Value.ref _, Value.int _ _]) _ _ _); k_dflt (refine Does.on (by k_asm) (by k_asm) (by k_asm) (by k_asm) (by k_asm) (by rfl) (by ktr_room) (by ktr_units) (pull_does (by k_updF) (by assumption) (by k_mem) (by assumption) (by assumption) (by omega) (by omega)) ?_; k_whole); (rintro r'7 post'7 h'7 tk'7 F'7 N'7 ⟨i'7, t'7, o'7, e1'7, lo'7, hi'7, D'7, e2'7⟩); subst e1'7; subst e2'7; (try dsimp only at N'7); (try dsimp only); (try k_fold); walk_say "PULL"))
  (k_with "exec For Name Call cons nil" => (k_here; (rename Fr _ _ _ _ => lF'7); (with_unfolding_all refine' For_invVF lF'7 ?k1 ?k2 ?_; (case k1 => exact rfl); (case k2 => exact rfl); k_whole)))
  (k_with "pyIter ref" => (k_here; (with_reducible show wpAny _ _ (pyIter (Value.ref _)) (fun it s₂ => LoopAtV _ _ _ _ _ _ _ _ _ it s₂) _ _); refine stop_it ?_))
  trivial
example : True := by
  (k_with "setItem ref int" => (k_here; (with_reducible show wpAny _ _ (setItem (Value.ref _) (Value.int _ _) (Value.int _ _)) _ _ _); k_dflt (refine kdf_setItem (by k_asm) (by k_asm) (by k_updF) (by k_asm) (by k_asm) (by first | assumption | omega) ?_); intro h'7 o'7 kvs'7 F'7 N'7 hd'7 hf'7; (try dsimp only at N'7)))
  trivial
example : True := by
  (k_with "HAS" => first | assumption | (rw [rc_has]; exact decide_eq_true ⟨by first | assumption | omega, by first | exact has_lt (by assumption) (by assumption) | omega⟩))
  (k_with "getItem ref int" => (k_here; k_dflt (refine gi_dict (by k_tabat) (by walk_at "HAS") ?_); intro _))
  (k_with "subscriptTail" => (k_here; (with_reducible show wpAny _ _ (subscriptTail _ _ (Value.ref _) (Value.int _ _)) _ _ _); k_dflt (refine kdf_item (by k_tabat) (by walk_at "HAS") ?_); intro _))
  trivial
example : True := by
  (k_with "compareOp NotIn int ref" => (k_here; (with_reducible show wpAny _ _ (compareOp CmpOp.NotIn (Value.int _ _) (Value.ref _)) _ _ _); k_dflt (refine kdf_notin (by k_tabat) ?_)))
  (k_with "TurnPost" => dsimp only [TurnPost])
  (k_with "eval ListComp" => (k_here; (with_reducible show wpAny _ _ (eval (Expr.ListComp (Expr.Tuple _ _ _) _ _ _) _) _ _ _); k_dflt (refine LCg.ListComp_U (F₀ := by k_asm) (by with_unfolding_all rfl) (by decide) (by rfl) (by decide) (by rfl) ?_)))
  (k_with "CompSrc" => (k_here; (with_reducible show LCg.CompSrc _ _ _ _ _ _ _ (Expr.Tuple _ _ _) _ _ _ _ _ _); refine stop_it ?_))
  (k_with "CompEnd" => ((with_reducible show LCg.CompEnd _ _ _ _ _ _ _ _ _ _ _ (fun y n'7 => TupEl _ _ _ y n'7) _ _); refine tup_end (by k_asm) (by k_asm) (by assumption) (by assumption) (by first | rfl | omega) (by first | rfl | omega) (fun _ => trivial)))
  (k_with "call type:dict" => (k_here; (with_reducible show wpAny _ _ (call (Value.type "dict") [Value.ref _]) _ _ _); k_dflt (refine dict_pairs_K (by rfl) (by k_asm) (by k_asm) (TopRead.nolimit (by k_asm)) (by k_mem) (by assumption) (by simp only [List.length_map, rangeKs_length]; omega) ?_); intro D'7 h'7 o'7 kvs'7 tk'7 F'7 N'7 lo'7 hD'7 hf'7 lt'7))
  trivial
example : True := by
  (k_with "call builtin:sorted" => (k_here; (with_reducible show wpAny _ _ (call (Value.builtin "sorted") [Value.ref _]) _ _ _); k_dflt (refine sorted_rc (by rfl) (by k_asm) (by k_asm) (by k_tabat) (by omega) ?_); intro D'7 h'7 tk'7 vs'7 n'7 F'7 N'7 lt'7 i'7; (try simp only [AllLt, and_true] at lt'7)))
  (k_with "compareOp Eq ref" => (k_here; (with_reducible show wpAny _ _ (compareOp CmpOp.Eq (Value.ref _) (Value.ref _)) _ _ _); k_dflt (refine eq_empty (by k_tabat) (TabAt.ofNews (D := kdfD []) (by k_asm) (by k_mem) (by k_asm) (by k_asm) (by k_asm)) (by ktr_units) ?_)))
  (k_with "HAS" => (rw [rc_has]; exact decide_eq_true (range_mem (by assumption))))
  trivial
example : True := by
  (k_with "USE" => ((case B => k_asm); (case F => k_asm); (case X => k_asm); (case N => k_asm); (case T => k_asm); (case hk => rfl); (case hd => ktr_room); (case hu => ktr_units)))
  (k_with "call type:dict" => (k_here; (with_reducible show wpAny _ _ (call (Value.type "dict") [Value.ref _]) _ _ _); k_dflt (refine dict_copy_K (by k_asm) (by k_asm) (TopRead.nolimit (by k_asm)) (by k_tabat) (by rw [rc_length]; omega) ?_); intro D'7 h'7 o'7 kvs'7 F'7 N'7 lo'7 hD'7 hf'7 lt'7))
  (k_with "call builtin:dict.update" => (k_here; (first | (with_reducible show wpAny _ _ (call (Value.builtin "dict.update") [Value.ref _, Value.ref _]) _ _ _) | (k_dflt (show wpAny _ _ (call (Value.builtin "dict.update") [Value.ref _, Value.ref _]) _ _ _))); k_dflt (refine update_K (by k_asm) (by k_asm) (by k_updF) (by k_asm) (by k_asm) (by k_tabat) (not_of_lt (by assumption) (by k_mem)) (by rw [rc_length, rc_length]; omega) ?_); intro h'7 o'7 kvs'7 F'7 N'7 hD'7 hf'7; (try dsimp only at N'7)))
  trivial
example : True := by
  (k_with "UP" => first | assumption | exact RowIn.mono (by assumption) (by intro p hp; kcf_m))
  (k_with "call ref" => (k_here; (with_reducible show wpAny _ _ (call (Value.ref 208) [Value.ref _, Value.int _ _, Value.int _ _]) _ _ _); k_dflt (refine Does.on (by k_asm) (by k_asm) (by k_asm) (by k_asm) (by k_asm) (by rfl) (by ktr_room) (by ktr_units) (part_does (by walk_at "UP") (by omega) (by omega) (by omega) (by omega) (by omega)) ?_; k_whole); (rintro r'7 post'7 h'7 tk'7 F'7 N'7 ⟨tl'7, e'7, hR'7⟩; subst e'7); (try dsimp only); (try k_fold); walk_say "PART"))
  (k_with "call ref" => (k_here; (with_reducible show wpAny _ _ (call (Value.ref 213) [Value.ref _, Value.int _ _, Value.int _ _]) _ _ _); k_dflt (refine Does.on (by k_asm) (by k_asm) (by k_asm) (by k_asm) (by k_asm) (by rfl) (by ktr_room) (by ktr_units) (moved_does (by walk_at "UP") (by omega) (by omega) (by omega) (by omega) (by omega)) ?_; k_whole); (rintro r'7 post'7 h'7 tk'7 F'7 N'7 ⟨tl'7, e'7, hR'7⟩; subst e'7); (try dsimp only); (try k_fold); walk_say "MOVED"))
  (k_with "call ref" => (k_here; (with_reducible show wpAny _ _ (call (Value.ref 225) _) _ _ _); k_dflt (refine Does.on (by k_asm) (by k_asm) (by k_asm) (by k_asm) (by k_asm) (by rfl) (by ktr_room) (by ktr_units) (given_does (by walk_at "UP") (by omega) (by omega) (by omega) (by omega) (by omega) (by omega) (by omega) (by omega)) ?_; k_whole); (rintro r'7 post'7 h'7 tk'7 F'7 N'7 ⟨tl'7, e'7, hR'7⟩; subst e'7); (try dsimp only); (try k_fold); walk_say "GIVEN"))
  (k_with "call ref" => (k_here; (with_reducible show wpAny _ _ (call (Value.ref 218) _) _ _ _); refine stop_it ?_))
  (k_with "subscriptTail" => (k_here; (with_reducible show wpAny _ _ (subscriptTail _ (Expr.Constant _ _ _) (Value.ref _) (Value.int _ _)) _ _ _); k_dflt (refine item_M (by k_asm) (by k_mem) (by decide) (by decide) (by rfl) ?_)))
  (k_with "eval Dict cons cons" => (k_here; k_dflt (refine kdn_eval (knd := PySem.intKind _ _) (by k_asm) (by k_asm) (TopRead.nolimit (by k_asm)) (by rfl) (by rfl) (by intro e; cases e) (by decide) ?_); intro d'7 h'7 o'7 F'7 N'7 l1 lo'7 hd'7; (try k_lt l1)))
  trivial
example : True := by
  (k_with "call ref" => (k_here; (with_reducible show wpAny _ _ (call (Value.ref 129) [Value.str _ _]) _ _ _); k_dflt (refine DoesE.on (by k_asm) (by k_asm) (by k_asm) (by k_asm) (by k_asm) (by rfl) (by ktr_room) (by ktr_units) raise_does (by intro _ _ _ _ _ _ h; exact h.elim) ?_; k_whole); (intro g'7 e'7 h'7 tk'7 _ F'7 U'7 R'7); walk_say "RAISE"))
  (k_with "leaving ref" => (k_here; k_dflt (refine leave_onD (by k_asm) (by k_asm) (by assumption) (by assumption) ?_; k_whole); (intro h'7 R'7 U'7); (try dsimp only)))
  trivial
example : True := by
  (k_with "UPV" => first | assumption | exact ValIn.mono (by assumption) (by intro p hp; kcf_m))
  (k_with "call ref" => (k_here; (with_reducible show wpAny _ _ (call (Value.ref 157) [Value.ref _, Value.int _ _, Value.int _ _]) _ _ _); refine stop_it ?_))
  trivial
example : True := by
  (k_with "eval ListComp" => (k_here; (with_reducible show wpAny _ _ (eval (Expr.ListComp (Expr.Call _ _ _ _) _ _ _) _) _ _ _); k_dflt (refine LCg.ListComp_U (F₀ := by k_asm) (by with_unfolding_all rfl) (by decide) (by rfl) (by decide) (by rfl) ?_)))
  (k_with "CompSrc" => (k_here; (with_reducible show LCg.CompSrc _ _ _ _ _ _ _ (Expr.Call _ _ _ _) _ _ _ _ _ _); refine stop_it ?_))
  (k_with "call ref" => (k_here; (with_reducible show wpAny _ _ (call (Value.ref 100) [Value.int _ _]) _ _ _); k_dflt (refine Does.on (by k_asm) (by k_asm) (by k_asm) (by k_asm) (by k_asm) (by rfl) (by ktr_room) (by ktr_units) copy_int_does ?_; k_whole); (intro r'7 post'7 h'7 tk'7 F'7 N'7 hh'7; obtain ⟨e1'7, e2'7⟩ := hh'7; subst e1'7; subst e2'7); (try dsimp only); (try k_fold); walk_say "COPY"))
  (k_with "exec Assign cons ListComp" => (k_here; (with_reducible show wpAny _ _ (exec (Stmt.Assign _ (Expr.ListComp (Expr.Call _ _ _ _) _ _ _) _) _) _ _ _); k_dflt (refine LCg.Assign_ListComp_U (F₀ := by k_asm) (by rfl) (by with_unfolding_all rfl) (by with_unfolding_all rfl) (by decide) (by rfl) (by decide) (by rfl) (by rfl) (by rfl) ?_)))
  trivial
example : True := by
  (k_with "eval ListComp" => (k_here; (with_reducible show wpAny _ _ (eval (Expr.ListComp _ [⟨Expr.Tuple _ _ _, _, _, _⟩] _ _) _) _ _ _); k_dflt (refine LCp.ListComp_P (F₀ := by k_asm) (by with_unfolding_all rfl) (by decide) (by rfl) (by decide) (by rfl) (by rfl) (by decide) ?_); walk_say "PAIRS"))
  (k_with "SrcLP" => (k_here; walk_say "SRC"; k_dflt (refine LCp.SrcLP.ledger (by rfl) (by k_asm) (by k_asm) (by k_mem) (by first | size_fits | exact Nat.le_of_ble_eq_true rfl) ?_; intro g'7; lcp_lit)))
  (k_with "CompEnd" => (k_here; (with_reducible show LCg.CompEnd _ _ _ _ _ _ _ _ _ _ _ (fun _ _ => LCp.CompRestP _ _ _ _ _ _ _ _ _ _ _ _ _ _ _ _ _ _ _ _) _ _); refine ⟨_, _, _, rfl, (by k_asm), (by assumption), (by assumption), Or.inr ⟨_, (by k_mem), rfl, _, rfl⟩, ?_⟩; walk_say "PEND"))
  trivial
example : True := by
  (k_with "compareOp Eq ref" => (k_here; (with_reducible show wpAny _ _ (compareOp CmpOp.Eq (Value.ref _) (Value.ref _)) _ _ _); k_dflt (refine ke_eq_ints (News.isList (by k_asm) (by k_mem)) (News.isList (by k_asm) (by k_mem)) (by first | assumption | exact IntsAre.nil) (by first | assumption | exact IntsAre.nil) (by ktr_units) ?_); walk_say "EQINTS"))
  (k_with "call builtin:len" => (k_here; (with_reducible show wpAny _ _ (call (Value.builtin "len") [Value.ref _]) _ _ _); k_dflt (refine len_M (by k_asm) (by k_mem) (by with_reducible assumption) (by omega) ?_); walk_say "LEN"))
  trivial
section
example : True := by
  (k_with "call ref" => (k_here; (with_reducible show wpAny _ _ (call (Value.ref 100) [Value.ref _]) _ _ _); refine stop_it ?_))
  trivial
set_option maxRecDepth 100000 in
set_option maxHeartbeats 1000000 in
theorem concat_does {w : World} {mean : ExcName → Option Value} {mg mb : Str → Option Value} {v v2 : Value} {lo lo2 : Int} {xs rs : List Int} {il il2 : Addr} {t6 t9 : Tok} {fixed : Bool} {news : Led}
   (R : ValIn w news v lo xs il) (R2 : ValIn w news v2 lo2 rs il2) (hl : xs.length ≤ 40) (hb : -1000 ≤ lo ∧ lo ≤ 1000) (hl2 : rs.length ≤ 40) (hb2 : -1000 ≤ lo2 ∧ lo2 ≤ 1000) :
   DoesE 80 w mean mg mb 184 [v, v2, .int (-6) t6, .int 9 t9, .bool fixed] news (fun r post => ∃ p il' tl, behindR lo xs lo2 rs fixed = some p ∧ ValIn w post r p.1 p.2 il' ∧ post = tl ++ news ∧ ∀ p ∈ news, p.1 ≠ il') (behindR lo xs lo2 rs fixed = none) := by
  refine ValIn.elim R ?_
  clear R
  intro x dx bl tp vs hi k1 k2 t t' n1 n2 n3 n4 hx hdx hbl htp ehi hil hI R0
  refine ValIn.elim R2 ?_
  clear R2
  intro x2 dx2 bl2 tp2 vs2 hi2 k12 k22 t2 t2' n12 n22 n32 n42 hx2 hdx2 hbl2 htp2 ehi2 hil2 hI2 R20
  unfold DoesE
  k_fill
  intro dp un gd cn cs' ac ccd cl outer A₀ base h₀ L m s Q E B F X N T hk hd' hu hret hexc
  refine wpAny_call ?_
  obtain ⟨ck, cnm, cg, cco, cmo⟩ := cs'
  dsimp only at hk
  subst hk
  k_dflt k_enter
  k_steps
  · show wpAny _ _ (call _ _) _ _ _
    rename decide (xs = []) = true => he
    k_dflt (refine' Does.use (copy_val_does ?R hl2) ?B ?F ?X ?N ?T ?hk ?hd ?hu ?_; walk_at "USE"; (case R => exact R20.mono (by intro p hp; kcf_m)))
    rintro r1 post1 h1 tk1 F1 N1 ⟨il1, tl1, hV, rfl, hoff⟩
    try dsimp only
    k_steps
    rename Fr h₀ L _ _ => F9
    rename News h₀ L _ _ => N9
    exact hret _ (_ ++ [_] ++ news) _ _ F9 (by rw [List.append_assoc]; exact N9) ⟨(lo2, rs), _, _, by rw [behindR, if_pos (of_decide_eq_true he)], by rw [List.append_assoc]; exact hV, rfl, fun p hp => hoff p (.tail _ hp)⟩
  · rename decide (xs = []) = false => hne
    rename Flies _ _ _ _ _ _ _ => R9
    refine hexc _ _ _ _ ?_ (by k_asm) (by assumption) (R9.mono fun p hp => .tail _ hp)
    rw [behindR, if_neg (of_decide_eq_false hne)]
    rename fixed = true => hf
    subst hf
    simp only [if_true]
    rw [if_pos (by omega)]
  · show LCg.CompSrc _ _ _ _ _ _ _ _ _ _ _ _ _ _
    rename Fr _ _ _ _ => F2
    rename News _ _ _ _ => N2
    rename IntsAre _ (_ ++ _) => hI9
    refine copy_src (by rfl) F2 N2 (.head _) hI9 (by rw [List.length_append]; omega) ?_ ?_
    · intro s' k t I oI C oC D m₂ ys h tk E' hC hx F₂ N₂ off ne
      k_steps
      exact ⟨rfl, _, rfl⟩
    · intro ys D h tk hI3 F3 N3 o3
      k_steps
      rename Fr h₀ L _ _ => F9
      rename News h₀ L _ _ => N9
      rename decide (xs = []) = false => hne
      refine hret _ _ _ _ F9 N9 ⟨(_, xs ++ rs), _, [_, _, _, _, _, _, _], ?_, ValIn.mk (.head _) (.tail _ (.head _)) (by kcf_m) (by kcf_m) (by simp only [List.length_append]; push_cast; omega) (.tail _ (.tail _ (.head _))) hI3, rfl, ?_⟩
      · rw [behindR, if_neg (of_decide_eq_false hne)]
        rename fixed = true => hf
        subst hf
        simp only [if_true]
        rw [if_neg (by omega)]
      · intro q hq
        exact off1_mem o3 q (by kcf_m)
  · rename decide (xs = []) = false => hne
    rename Flies _ _ _ _ _ _ _ => R9
    refine hexc _ _ _ _ ?_ (by k_asm) (by assumption) (R9.mono fun p hp => .tail _ hp)
    rw [behindR, if_neg (of_decide_eq_false hne)]
    rename fixed = false => hf
    subst hf
    simp only [Bool.false_eq_true, if_false]
    rw [if_pos (by omega)]
  · rename decide (xs = []) = false => hne
    rename Flies _ _ _ _ _ _ _ => R9
    refine hexc _ _ _ _ ?_ (by k_asm) (by assumption) (R9.mono fun p hp => .tail _ hp)
    rw [behindR, if_neg (of_decide_eq_false hne)]
    rename fixed = false => hf
    subst hf
    simp only [Bool.false_eq_true, if_false]
    rw [if_pos (by omega)]
  · show LCg.CompSrc _ _ _ _ _ _ _ _ _ _ _ _ _ _
    rename Fr _ _ _ _ => F2
    rename News _ _ _ _ => N2
    rename IntsAre _ (_ ++ _) => hI9
    refine copy_src (by rfl) F2 N2 (.head _) hI9 (by rw [List.length_append]; omega) ?_ ?_
    · intro s' k t I oI C oC D m₂ ys h tk E' hC hx F₂ N₂ off ne
      k_steps
      exact ⟨rfl, _, rfl⟩
    · intro ys D h tk hI3 F3 N3 o3
      k_steps
      rename Fr h₀ L _ _ => F9
      rename News h₀ L _ _ => N9
      rename decide (xs = []) = false => hne
      refine hret _ _ _ _ F9 N9 ⟨(_, xs ++ rs), _, [_, _, _, _, _, _, _], ?_, ValIn.mk (.head _) (.tail _ (.head _)) (by kcf_m) (by kcf_m) (by simp only [List.length_append]; push_cast; omega) (.tail _ (.tail _ (.head _))) hI3, rfl, ?_⟩
      · rw [behindR, if_neg (of_decide_eq_false hne)]
        rename fixed = false => hf
        subst hf
        simp only [Bool.false_eq_true, if_false]
        rw [if_neg (by omega)]
      · intro q hq
        exact off1_mem o3 q (by kcf_m)

end
example : True := by
  k_with_none
  trivial
example : True := by
  (k_with "ALL" => exact ltNe' (by assumption) (by omega))
  (k_with "ALL" => exact ltNe (by assumption) (by omega))
  (k_with "ALL" => exact allLtNe (by assumption))
  trivial
example : True := by
  (k_with "call ref" => (k_here; (with_reducible show wpAny _ _ (call (Value.ref 191) [Value.ref _, Value.int _ _]) _ _ _); k_dflt (refine Does.on (by k_asm) (by k_asm) (by k_asm) (by k_asm) (by k_asm) (by rfl) (by ktr_room) (by ktr_units) (pull_does (by k_updF) (by assumption) (by k_mem) (by assumption) (by assumption) (by omega) (by omega)) ?_; k_whole); (rintro r'7 post'7 h'7 tk'7 F'7 N'7 ⟨i'7, t'7, o'7, e1'7, lo'7, hi'7, D'7, e2'7⟩); subst e1'7; subst e2'7; (try dsimp only at N'7); (try dsimp only); (try k_fold); walk_say "PULL"))
  (k_with "exec For Name Call cons nil" => (k_here; (rename Fr _ _ _ _ => lF'7); (with_unfolding_all refine' For_invVF lF'7 ?k1 ?k2 ?_; (case k1 => exact rfl); (case k2 => exact rfl); k_whole)))
  (k_with "pyIter ref" => (k_here; (with_reducible show wpAny _ _ (pyIter (Value.ref _)) (fun it s₂ => LoopAtV _ _ _ _ _ _ _ _ _ it s₂) _ _); refine stop_it ?_))
  trivial
example : True := by
  (k_with "setItem ref int" => (k_here; (with_reducible show wpAny _ _ (setItem (Value.ref _) (Value.int _ _) (Value.int _ _)) _ _ _); k_dflt (refine kdf_setItem (by k_asm) (by k_asm) (by k_updF) (by k_asm) (by k_asm) (by first | assumption | omega) ?_); intro h'7 o'7 kvs'7 F'7 N'7 hd'7 hf'7; (try dsimp only at N'7)))
  trivial
example : True := by
  (k_with "HAS" => first | assumption | (rw [rc_has]; exact decide_eq_true ⟨by first | assumption | omega, by first | exact has_lt (by assumption) (by assumption) | omega⟩))
  (k_with "getItem ref int" => (k_here; k_dflt (refine gi_dict (by k_tabat) (by walk_at "HAS") ?_); intro _))
  (k_with "subscriptTail" => (k_here; (with_reducible show wpAny _ _ (subscriptTail _ _ (Value.ref _) (Value.int _ _)) _ _ _); k_dflt (refine kdf_item (by k_tabat) (by walk_at "HAS") ?_); intro _))
  trivial
example : True := by
  (k_with "compareOp NotIn int ref" => (k_here; (with_reducible show wpAny _ _ (compareOp CmpOp.NotIn (Value.int _ _) (Value.ref _)) _ _ _); k_dflt (refine kdf_notin (by k_tabat) ?_)))
  (k_with "TurnPost" => dsimp only [TurnPost])
  (k_with "eval ListComp" => (k_here; (with_reducible show wpAny _ _ (eval (Expr.ListComp (Expr.Tuple _ _ _) _ _ _) _) _ _ _); k_dflt (refine LCg.ListComp_U (F₀ := by k_asm) (by with_unfolding_all rfl) (by decide) (by rfl) (by decide) (by rfl) ?_)))
  (k_with "CompSrc" => (k_here; (with_reducible show LCg.CompSrc _ _ _ _ _ _ _ (Expr.Tuple _ _ _) _ _ _ _ _ _); refine stop_it ?_))
  (k_with "CompEnd" => ((with_reducible show LCg.CompEnd _ _ _ _ _ _ _ _ _ _ _ (fun y n'7 => TupEl _ _ _ y n'7) _ _); refine tup_end (by k_asm) (by k_asm) (by assumption) (by assumption) (by first | rfl | omega) (by first | rfl | omega) (fun _ => trivial)))
  (k_with "call type:dict" => (k_here; (with_reducible show wpAny _ _ (call (Value.type "dict") [Value.ref _]) _ _ _); k_dflt (refine dict_pairs_K (by rfl) (by k_asm) (by k_asm) (TopRead.nolimit (by k_asm)) (by k_mem) (by assumption) (by simp only [List.length_map, rangeKs_length]; omega) ?_); intro D'7 h'7 o'7 kvs'7 tk'7 F'7 N'7 lo'7 hD'7 hf'7 lt'7))
  trivial
example : True := by
  (k_with "call builtin:sorted" => (k_here; (with_reducible show wpAny _ _ (call (Value.builtin "sorted") [Value.ref _]) _ _ _); k_dflt (refine sorted_rc (by rfl) (by k_asm) (by k_asm) (by k_tabat) (by omega) ?_); intro D'7 h'7 tk'7 vs'7 n'7 F'7 N'7 lt'7 i'7; (try simp only [AllLt, and_true] at lt'7)))
  (k_with "compareOp Eq ref" => (k_here; (with_reducible show wpAny _ _ (compareOp CmpOp.Eq (Value.ref _) (Value.ref _)) _ _ _); k_dflt (refine eq_empty (by k_tabat) (TabAt.ofNews (D := kdfD []) (by k_asm) (by k_mem) (by k_asm) (by k_asm) (by k_asm)) (by ktr_units) ?_)))
  (k_with "HAS" => (rw [rc_has]; exact decide_eq_true (range_mem (by assumption))))
  trivial
example : True := by
  (k_with "USE" => ((case B => k_asm); (case F => k_asm); (case X => k_asm); (case N => k_asm); (case T => k_asm); (case hk => rfl); (case hd => ktr_room); (case hu => ktr_units)))
  (k_with "call type:dict" => (k_here; (with_reducible show wpAny _ _ (call (Value.type "dict") [Value.ref _]) _ _ _); k_dflt (refine dict_copy_K (by k_asm) (by k_asm) (TopRead.nolimit (by k_asm)) (by k_tabat) (by rw [rc_length]; omega) ?_); intro D'7 h'7 o'7 kvs'7 F'7 N'7 lo'7 hD'7 hf'7 lt'7))
  (k_with "call builtin:dict.update" => (k_here; (first | (with_reducible show wpAny _ _ (call (Value.builtin "dict.update") [Value.ref _, Value.ref _]) _ _ _) | (k_dflt (show wpAny _ _ (call (Value.builtin "dict.update") [Value.ref _, Value.ref _]) _ _ _))); k_dflt (refine update_K (by k_asm) (by k_asm) (by k_updF) (by k_asm) (by k_asm) (by k_tabat) (not_of_lt (by assumption) (by k_mem)) (by rw [rc_length, rc_length]; omega) ?_); intro h'7 o'7 kvs'7 F'7 N'7 hD'7 hf'7; (try dsimp only at N'7)))
  trivial
example : True := by
  (k_with "UP" => first | assumption | exact RowIn.mono (by assumption) (by intro p hp; kcf_m))
  (k_with "call ref" => (k_here; (with_reducible show wpAny _ _ (call (Value.ref 208) [Value.ref _, Value.int _ _, Value.int _ _]) _ _ _); k_dflt (refine Does.on (by k_asm) (by k_asm) (by k_asm) (by k_asm) (by k_asm) (by rfl) (by ktr_room) (by ktr_units) (part_does (by walk_at "UP") (by omega) (by omega) (by omega) (by omega) (by omega)) ?_; k_whole); (rintro r'7 post'7 h'7 tk'7 F'7 N'7 ⟨tl'7, e'7, hR'7⟩; subst e'7); (try dsimp only); (try k_fold); walk_say "PART"))
  (k_with "call ref" => (k_here; (with_reducible show wpAny _ _ (call (Value.ref 213) [Value.ref _, Value.int _ _, Value.int _ _]) _ _ _); k_dflt (refine Does.on (by k_asm) (by k_asm) (by k_asm) (by k_asm) (by k_asm) (by rfl) (by ktr_room) (by ktr_units) (moved_does (by walk_at "UP") (by omega) (by omega) (by omega) (by omega) (by omega)) ?_; k_whole); (rintro r'7 post'7 h'7 tk'7 F'7 N'7 ⟨tl'7, e'7, hR'7⟩; subst e'7); (try dsimp only); (try k_fold); walk_say "MOVED"))
  (k_with "call ref" => (k_here; (with_reducible show wpAny _ _ (call (Value.ref 225) _) _ _ _); k_dflt (refine Does.on (by k_asm) (by k_asm) (by k_asm) (by k_asm) (by k_asm) (by rfl) (by ktr_room) (by ktr_units) (given_does (by walk_at "UP") (by omega) (by omega) (by omega) (by omega) (by omega) (by omega) (by omega) (by omega)) ?_; k_whole); (rintro r'7 post'7 h'7 tk'7 F'7 N'7 ⟨tl'7, e'7, hR'7⟩; subst e'7); (try dsimp only); (try k_fold); walk_say "GIVEN"))
  (k_with "call ref" => (k_here; (with_reducible show wpAny _ _ (call (Value.ref 218) _) _ _ _); refine stop_it ?_))
  (k_with "subscriptTail" => (k_here; (with_reducible show wpAny _ _ (subscriptTail _ (Expr.Constant _ _ _) (Value.ref _) (Value.int _ _)) _ _ _); k_dflt (refine item_M (by k_asm) (by k_mem) (by decide) (by decide) (by rfl) ?_)))
  (k_with "eval Dict cons cons" => (k_here; k_dflt (refine kdn_eval (knd := PySem.intKind _ _) (by k_asm) (by k_asm) (TopRead.nolimit (by k_asm)) (by rfl) (by rfl) (by intro e; cases e) (by decide) ?_); intro d'7 h'7 o'7 F'7 N'7 l1 lo'7 hd'7; (try k_lt l1)))
  trivial
example : True := by
  (k_with "call ref" => (k_here; (with_reducible show wpAny _ _ (call (Value.ref 129) [Value.str _ _]) _ _ _); k_dflt (refine DoesE.on (by k_asm) (by k_asm) (by k_asm) (by k_asm) (by k_asm) (by rfl) (by ktr_room) (by ktr_units) raise_does (by intro _ _ _ _ _ _ h; exact h.elim) ?_; k_whole); (intro g'7 e'7 h'7 tk'7 _ F'7 U'7 R'7); walk_say "RAISE"))
  (k_with "leaving ref" => (k_here; k_dflt (refine leave_onD (by k_asm) (by k_asm) (by assumption) (by assumption) ?_; k_whole); (intro h'7 R'7 U'7); (try dsimp only)))
  trivial
example : True := by
  (k_with "UPV" => first | assumption | exact ValIn.mono (by assumption) (by intro p hp; kcf_m))
  (k_with "call ref" => (k_here; (with_reducible show wpAny _ _ (call (Value.ref 157) [Value.ref _, Value.int _ _, Value.int _ _]) _ _ _); refine stop_it ?_))
  trivial
example : True := by
  (k_with "eval ListComp" => (k_here; (with_reducible show wpAny _ _ (eval (Expr.ListComp (Expr.Call _ _ _ _) _ _ _) _) _ _ _); k_dflt (refine LCg.ListComp_U (F₀ := by k_asm) (by with_unfolding_all rfl) (by decide) (by rfl) (by decide) (by rfl) ?_)))
  (k_with "CompSrc" => (k_here; (with_reducible show LCg.CompSrc _ _ _ _ _ _ _ (Expr.Call _ _ _ _) _ _ _ _ _ _); refine stop_it ?_))
  (k_with "call ref" => (k_here; (with_reducible show wpAny _ _ (call (Value.ref 100) [Value.int _ _]) _ _ _); k_dflt (refine Does.on (by k_asm) (by k_asm) (by k_asm) (by k_asm) (by k_asm) (by rfl) (by ktr_room) (by ktr_units) copy_int_does ?_; k_whole); (intro r'7 post'7 h'7 tk'7 F'7 N'7 hh'7; obtain ⟨e1'7, e2'7⟩ := hh'7; subst e1'7; subst e2'7); (try dsimp only); (try k_fold); walk_say "COPY"))
  (k_with "exec Assign cons ListComp" => (k_here; (with_reducible show wpAny _ _ (exec (Stmt.Assign _ (Expr.ListComp (Expr.Call _ _ _ _) _ _ _) _) _) _ _ _); k_dflt (refine LCg.Assign_ListComp_U (F₀ := by k_asm) (by rfl) (by with_unfolding_all rfl) (by with_unfolding_all rfl) (by decide) (by rfl) (by decide) (by rfl) (by rfl) (by rfl) ?_)))
  trivial
example : True := by
  (k_with "eval ListComp" => (k_here; (with_reducible show wpAny _ _ (eval (Expr.ListComp _ [⟨Expr.Tuple _ _ _, _, _, _⟩] _ _) _) _ _ _); k_dflt (refine LCp.ListComp_P (F₀ := by k_asm) (by with_unfolding_all rfl) (by decide) (by rfl) (by decide) (by rfl) (by rfl) (by decide) ?_); walk_say "PAIRS"))
  (k_with "SrcLP" => (k_here; walk_say "SRC"; k_dflt (refine LCp.SrcLP.ledger (by rfl) (by k_asm) (by k_asm) (by k_mem) (by first | size_fits | exact Nat.le_of_ble_eq_true rfl) ?_; intro g'7; lcp_lit)))
  (k_with "CompEnd" => (k_here; (with_reducible show LCg.CompEnd _ _ _ _ _ _ _ _ _ _ _ (fun _ _ => LCp.CompRestP _ _ _ _ _ _ _ _ _ _ _ _ _ _ _ _ _ _ _ _) _ _); refine ⟨_, _, _, rfl, (by k_asm), (by assumption), (by assumption), Or.inr ⟨_, (by k_mem), rfl, _, rfl⟩, ?_⟩; walk_say "PEND"))
  trivial
example : True := by
  (k_with "compareOp Eq ref" => (k_here; (with_reducible show wpAny _ _ (compareOp CmpOp.Eq (Value.ref _) (Value.ref _)) _ _ _); k_dflt (refine ke_eq_ints (News.isList (by k_asm) (by k_mem)) (News.isList (by k_asm) (by k_mem)) (by first | assumption | exact IntsAre.nil) (by first | assumption | exact IntsAre.nil) (by ktr_units) ?_); walk_say "EQINTS"))
  (k_with "call builtin:len" => (k_here; (with_reducible show wpAny _ _ (call (Value.builtin "len") [Value.ref _]) _ _ _); k_dflt (refine len_M (by k_asm) (by k_mem) (by with_reducible assumption) (by omega) ?_); walk_say "LEN"))
  trivial
section
set_option maxRecDepth 100000 in
set_option maxHeartbeats 1000000 in
theorem read_does {w : World} {mean : ExcName → Option Value} {mg mb : Str → Option Value} {v r : Value} {lo a b : Int} {xs : List Int} {il : Addr} {news : Led}
   (R : ValIn w news v lo xs il) (P : PlaceIn news r v (if b < a then 0 else a - lo) a b) (hc : b < a ∨ lo ≤ a ∧ b < lo + xs.length) (hl : xs.length ≤ 40) (hb : -1000 ≤ lo ∧ lo ≤ 1000) (hab : a - 1 ≤ b) (hba : b ≤ a + 40) (ha : -1000 ≤ a ∧ a ≤ 1000) :
   Does 60 w mean mg mb 117 [r] news (fun r post => ∃ p il' tl, partR lo xs a b = some p ∧ ValIn w post r p.1 p.2 il' ∧ post = tl ++ news ∧ ∀ p ∈ news, p.1 ≠ il') := by
  revert P
  refine ValIn.elim R ?_
  clear R
  intro x dx bl tp vs hi k1 k2 t t' n1 n2 n3 n4 hx hdx hbl htp ehi hil hI R0 P
  obtain ⟨pl, bd, ts, t1, t2, t3, m1, m2, rfl, hpl, hbd⟩ := P
  unfold Does
  k_fill
  intro dp un gd cn cs' ac ccd cl outer A₀ base h₀ L m s Q E B F X N T hk hd' hu hret
  refine wpAny_call ?_
  obtain ⟨ck, cnm, cg, cco, cmo⟩ := cs'
  dsimp only at hk
  subst hk
  k_dflt k_enter
  k_steps
  show LCg.CompSrc _ _ _ _ _ _ _ _ _ _ _ _ _ _
  rename Fr _ _ _ _ => F2
  rename News _ _ _ _ => N2
  rename IntsAre _ _ => hI2
  refine copy_src (by rfl) F2 N2 (.head _) hI2 (by first | exact cut_small hl | (simp only [List.length_take]; omega)) ?_ ?_
  · intro s' k t I oI C oC D m₂ ys h tk E' hC hx F₂ N₂ off ne
    k_steps
    exact ⟨rfl, _, rfl⟩
  · intro ys D h tk hI3 F3 N3 o3
    k_steps
    rename Fr h₀ L _ _ => F9
    rename News h₀ L _ _ => N9
    obtain ⟨p, hp1, hp2, hp3, hp4⟩ := part_take hc hab
    rw [hp4] at hI3
    subst hp2
    refine hret _ _ _ _ F9 N9 ⟨p, _, [_, _, _, _, _], hp1, ValIn.mk (.head _) (.tail _ (.head _)) (by kcf_m) (by kcf_m) hp3 (.tail _ (.tail _ (.head _))) hI3, rfl, ?_⟩
    intro q hq
    exact off1_mem o3 q (by kcf_m)

end
section
theorem setAll_snoc (z : Int) : ∀ (zs xs : List Int) (k : Nat), setAll xs k (zs ++ [z]) = (setAll xs k zs).set (k + zs.length) z
  | [], xs, k => by simp [setAll]
  | y :: zs, xs, k => by
    rw [List.cons_append, setAll, setAll_snoc z zs, setAll, List.length_cons]
    congr 1
    omega
theorem setAll_take {xs ys : List Int} {k i : Nat} (h : i < ys.length) : (setAll xs k (ys.take i)).set (k + i) (ys.getD i 0) = setAll xs k (ys.take (i + 1)) := by
  have e : ys.take (i + 1) = ys.take i ++ [ys.getD i 0] := by
    rw [List.take_add_one, List.getElem?_eq_getElem h, List.getD_eq_getElem?_getD, List.getElem?_eq_getElem h]
    rfl
  rw [e, setAll_snoc, List.length_take, Nat.min_eq_left (Nat.le_of_lt h)]
set_option maxRecDepth 100000 in
set_option maxHeartbeats 1000000 in
theorem write_does {w : World} {mean : ExcName → Option Value} {mg mb : Str → Option Value} {v2 : Value} {c off : Int} {xs ys : List Int} {x dx bl il il2 pl bd : Addr} {ts t1 k1 k2 : Tok} {vs : List Value} {n1 n4 m1 : Nat} {news : Led}
   (hx : (x, instObj 70 dx) ∈ news) (hdx : (dx, dictOf [⟨PyData.keyHash w.params (Str.ofString "bounds"), .str (Str.ofString "bounds") k1, .ref bl⟩, ⟨PyData.keyHash w.params (Str.ofString "items"), .str (Str.ofString "items") k2, .ref il⟩] n1) ∈ news)
   (hpl : (pl, ({ cls := .type "tuple", data := .seq #[.str (Str.ofString "slice") ts, .ref x, .int off t1, .ref bd] m1 } : Obj)) ∈ news)
   (V2 : ValIn w news v2 c ys il2) (hI : IntsAre vs xs) (hoff : OwnOff news [il]) (h0 : 0 ≤ off) (h1 : off + ys.length ≤ xs.length) (hl : xs.length ≤ 40) :
   Does 60 w mean mg mb 122 [.ref pl, v2] ((il, listOf vs.toArray n4) :: news) (fun r post => r = .none ∧ ∃ tl vs', post = tl ++ (il, listOf vs'.toArray n4) :: news ∧ IntsAre vs' (setAll xs off.toNat ys) ∧ ∀ p ∈ tl, p.1 ≠ il) := by
  obtain ⟨x2, dx2, bl2, tp2, vs2, hi2, k12, k22, t2, t2', n12, n22, n32, n42, rfl, hx2, hdx2, hbl2, htp2, ehi2, hil2, hI2⟩ := V2
  unfold Does
  k_fill
  intro dp un gd cn cs' ac ccd cl outer A₀ base h₀ L m s Q E B F X N T hk hd' hu hret
  refine wpAny_call ?_
  obtain ⟨ck, cnm, cg, cco, cmo⟩ := cs'
  dsimp only at hk
  subst hk
  k_dflt k_enter
  k_steps
  show LCg.CompSrc _ _ _ _ _ _ _ _ _ _ _ _ _ _
  rename Fr _ _ _ _ => F2
  rename News _ _ _ _ => N2
  refine copy_srcA (by rfl) F2 N2 (by kcf_m) hI2 (by omega) ?_ ?_
  · intro s' k t I oI C oC D m₂ ys h tk E' hC hx F₂ N₂ off ne
    k_steps
    all_goals exact ⟨rfl, _, rfl⟩
  · intro zs D h tk hI3 F3 N3 o3
    k_steps
    show wpAny _ _ (pyIter _) _ _ _
    rename IsRange _ _ _ _ _ _ _ _ => hR
    rename Fr _ _ _ _ => hFr
    rename News _ _ _ _ => hN
    refine range_K (fun i nw => ∃ vs', IntsAre vs' (setAll xs off.toNat (ys.take i)) ∧ nw = (D, LCg.lst zs) :: (il, listOf vs'.toArray n4) :: news) rfl hR (small_one (by omega) (by omega) (by omega) (by omega)) (rangeSize_nat _ _) hFr hN ⟨vs, by simpa [setAll] using hI, rfl⟩ ?_ ?_
    · rintro i tt news₁ h tk own hi' ⟨vs', hI', rfl⟩ hof F₁ N₁
      simp only [List.cons_append] at N₁
      have hl' := setAll_length xs off.toNat (ys.take i)
      have hD : il ≠ D := o3.1
      have ho : ∀ p ∈ news ++ own, p.1 ≠ il := fun p hp => (List.mem_append.mp hp).elim (fun q => hoff p q il (.head _)) (fun q => (hof (il, listOf vs'.toArray n4) (.tail _ (.head _)) p q).symm)
      k_steps
      show wpAny _ _ (setItem _ _ _) _ _ _
      refine ksa_set (by k_asm) (by k_asm) (.tail hD.symm (.head ho)) hI' (by omega) (by rw [hl']; omega) (by omega) ?_
      intro h' F' N' hi2' _ _
      k_steps
      rename Fr _ _ _ _ => F9
      rename News _ _ _ _ => N9
      rw [show (off + (0 + (i : Int))).toNat = off.toNat + i by omega, show ((0 : Int) + (i : Int)).toNat = i by omega, setAll_take (by omega)] at hi2'
      refine ⟨_, _, _, _ :: _ :: news, rfl, F9, N9, off_same hof rfl, (fun z hz => by simp [hz]), _, hi2', ?_⟩
      rw [show (off + (0 + (i : Int))).toNat = off.toNat + i by omega, show ((0 : Int) + (i : Int)).toNat = i by omega]
    · rintro u news₁ h tk ⟨vs', hI', rfl⟩ F₁ N₁
      k_steps
      rename Fr h₀ L _ _ => F9
      rename News h₀ L _ _ => N9
      rw [List.take_of_length_le (by omega)] at hI'
      exact hret _ _ _ _ F9 N9 ⟨rfl, [_], vs', rfl, hI', fun p hp => by rw [List.mem_singleton.mp hp]; exact o3.1.symm⟩

end
section
section
variable {h₀ h : Heap} {L il a : Addr} {o : Obj} {news : Led} {vs : List Value} {xs : List Int} {n : Nat}
theorem mem_less (N : News h₀ L h news) (hil : (il, listOf vs.toArray n) ∈ news) (hm : (a, o) ∈ news) (hne : o ≠ listOf vs.toArray n) : (a, o) ∈ less il news :=
  less_mem.mpr ⟨hm, fun e => hne (news_same N (by rw [← show a = il from e]; exact hm) hil)⟩
theorem ne_inst {C dx : Addr} : instObj C dx ≠ listOf vs.toArray n := fun e => by cases congrArg Obj.data e
theorem ne_dict {es : List DictEntry} {k : Nat} : dictOf es k ≠ listOf vs.toArray n := fun e => by cases congrArg Obj.data e
theorem ne_tup {d : Array Value} {k : Nat} : ({ cls := .type "tuple", data := .seq d k } : Obj) ≠ listOf vs.toArray n := fun e => by
  have h1 := congrArg Obj.cls e
  injection h1 with h2
  exact absurd h2 (by decide)
theorem ne_refs (hI : IntsAre vs xs) {t : Addr} {k : Nat} : listOf #[.ref t] k ≠ listOf vs.toArray n := fun e => by
  have h1 : Data.seq #[.ref t] k = Data.seq vs.toArray n := congrArg Obj.data e
  injection h1 with h2
  have h3 : [Value.ref t] = vs := by have := congrArg Array.toList h2; simpa using this
  subst h3
  cases hI
theorem ValIn.less' {w : World} {v : Value} {lo : Int} {ys : List Int} {il2 : Addr} (R : ValIn w news v lo ys il2) (N : News h₀ L h news) (hil : (il, listOf vs.toArray n) ∈ news) (hI : IntsAre vs xs) (hne : il2 ≠ il) : ValIn w (less il news) v lo ys il2 := by
  refine ValIn.elim R ?_
  clear R
  intro x dx bl tp vs' hi k1 k2 t t' n1 n2 n3 n4 h1 h2 h3 h4 e5 h6 r _
  exact ValIn.mk (mem_less N hil h1 ne_inst) (mem_less N hil h2 ne_dict) (mem_less N hil h3 (ne_refs hI)) (mem_less N hil h4 ne_tup) e5 (less_mem.mpr ⟨h6, hne⟩) r
theorem news_less (N : News h₀ L h news) (hil : (il, o) ∈ news) : News h₀ L h ((il, o) :: less il news) := fun p hp => by
  rcases List.mem_cons.mp hp with rfl | hp
  · exact N _ hil
  · exact N _ (less_mem.mp hp).1
theorem post_mem {tl l : Led} {x q : Addr × Obj} (_ : News h₀ L h (tl ++ x :: l)) (hm : q ∈ l) : q ∈ tl ++ x :: l := List.mem_append_right _ (.tail _ hm)
end

end
example : True := by
  (k_with "call ref" => (k_here; (with_reducible show wpAny _ _ (call (Value.ref 162) _) _ _ _); refine stop_it ?_))
  (k_with "call ref" => (k_here; (with_reducible show wpAny _ _ (call (Value.ref 172) _) _ _ _); refine stop_it ?_))
  (k_with "call ref" => (k_here; (with_reducible show wpAny _ _ (call (Value.ref 184) _) _ _ _); refine stop_it ?_))
  (k_with "call ref" => (k_here; (with_reducible show wpAny _ _ (call (Value.ref 179) _) _ _ _); refine stop_it ?_))
  (k_with "call ref" => (k_here; (with_reducible show wpAny _ _ (call (Value.ref 157) _) _ _ _); refine stop_it ?_))
  (k_with "call ref" => (k_here; (with_reducible show wpAny _ _ (call (Value.ref 117) _) _ _ _); refine stop_it ?_))
  (k_with "call ref" => (k_here; (with_reducible show wpAny _ _ (call (Value.ref 167) _) _ _ _); refine stop_it ?_))
  (k_with "call ref" => (k_here; (with_reducible show wpAny _ _ (call (Value.ref 122) _) _ _ _); refine stop_it ?_))
  (k_with "call ref" => (k_here; (with_reducible show wpAny _ _ (call (Value.ref 150) _) _ _ _); refine stop_it ?_))
  trivial
section
def ResV (w : World) (led : Led) (r : Value) : Res → Prop
  | .none => False
  | .int i => ∃ t, r = .int i t
  | .row p => ∃ il, ValIn w led r p.1 p.2 il
/-- the members of the value itself after a deed -/
def ownAfter (way : Int) (xs : List Int) (res : Res) : List Int := if way = 5 then (match res with | .row p => p.2 | _ => xs) else xs
theorem done_fin {w : World} {post news : Led} {r v : Value} {D : Res} {o : Option (Int × List Int)} {p : Int × List Int} {il il' : Addr} {way lo : Int} {xs : List Int} (hd : D = .ofOr o) (ho : o = some p) (hw : way ≠ 5) (hV : ValIn w post r p.1 p.2 il') (R0 : ValIn w news v lo xs il) (hs : ∀ q ∈ news, q ∈ post) :
    ResV w post r D ∧ ValIn w post v lo (ownAfter way xs D) il ∧ ∀ p ∈ news, p.1 ≠ il → p ∈ post := by
  subst hd ho
  refine ⟨⟨il', hV⟩, ?_, fun q hq _ => hs q hq⟩
  rw [show ownAfter way xs (.ofOr (some p)) = xs from if_neg hw]
  exact R0.mono hs
set_option maxRecDepth 100000 in
set_option maxHeartbeats 2000000 in
theorem done_does {w : World} {mean : ExcName → Option Value} {mg mb : Str → Option Value} {v v2 : Value} {way lo lo2 : Int} {xs rs : List Int} {il il2 : Addr} {a b c e f : Int} {tw ta tb tc te tf : Tok} {el : Addr} {ne : Nat} {news : Led}
   (R : ValIn w news v lo xs il) (R2 : ValIn w news v2 lo2 rs il2) (hE : (el, listOf #[.int a ta, .int b tb, .int c tc, .int e te, .int f tf] ne) ∈ news) (hne : el ≠ il) (hne2 : il2 ≠ il)
   (hw : 0 ≤ way ∧ way ≤ 6) (hl : xs.length ≤ 20) (hb : -500 ≤ lo ∧ lo ≤ 500) (hl2 : rs.length ≤ 20) (hb2 : -500 ≤ lo2 ∧ lo2 ≤ 500) (hab : a - 1 ≤ b) (hba : b ≤ a + 20) (ha : -900 ≤ a ∧ a ≤ 900) (hce : c - 1 ≤ e) (hec : e ≤ c + 20) (hc : -900 ≤ c ∧ c ≤ 900) (hf : 0 ≤ f ∧ f ≤ 1) :
   DoesE 120 w mean mg mb 232 [.int way tw, v, v2, .ref el] news (fun r post => ResV w post r (dueR way lo xs lo2 rs a b c e f) ∧ ValIn w post v lo (ownAfter way xs (dueR way lo xs lo2 rs a b c e f)) il ∧ ∀ p ∈ news, p.1 ≠ il → p ∈ post) (dueR way lo xs lo2 rs a b c e f = .none) := by
  refine ValIn.elim R ?_
  clear R
  intro x dx bl tp vs hi k1 k2 t t' n1 n2 n3 n4 hx hdx hbl htp ehi hil hI R0
  refine ValIn.elim R2 ?_
  clear R2
  intro x2 dx2 bl2 tp2 vs2 hi2 k12 k22 t2 t2' n12 n22 n32 n42 hx2 hdx2 hbl2 htp2 ehi2 hil2 hI2 R20
  unfold DoesE
  k_fill
  intro dp un gd cn cs' ac ccd cl outer A₀ base h₀ L m s Q E B F X N T hk hd' hu hret hexc
  refine wpAny_call ?_
  obtain ⟨ck, cnm, cg, cco, cmo⟩ := cs'
  dsimp only at hk
  subst hk
  k_dflt k_enter
  k_steps
  · have hD : dueR way lo xs lo2 rs a b c e f = .ofOr (partR lo xs a b) := by rw [dueR, if_pos (by omega)]
    show wpAny _ _ (call _ _) _ _ _
    k_dflt (refine' DoesE.use (slice_value_does R0 (by omega) (by omega) hab (by omega) (by omega)) ?B ?F ?X ?N ?T ?hk ?hd ?hu ?r91 ?e91; walk_at "USE")
    case' r91 => (rintro r1 post1 h1 tk1 F1 N1 ⟨p, il1, tl1, hp, hV, rfl, hoff⟩; try dsimp only)
    case' e91 => (intro g1 e1 h1 tk1 hp F1 U1 R1)
    · k_steps
      rename Flies _ _ _ _ _ _ _ => R9
      exact hexc _ _ _ _ (by rw [hD, hp]; rfl) (by k_asm) (by assumption) (R9.mono (fun p hp => hp))
    · k_steps
      rename Fr h₀ L _ _ => F9
      rename News h₀ L _ _ => N9
      exact hret _ _ _ _ F9 N9 (done_fin hD hp (by omega) hV R0 (fun q hq => List.mem_append_right _ hq))
  · have hD : dueR way lo xs lo2 rs a b c e f = .ofOr (movedR xs a (a + xs.length - 1 + f)) := by rw [dueR, if_neg (by omega), if_pos (by omega)]
    show wpAny _ _ (call _ _) _ _ _
    k_dflt (refine' DoesE.use (slide_does (lo := lo) (xs := xs) (c := a) (d := a + xs.length - 1 + f) ?R92 ?p92 ?q92 (by omega) (by omega) (by omega) (by omega) (by omega)) ?B ?F ?X ?N ?T ?hk ?hd ?hu ?r92 ?e92; walk_at "USE"; (case R92 => exact R0.mono (by intro p hp; kcf_m)); (case p92 => exact .head _); (case q92 => exact .tail _ (.head _)))
    case' r92 => (rintro r1 post1 h1 tk1 F1 N1 ⟨il1, tl1, hV, rfl, hoff, hp⟩; try dsimp only)
    case' e92 => (intro g1 e1 h1 tk1 hp F1 U1 R1)
    · k_steps
      rename Flies _ _ _ _ _ _ _ => R9
      exact hexc _ _ _ _ (by rw [hD, movedR, if_neg hp]; rfl) (by k_asm) (by assumption) (R9.mono (by intro p hp; kcf_m))
    · k_steps
      rename Fr h₀ L _ _ => F9
      rename News h₀ L _ _ => N9
      exact hret _ _ _ _ F9 N9 (done_fin hD (if_pos hp) (by omega) hV R0 (by intro q hq; kcf_m))
  · have hD : dueR way lo xs lo2 rs a b c e f = .ofOr (behindR lo xs lo2 rs (f == 1)) := by rw [dueR, if_neg (by omega), if_neg (by omega), if_pos (by omega)]
    show wpAny _ _ (call _ _) _ _ _
    k_dflt (refine' DoesE.use (concat_does R0 R20 (by omega) (by omega) (by omega) (by omega)) ?B ?F ?X ?N ?T ?hk ?hd ?hu ?r93 ?e93; walk_at "USE")
    case' r93 => (rintro r1 post1 h1 tk1 F1 N1 ⟨p, il1, tl1, hp, hV, rfl, hoff⟩; try dsimp only)
    case' e93 => (intro g1 e1 h1 tk1 hp F1 U1 R1)
    · k_steps
      rename Flies _ _ _ _ _ _ _ => R9
      exact hexc _ _ _ _ (by rw [hD, hp]; rfl) (by k_asm) (by assumption) (R9.mono (fun p hp => hp))
    · k_steps
      rename Fr h₀ L _ _ => F9
      rename News h₀ L _ _ => N9
      exact hret _ _ _ _ F9 N9 (done_fin hD hp (by omega) hV R0 (fun q hq => List.mem_append_right _ hq))
  · have hD : dueR way lo xs lo2 rs a b c e f = .ofOr (behindR lo xs (-6) [77] (f == 1)) := by rw [dueR, if_neg (by omega), if_neg (by omega), if_neg (by omega), if_pos (by omega)]
    show wpAny _ _ (call _ _) _ _ _
    k_dflt (refine' Does.use one_does ?B ?F ?X ?N ?T ?hk ?hd ?hu ?_; walk_at "USE")
    rintro r1 post1 h1 tk1 F1 N1 ⟨il1, tl1, hV1, rfl, hoff1⟩
    obtain ⟨x3, hx3⟩ := hV1.ref
    subst hx3
    try dsimp only
    k_steps
    show wpAny _ _ (call _ _) _ _ _
    k_dflt (refine' DoesE.use (concat_does (lo := lo) (xs := xs) (lo2 := (-6)) (rs := [77]) ?Q94 ?V94 (by first | omega | simp) (by omega) (by first | omega | simp) (by omega)) ?B ?F ?X ?N ?T ?hk ?hd ?hu ?r94 ?e94; walk_at "USE"; (case V94 => exact hV1); (case Q94 => exact R0.mono (by intro p hp; kcf_m)))
    case' r94 => (rintro r2 post2 h2 tk2 F2 N2 ⟨p, il2', tl2, hp, hV, rfl, hoff⟩; try dsimp only)
    case' e94 => (intro g2 e2 h2 tk2 hp F2 U2 R2)
    · k_steps
      rename Flies _ _ _ _ _ _ _ => R9
      exact hexc _ _ _ _ (by rw [hD, hp]; rfl) (by k_asm) (by assumption) (R9.mono (by intro p hp; kcf_m))
    · k_steps
      rename Fr h₀ L _ _ => F9
      rename News h₀ L _ _ => N9
      exact hret _ _ _ _ F9 N9 (done_fin hD hp (by omega) hV R0 (by intro q hq; kcf_m))
  · have hD : dueR way lo xs lo2 rs a b c e f = .ofOr (behindR (-6) [78] lo xs (f == 1)) := by rw [dueR, if_neg (by omega), if_neg (by omega), if_neg (by omega), if_neg (by omega), if_pos (by omega)]
    show wpAny _ _ (call _ _) _ _ _
    k_dflt (refine' Does.use one_does ?B ?F ?X ?N ?T ?hk ?hd ?hu ?_; walk_at "USE")
    rintro r1 post1 h1 tk1 F1 N1 ⟨il1, tl1, hV1, rfl, hoff1⟩
    obtain ⟨x3, hx3⟩ := hV1.ref
    subst hx3
    try dsimp only
    k_steps
    show wpAny _ _ (call _ _) _ _ _
    k_dflt (refine' DoesE.use (concat_does (lo := (-6)) (xs := [78]) (lo2 := lo) (rs := xs) ?V95 ?Q95 (by first | omega | simp) (by omega) (by first | omega | simp) (by omega)) ?B ?F ?X ?N ?T ?hk ?hd ?hu ?r95 ?e95; walk_at "USE"; (case V95 => exact hV1); (case Q95 => exact R0.mono (by intro p hp; kcf_m)))
    case' r95 => (rintro r2 post2 h2 tk2 F2 N2 ⟨p, il2', tl2, hp, hV, rfl, hoff⟩; try dsimp only)
    case' e95 => (intro g2 e2 h2 tk2 hp F2 U2 R2)
    · k_steps
      rename Flies _ _ _ _ _ _ _ => R9
      exact hexc _ _ _ _ (by rw [hD, hp]; rfl) (by k_asm) (by assumption) (R9.mono (by intro p hp; kcf_m))
    · k_steps
      rename Fr h₀ L _ _ => F9
      rename News h₀ L _ _ => N9
      exact hret _ _ _ _ F9 N9 (done_fin hD hp (by omega) hV R0 (by intro q hq; kcf_m))
  · have hD : dueR way lo xs lo2 rs a b c e f = .ofOr (givenR lo xs a b c e) := by rw [dueR, if_neg (by omega), if_neg (by omega), if_neg (by omega), if_neg (by omega), if_neg (by omega), if_pos (by omega)]
    show wpAny _ _ (call _ _) _ _ _
    k_dflt (refine' DoesE.use (slice_place_does R0 (by omega) (by omega) hab (by omega) (by omega)) ?B ?F ?X ?N ?T ?hk ?hd ?hu ?r61 ?e61; walk_at "USE")
    case' r61 => (rintro r1 post1 h1 tk1 F1 N1 ⟨tl1, e1, ⟨pl1, bd1, ts1, u1, u2, u3, m1, m2, e2, hpl1, hbd1⟩, hB1⟩; subst e1; subst e2; try dsimp only)
    case' e61 => (intro g1 e1 h1 tk1 hp F1 U1 R1)
    · k_steps
      rename Flies _ _ _ _ _ _ _ => R9
      exact hexc _ _ _ _ (by rw [hD, givenR, show partR lo xs a b = none by rw [partR, if_neg (by omega), if_neg (by omega)]]; rfl) (by k_asm) (by assumption) R9
    obtain ⟨p1, hp1, hp11, hp12, -⟩ := part_take hB1 hab
    have hE1 := List.mem_append_right tl1 hE
    k_steps
    show wpAny _ _ (call _ _) _ _ _
    k_dflt (refine' DoesE.use (slice_place_does (R0.mono fun q hq => List.mem_append_right tl1 hq) (by omega) (by omega) hce (by omega) (by omega)) ?B ?F ?X ?N ?T ?hk ?hd ?hu ?r62 ?e62; walk_at "USE")
    case' r62 => (rintro r2 post2 h2 tk2 F2 N2 ⟨tl2, e1, ⟨pl2, bd2, ts2, w1, w2, w3, m3, m4, e2, hpl2, hbd2⟩, hB2⟩; subst e1; subst e2; try dsimp only)
    case' e62 => (intro g2 e2 h2 tk2 hp F2 U2 R2)
    · k_steps
      rename Flies _ _ _ _ _ _ _ => R9
      exact hexc _ _ _ _ (by rw [hD, givenR, hp1, show partR lo xs c e = none by rw [partR, if_neg (by omega), if_neg (by omega)]]; rfl) (by k_asm) (by assumption) (R9.mono fun q hq => List.mem_append_right _ hq)
    k_steps
    show wpAny _ _ (call _ _) _ _ _
    k_dflt (refine' Does.use (read_does (R0.mono fun q hq => List.mem_append_right tl2 (List.mem_append_right tl1 hq)) ⟨pl2, bd2, ts2, w1, w2, w3, m3, m4, rfl, hpl2, hbd2⟩ hB2 (by omega) (by omega) hce (by omega) (by omega)) ?B ?F ?X ?N ?T ?hk ?hd ?hu ?_; walk_at "USE")
    rintro r3 post3 h3 tk3 F3 N3 ⟨p2, il3, tl3, hp2, hV3, e3, hoff3⟩
    subst e3
    have hil3 : (il, listOf vs.toArray n4) ∈ tl3 ++ (tl2 ++ (tl1 ++ news)) := by kcf_m
    have hpl3 := List.mem_append_right tl3 (List.mem_append_right tl2 hpl1)
    have hbd3 := List.mem_append_right tl3 (List.mem_append_right tl2 hbd1)
    obtain ⟨p2', hp2', hp21, hp22, -⟩ := part_take hB2 hce
    rw [hp2] at hp2'
    cases hp2'
    obtain ⟨x3, hx3⟩ := hV3.ref
    subst hx3
    try dsimp only
    k_steps
    show wpAny _ _ (call _ _) _ _ _
    k_dflt (refine' DoesE.use (check_does (lo := p2.1) (c := a) (d := b) (xs := p2.2) ?R64 ?p64 ?q64 (by omega) (by omega) (by omega) hab (by omega)) ?B ?F ?X ?N ?T ?hk ?hd ?hu ?r64 ?e64; walk_at "USE"; (case R64 => exact hV3.mono (by intro p hp; kcf_m)); (case p64 => exact .head _); (case q64 => kcf_m))
    case' r64 => (rintro r4 post4 h4 tk4 F4 N4 ⟨e4, ⟨tl4, e5⟩, hB4⟩; subst e4; subst e5; try dsimp only)
    case' e64 => (intro g4 e4 h4 tk4 hp F4 U4 R4)
    · k_steps
      rename Flies _ _ _ _ _ _ _ => R9
      exact hexc _ _ _ _ (by rw [hD, givenR, hp1, hp2]; simp only [movedR, if_neg hp]; rfl) (by k_asm) (by assumption) (R9.mono (by intro p hp; kcf_m))
    have hil4 := post_mem N4 hil3
    have hsub4 := fun q (hq : q ∈ news) => post_mem N4 (List.mem_append_right tl3 (List.mem_append_right tl2 (List.mem_append_right tl1 hq)))
    have hx4 := mem_less N4 hil4 (post_mem N4 (List.mem_append_right tl3 (List.mem_append_right tl2 (List.mem_append_right tl1 hx)))) ne_inst
    have hdx4 := mem_less N4 hil4 (post_mem N4 (List.mem_append_right tl3 (List.mem_append_right tl2 (List.mem_append_right tl1 hdx)))) ne_dict
    have hbl4 := mem_less N4 hil4 (post_mem N4 (List.mem_append_right tl3 (List.mem_append_right tl2 (List.mem_append_right tl1 hbl)))) (ne_refs hI)
    have htp4 := mem_less N4 hil4 (post_mem N4 (List.mem_append_right tl3 (List.mem_append_right tl2 (List.mem_append_right tl1 htp)))) ne_tup
    have hpl4 := mem_less N4 hil4 (post_mem N4 hpl3) ne_tup
    have hV4 := ValIn.less' (hV3.mono fun q hq => post_mem N4 hq) N4 hil4 hI (fun e => hoff3 _ (List.mem_append_right tl2 (List.mem_append_right tl1 hil)) e.symm)
    k_steps
    show wpAny _ _ (call _ _) _ _ _
    rename News _ _ _ (tl4 ++ _) => N5
    have N6 := news_less N5 hil4
    k_dflt (refine' Does.use (write_does hx4 hdx4 hpl4 hV4 hI less_off (by split <;> omega) (by split <;> omega) (by omega)) ?B ?F ?X ?N ?T ?hk ?hd ?hu ?_; walk_at "USE")
    rintro r5 post5 h5 tk5 F5 N5' ⟨e5, tl5, vs', e6, hI5, hoff5⟩
    subst e5
    subst e6
    try dsimp only
    k_steps
    rename Fr h₀ L _ _ => F9
    rename News h₀ L _ _ => N9
    have eS : setAll xs (if b < a then 0 else a - lo).toNat p2.2 = setAll xs (a - lo).toNat p2.2 := by
      by_cases hba' : b < a
      · have e0 : p2.2 = [] := by apply List.eq_nil_of_length_eq_zero; omega
        rw [e0]; rfl
      · rw [if_neg hba']
    rw [eS] at hI5
    have eG : givenR lo xs a b c e = some (lo, setAll xs (a - lo).toNat p2.2) := by
      rw [givenR, hp1, hp2]
      simp only [movedR, if_pos hB4]
    rw [eG] at hD
    have hV9 : ValIn w (tl5 ++ (il, listOf vs'.toArray n4) :: _) (.ref x) lo (setAll xs (a - lo).toNat p2.2) il :=
      ValIn.mk (List.mem_append_right _ (.tail _ hx4)) (List.mem_append_right _ (.tail _ hdx4)) (List.mem_append_right _ (.tail _ hbl4)) (List.mem_append_right _ (.tail _ htp4)) (by rw [setAll_length]; exact ehi) (List.mem_append_right _ (.head _)) hI5
    refine hret _ _ _ _ F9 N9 ⟨?_, ?_, fun q hq hne => List.mem_append_right _ (.tail _ (less_mem.mpr ⟨hsub4 q hq, hne⟩))⟩
    · rw [hD]
      exact ⟨il, hV9⟩
    · rw [hD, show ownAfter way xs (.ofOr (some (lo, setAll xs (a - lo).toNat p2.2))) = setAll xs (a - lo).toNat p2.2 from if_pos (by omega)]
      exact hV9
  · have hD : dueR way lo xs lo2 rs a b c e f = getR lo xs a := by rw [dueR, if_neg (by omega), if_neg (by omega), if_neg (by omega), if_neg (by omega), if_neg (by omega), if_neg (by omega)]
    show wpAny _ _ (call _ _) _ _ _
    k_dflt (refine' DoesE.use (get_does (lo := lo) (xs := xs) (a := a) (ta := ta) ?R97 ?p97 (by omega) (by omega) (by omega)) ?B ?F ?X ?N ?T ?hk ?hd ?hu ?r97 ?e97; walk_at "USE"; (case R97 => exact R0.mono (by intro p hp; kcf_m)); (case p97 => exact .head _))
    case' r97 => (rintro r1 post1 h1 tk1 F1 N1 ⟨⟨t9, rfl⟩, ⟨tl1, rfl⟩, hp⟩; try dsimp only)
    case' e97 => (intro g1 e1 h1 tk1 hp F1 U1 R1)
    · k_steps
      rename Flies _ _ _ _ _ _ _ => R9
      exact hexc _ _ _ _ (by rw [hD, getR, if_neg hp]) (by k_asm) (by assumption) (R9.mono (by intro p hp; kcf_m))
    · k_steps
      rename Fr h₀ L _ _ => F9
      rename News h₀ L _ _ => N9
      refine hret _ _ _ _ F9 N9 ⟨by rw [hD, getR, if_pos hp]; exact ⟨_, rfl⟩, ?_, by intro q hq _; kcf_m⟩
      rw [show ownAfter way xs (dueR way lo xs lo2 rs a b c e f) = xs from if_neg (by omega)]
      exact R0.mono (by intro q hq; kcf_m)

end
section
section
variable {prog : Program} {w : World} {A₀ : Around} {E : Value → Shared → Prop} {s' : Shared} {base g G : Heap} {outer : List Env} {L a e : Addr} {m : Str → Option Value} {name : Str} {scope : Scope} {cd : Value}
  {n : Str} {b₀ : Stmt} {suite : List Stmt} {pos np : Pos} {rest : List ExceptHandler} {Q : Flow → Shared → Prop} {news : Led} {KF : Frag}
  {p : Program} {loose : List Str} {mean : ExcName → Option Value} {mg mb : Str → Option Value} {x : Str}
/-- a clause that names the class of what flies, and keeps it under a name: its own dict is as it was -/
theorem caught_D (R : Flies w base G (envOf name scope L a cd :: outer) e news s'.heap) (F : Fr g L G m) (K : Below A₀ base outer g) (hsm : G.UpToSlots s'.heap) (XB : KF.In base) (TB : Top p loose mean mg mb base)
    (D : KtsDicts (outer.filterMap (·.frame)) g) (ex : nsIn KF mainGlobals x = some (some (.ref 51))) (q : ktsIn KF 51 "BaseException" = true)
    (k : ∀ h' g' tk dd od ob ws, KtsTurn (outer.filterMap (·.frame)) g g' → Fr g' L h' (fun y => if y = n then some (.ref e) else m y) → News g' L h' ((e, ob) :: (dd, od) :: news) → ob.cls = .ref 51 → ob.dict = some dd → ob.data = .fields ws → WordIs w od →
      Below A₀ base outer g' → KF.In g' → Top p loose mean mg mb g' → KtsDicts (outer.filterMap (·.frame)) g' →
      wpAny (model prog w) ((A₀.deeper (envOf name scope L a cd)).mark (some (.ref e))) (execs (b₀ :: suite) (envOf name scope L a cd))
        (fun f s₄ => wpAny (model prog w) (A₀.deeper (envOf name scope L a cd)) (do bindName (envOf name scope L a cd) n .none; unbindBehindTheSuite (envOf name scope L a cd) n pos) (fun _ s₅ => Q f s₅) E s₄)
        (AsSuiteRaised (model prog w) ((A₀.deeper (envOf name scope L a cd)).mark (some (.ref e))) (envOf name scope L a cd) n pos (notedBy (model prog w) ((A₀.deeper (envOf name scope L a cd)).mark (some (.ref e))) (envOf name scope L a cd) (cameBackBy (model prog w) (A₀.deeper (envOf name scope L a cd)) (envOf name scope L a cd) E)))
        { s' with heap := h', toks := tk })
    (hk : scope.kind = .function := by rfl) (hlo : (envOf name scope L a cd).kindOf n = some .local := by rfl) (hx : (envOf name scope L a cd).kindOf x = some .globalImplicit := by rfl) (hd : (x == ("__debug__" : Str)) = false := by decide) :
    wpAny (model prog w) (A₀.deeper (envOf name scope L a cd)) (noteFrame (.ref e) (envOf name scope L a cd))
      (fun _ s₂ => wpAny (model prog w) (A₀.deeper (envOf name scope L a cd)) (setFlight (.ref e) none) (fun _ s₃ =>
        wpAny (model prog w) (A₀.deeper (envOf name scope L a cd)) (handleBy (.ref e) (envOf name scope L a cd) (.ExceptHandler (some (.Name x np)) (some n) (b₀ :: suite) pos :: rest)) Q E s₃) E s₂) E s' := by
  obtain ⟨t, vs, dd, od, ⟨⟨B, hB, hBG, hl, hfl, hnew⟩, htup⟩, ⟨oe0, heo0, hde0⟩, W⟩ := R
  have hL : B.get? L = none := by
    obtain ⟨_, ⟨L', _, hf, hn', _⟩, _⟩ := hfl.2.2.1
    obtain rfl : L = L' := Option.some.inj hf
    exact hn'
  refine wpAny_mono (calm_any calm_noteFrame (wpAny_looks_onW (Q := fun _ s₂ => ∃ h₄, Heap.HeldW B (envOf name scope L a cd :: outer) e (.ref 51) (.ref t) L h₄ ∧ s'.heap.UpToSlots h₄ ∧ s₂ = { s' with heap := h₄ }) (Around.frames_deeper K.stack) rfl hfl fun h₄ hheld₄ hsm₄ => ⟨h₄, hheld₄, hsm₄, rfl⟩)) (fun _ s₂ hs => ?_) fun _ _ z => z
  obtain ⟨⟨h₄, hheld₄, hsm₄, rfl⟩, sd₄⟩ := hs
  refine wpAny_mono (calm_any calm_setFlight (wpAny_landsW (Q := fun _ s₂ => ∃ h₅, Heap.FlyingW B (envOf name scope L a cd :: outer) e (.ref 51) (.ref t) h₅ ∧ h₄.UpToSlots h₅ ∧ s₂ = { s' with heap := h₅ }) hheld₄ fun h₅ hheld hsm₅' => ⟨h₅, hheld, hsm₅', rfl⟩)) (fun _ s₃ hs => ?_) fun _ _ z => z
  obtain ⟨⟨h₅, hheld, hsm₅', rfl⟩, sd₅⟩ := hs
  have hsm₅ := hsm₄.trans hsm₅'
  obtain ⟨g₅, T₅, F₅, K₅⟩ := kts_ground K F hBG hheld.1 (hsm.trans hsm₅)
  have X₅ : KF.In g₅ := XB.keeps K₅.stays
  have P₅ : TopRead p loose mg mb g₅ := topRead_of (TB.keeps K₅.stays)
  obtain ⟨ob, hob, hobc⟩ := hheld.there
  obtain ⟨nm, q', N, bs, bm, hdct, sn, sub, ab, col, ddc, k0, k1, k2, k3, k5, newId, hC, hbase, hbT⟩ := kts_cls X₅ q
  have hC₅ := F₅.keep _ _ hC
  refine wpAny_handleBy_cons (codeAny_handlers_test (name_K F₅ X₅ P₅ ex ?_ hk hx hd)) (by intro q; cases q)
  refine wpAny_excMatches_sub_self hC₅ hob hobc hbase (codeAny_handlers_suite_as ?_)
  refine wpAny_mono (calm_any calm_setFlight (lands_againW (Q := fun _ s₂ => ∃ h₆, Heap.FlyingW B (envOf name scope L a cd :: outer) e (.ref 51) (.ref t) h₆ ∧ h₅.UpToSlots h₆ ∧ s₂ = { s' with heap := h₆ }) hheld fun h₆ hfl₆ hsm₆ => ⟨h₆, hfl₆, hsm₆, rfl⟩)) (fun _ s₃ hs => ?_) fun _ _ z => z
  obtain ⟨⟨h₆, hfl₆, hsm₆, rfl⟩, sd₆⟩ := hs
  obtain ⟨g₆, T₆, F₆, K₆⟩ := kts_ground K F hBG hfl₆.1 ((hsm.trans hsm₅).trans hsm₆)
  obtain ⟨oe, ws, hoe, hoec, hoed, hoe0⟩ := hfl₆.first
  have hdict : oe.dict = some dd := by
    obtain ⟨o1, h1, d1⟩ := sd₄ _ _ heo0
    obtain ⟨o2, h2, d2⟩ := sd₅ _ _ h1
    obtain ⟨o3, h3, d3⟩ := sd₆ _ _ h2
    dsimp only at h3
    rw [hoe] at h3
    cases h3
    rw [d3, d2, d1, hde0]
  have ne₆ : g₆.get? e = none := T₆.none_ _ (kts_fresh F hBG hfl₆.2.1 fun o ho m => by
    obtain ⟨_, o', ho', hd⟩ := K.frames.mem m
    rw [ho] at ho'
    cases ho'
    obtain ⟨sl, hs⟩ := ((hsm.trans hsm₅).trans hsm₆) _ _ (F.keep _ _ ho) hd
    rw [hoe] at hs
    cases hs
    exact hd _ hoed)
  have N₆ := News.more F₆ News.nil hoe (fun es n q => by rw [hoed] at q; cases q) ne₆
  have Nl : News g₆ L h₆ ((dd, od) :: news) := fun q hq => ⟨hfl₆.1 _ _ (hl q hq).1, (fun z => by have := (hl q hq).1; rw [z, hL] at this; cases this), T₆.none_ _ (kts_none F.keep (hl q hq).2.1)⟩
  have X₆ : KF.In g₆ := XB.keeps K₆.stays
  have P₆ : Top p loose mean mg mb g₆ := TB.keeps K₆.stays
  have D₆ : KtsDicts (outer.filterMap (·.frame)) g₆ := D.turn T₆
  refine stN F₆ (news := [(e, oe)] ++ (dd, od) :: news) (fun q hq => (List.mem_append.mp hq).elim (N₆ q) (Nl q)) (fun h₇ F₇ N₇ => ?_) hk hlo
  exact k h₇ g₆ _ dd od oe ws T₆ F₇ N₇ hoec hdict hoed W K₆ X₆ P₆ D₆
end

end
section
section
variable {prog : Program} {w : World} {A : Around} {E : Value → Shared → Prop} {s : Shared} {K : Frag} {x C : Addr} {ox : Obj} {od : Option Obj} {name : Str} {expr : Bool} {Q : Value → Shared → Prop}
/-- an attribute of an exception object, out of its own dict -/
theorem xget {v : Value} (X : K.In s.heap) (I : InstAt s.heap x ox C od) (hga : findIn K (.ref C) "__getattribute__" = some (some (.builtin "BaseException.__getattribute__"))) (hgg : findIn K (.ref C) "__getattr__" = some none)
    (hb : mroIn K C (.type "BaseException") = some true)
    (hf : findObj K C od name = some (.value v)) (hh : handedIn v = true) (h : Q v { s with toks := s.toks + 1 }) : wpAny (model prog w) A (getAttr (.ref x) name expr) Q E s := by
  obtain ⟨hp, g, d, t, os⟩ := s
  dsimp only at X I h
  have FX := PySem.F.attr_Exception
  have L0 := I.type (M := model prog w)
  have L1 := looks_findIn (M := model prog w) X hga
  have L2 := looks_findIn (M := model prog w) X hgg
  have L3 := looks_find (M := model prog w) X I hf
  have L4 : Looks (model prog w) hp (isInstance (.ref x) (.type "BaseException")) true := L0.andThen (looks_mroIn X hb)
  have f3 := FX.ga.bind (.ref x)
  have hx0 : (expr && onTheHeap (Value.builtin "BaseException.__getattribute__")) = false := by cases expr <;> rfl
  have hx2 : (Value.builtin "BaseException.__getattribute__" == Value.builtin "object.__getattribute__") = false := by decide +kernel
  have chk : ∀ {A : Around} {E : Value → Shared → Prop} {Q : Unit → Shared → Prop} {tk : Nat} {nameV : Value}, Q () ⟨hp, g, d, tk, os⟩ → wpAny (model prog w) A (checkBuiltinCall "BaseException.__getattribute__" ⟨[.ref x, nameV], []⟩) Q E ⟨hp, g, d, tk, os⟩ := by
    intro A E Q tk nameV hq
    have hk : builtinKind "BaseException.__getattribute__" = some .slot := by decide +kernel
    have hsplit : splitId "BaseException.__getattribute__" = some ("BaseException", "__getattribute__") := by decide +kernel
    have ha := F.args_bexc_ga (.ref x) nameV
    exact @check_slot (model prog w) _ _ _ "BaseException.__getattribute__" "BaseException" "__getattribute__" (.ref x) [nameV] [] _ hk hsplit L4 ha hq
  unfold getAttr getAttrBy
  refine wpAny_bind (wpAny_mkText (wpAny_holding (wpAny_bind (L0.at (wpAny_bind (L1.at ?_))))))
  show wpAny _ _ (getAttrByItsOwn _ _ _ _ _ _) _ _ _
  unfold getAttrByItsOwn
  refine wpAny_bind ?_
  show wpAny _ _ (typeLookup (.ref C) _) _ _ _
  refine L2.at ?_
  repeat (any_goals (first | assumption | wp_step))
  refine codeAny_call_builtin FX.ga.plain F.entry_bexc_ga (chk ?_)
  refine wpAny_bind (wpAny_pure ?_)
  dsimp only
  refine wpAny_bind (wpAny_pure (wpAny_bind (L0.at (wpAny_bind (L3.at ?_)))))
  refine wpAny_pure ?_
  show wpAny _ _ (handedOut v) _ _ _
  rw [handedOut_of hh]
  exact wpAny_pure h
end

end
section
example : True := by
  (k_with "call ref" => (k_here; (with_reducible show wpAny _ _ (call (Value.ref 232) _) _ _ _); refine stop_it ?_))
  trivial
/-- `Does` for a call that stands in the law itself -/
def DoesL (k : Nat) (w : World) (mean : ExcName → Option Value) (mg mb : Str → Option Value) (f : Addr) (vs : List Value) (pre : Led) (ret : Value → Led → Prop) : Prop :=
  ∀ (dp un : Nat) (gd : Option (List Code)) (cn : Str) (cs : Scope) (a : Addr) (ccd : Value) (A₀ : Around) (base h₀ : Heap) (L : Addr) (m : Str → Option Value) (s : Shared)
    (Q E : Value → Shared → Prop),
    Below A₀ base [] h₀ → (heapK w.params).In base → Top viewV (looseW viewV []) mean mg mb base → Fr h₀ L s.heap m → (heapK w.params).In h₀ → News h₀ L s.heap pre → Top viewV (looseW viewV []) mean mg mb h₀ → cs.kind = .function → dp + k < recursionLimit → un + 8 * k < cLine →
    (∀ r post h' tk', Fr h₀ L h' m → News h₀ L h' post → ret r post → Q r { s with heap := h', toks := tk' }) →
    wpAny (model Challenge.rw_pb0006_01.row.prog w) (ktrTop dp un gd cn cs L a ccd [] []) (call (.ref f) vs) Q E s
def HeardV (w : World) (led : Led) (r : Value) (D : Res) : Prop := match D with
  | .none => ∃ t, r = .str (Str.ofString "constraint_error") t
  | D => ResV w led r D
theorem HeardV.of {w : World} {led : Led} {r : Value} {D : Res} (h : ResV w led r D) : HeardV w led r D := by
  cases D with
  | none => exact h.elim
  | int _ => exact h
  | row _ => exact h
theorem word_inst {h₀ h : Heap} {L e dd : Addr} {od ob : Obj} {news : Led} {ws : Array Value} (N : News h₀ L h ((e, ob) :: (dd, od) :: news)) (hc : ob.cls = .ref 51) (hd : ob.dict = some dd) (hw : ob.data = .fields ws) : InstAt h e ob 51 (some od) :=
  ⟨(N _ (.head _)).1, hc, by unfold notCls; rw [hw], by rw [hd]; exact (N _ (.tail _ (.head _))).1⟩
theorem word_find {w : World} {od : Obj} (W : WordIs w od) : ∃ t, findObj (heapK w.params) 51 (some od) (Str.ofString "word") = some (.value (.str (Str.ofString "constraint_error") t)) := by
  obtain ⟨k1, k2, k3, k4, v1, v2, v4, tw, n, rfl⟩ := W
  exact ⟨tw, by with_unfolding_all rfl⟩
example : True := by
  (k_with "getAttr ref" => (k_here; (with_reducible show wpAny _ _ (getAttr (Value.ref _) _ _) _ _ _); refine stop_it ?_))
  trivial
set_option maxRecDepth 100000 in
set_option maxHeartbeats 1000000 in
theorem heard_does {w : World} {mean : ExcName → Option Value} {mg mb : Str → Option Value} {v v2 : Value} {way lo lo2 : Int} {xs rs : List Int} {il il2 : Addr} {a b c e f : Int} {tw ta tb tc te tf : Tok} {el : Addr} {ne : Nat} {news : Led}
   (R : ValIn w news v lo xs il) (R2 : ValIn w news v2 lo2 rs il2) (hE : (el, listOf #[.int a ta, .int b tb, .int c tc, .int e te, .int f tf] ne) ∈ news) (hne : el ≠ il) (hne2 : il2 ≠ il)
   (hw : 0 ≤ way ∧ way ≤ 6) (hl : xs.length ≤ 20) (hb : -500 ≤ lo ∧ lo ≤ 500) (hl2 : rs.length ≤ 20) (hb2 : -500 ≤ lo2 ∧ lo2 ≤ 500) (hab : a - 1 ≤ b) (hba : b ≤ a + 20) (ha : -900 ≤ a ∧ a ≤ 900) (hce : c - 1 ≤ e) (hec : e ≤ c + 20) (hc : -900 ≤ c ∧ c ≤ 900) (hf : 0 ≤ f ∧ f ≤ 1) :
   DoesL 140 w mean mg mb 246 [.int way tw, v, v2, .ref el] news (fun r post => HeardV w post r (dueR way lo xs lo2 rs a b c e f) ∧ ValIn w post v lo (ownAfter way xs (dueR way lo xs lo2 rs a b c e f)) il ∧ ∀ p ∈ news, p.1 ≠ il → p ∈ post) := by
  unfold DoesL
  k_fill
  intro dp un gd cn cs' ac ccd A₀ base h₀ L m s Q E B XB TB F X N T hk hd' hu hret
  refine wpAny_call ?_
  obtain ⟨ck, cnm, cg, cco, cmo⟩ := cs'
  dsimp only at hk
  subst hk
  k_dflt k_enter
  k_steps
  show wpAny _ _ (call _ _) _ _ _
  k_dflt (refine' DoesE.use (done_does R R2 hE hne hne2 hw hl hb hl2 hb2 hab hba ha hce hec hc hf) ?B ?F ?X ?N ?T ?hk ?hd ?hu ?r91 ?e91; walk_at "USE")
  case' r91 => (rintro r1 post1 h1 tk1 F1 N1 ⟨hV, hO, hsub⟩; try dsimp only)
  case' e91 => (intro g1 e1 h1 tk1 hp F1 U1 R1)
  · show wpAny _ _ (noteFrame _ _) _ _ _
    refine caught_D R1 F1 (by k_asm) U1 XB TB (by assumption) (by k_is) (by with_unfolding_all rfl) ?_
    intro h2 g2 tk2 dd od ob ws T2 F2 N2 hoc hod how W2 B2 X2 T2' D2
    k_steps
    show wpAny _ _ (getAttr _ _ _) _ _ _
    obtain ⟨t9, hf9⟩ := word_find W2
    refine xget (X2.keeps F2.keep) (word_inst N2 hoc hod how) (by k_is) (by k_is) (by with_unfolding_all rfl) hf9 rfl ?_
    k_steps
    rename Fr h₀ L _ _ => F9
    rename News h₀ L _ _ => N9
    refine hret _ _ _ _ F9 N9 ⟨by rw [hp]; exact ⟨t9, rfl⟩, ?_, fun q hq _ => .tail _ (.tail _ hq)⟩
    rw [hp, show ownAfter way xs .none = xs by unfold ownAfter; split <;> rfl]
    exact R.mono fun q hq => .tail _ (.tail _ hq)
  · k_steps
    rename Fr h₀ L _ _ => F9
    rename News h₀ L _ _ => N9
    exact hret _ _ _ _ F9 N9 ⟨.of hV, hO, hsub⟩

end
example : True := by
  k_with_none
  trivial
example : True := by
  (k_with "ALL" => exact ltNe' (by assumption) (by omega))
  (k_with "ALL" => exact ltNe (by assumption) (by omega))
  (k_with "ALL" => exact allLtNe (by assumption))
  trivial
example : True := by
  (k_with "call ref" => (k_here; (with_reducible show wpAny _ _ (call (Value.ref 191) [Value.ref _, Value.int _ _]) _ _ _); k_dflt (refine Does.on (by k_asm) (by k_asm) (by k_asm) (by k_asm) (by k_asm) (by rfl) (by ktr_room) (by ktr_units) (pull_does (by k_updF) (by assumption) (by k_mem) (by assumption) (by assumption) (by omega) (by omega)) ?_; k_whole); (rintro r'7 post'7 h'7 tk'7 F'7 N'7 ⟨i'7, t'7, o'7, e1'7, lo'7, hi'7, D'7, e2'7⟩); subst e1'7; subst e2'7; (try dsimp only at N'7); (try dsimp only); (try k_fold); walk_say "PULL"))
  (k_with "exec For Name Call cons nil" => (k_here; (rename Fr _ _ _ _ => lF'7); (with_unfolding_all refine' For_invVF lF'7 ?k1 ?k2 ?_; (case k1 => exact rfl); (case k2 => exact rfl); k_whole)))
  (k_with "pyIter ref" => (k_here; (with_reducible show wpAny _ _ (pyIter (Value.ref _)) (fun it s₂ => LoopAtV _ _ _ _ _ _ _ _ _ it s₂) _ _); refine stop_it ?_))
  trivial
example : True := by
  (k_with "setItem ref int" => (k_here; (with_reducible show wpAny _ _ (setItem (Value.ref _) (Value.int _ _) (Value.int _ _)) _ _ _); k_dflt (refine kdf_setItem (by k_asm) (by k_asm) (by k_updF) (by k_asm) (by k_asm) (by first | assumption | omega) ?_); intro h'7 o'7 kvs'7 F'7 N'7 hd'7 hf'7; (try dsimp only at N'7)))
  trivial
example : True := by
  (k_with "HAS" => first | assumption | (rw [rc_has]; exact decide_eq_true ⟨by first | assumption | omega, by first | exact has_lt (by assumption) (by assumption) | omega⟩))
  (k_with "getItem ref int" => (k_here; k_dflt (refine gi_dict (by k_tabat) (by walk_at "HAS") ?_); intro _))
  (k_with "subscriptTail" => (k_here; (with_reducible show wpAny _ _ (subscriptTail _ _ (Value.ref _) (Value.int _ _)) _ _ _); k_dflt (refine kdf_item (by k_tabat) (by walk_at "HAS") ?_); intro _))
  trivial
example : True := by
  (k_with "compareOp NotIn int ref" => (k_here; (with_reducible show wpAny _ _ (compareOp CmpOp.NotIn (Value.int _ _) (Value.ref _)) _ _ _); k_dflt (refine kdf_notin (by k_tabat) ?_)))
  (k_with "TurnPost" => dsimp only [TurnPost])
  (k_with "eval ListComp" => (k_here; (with_reducible show wpAny _ _ (eval (Expr.ListComp (Expr.Tuple _ _ _) _ _ _) _) _ _ _); k_dflt (refine LCg.ListComp_U (F₀ := by k_asm) (by with_unfolding_all rfl) (by decide) (by rfl) (by decide) (by rfl) ?_)))
  (k_with "CompSrc" => (k_here; (with_reducible show LCg.CompSrc _ _ _ _ _ _ _ (Expr.Tuple _ _ _) _ _ _ _ _ _); refine stop_it ?_))
  (k_with "CompEnd" => ((with_reducible show LCg.CompEnd _ _ _ _ _ _ _ _ _ _ _ (fun y n'7 => TupEl _ _ _ y n'7) _ _); refine tup_end (by k_asm) (by k_asm) (by assumption) (by assumption) (by first | rfl | omega) (by first | rfl | omega) (fun _ => trivial)))
  (k_with "call type:dict" => (k_here; (with_reducible show wpAny _ _ (call (Value.type "dict") [Value.ref _]) _ _ _); k_dflt (refine dict_pairs_K (by rfl) (by k_asm) (by k_asm) (TopRead.nolimit (by k_asm)) (by k_mem) (by assumption) (by simp only [List.length_map, rangeKs_length]; omega) ?_); intro D'7 h'7 o'7 kvs'7 tk'7 F'7 N'7 lo'7 hD'7 hf'7 lt'7))
  trivial
example : True := by
  (k_with "call builtin:sorted" => (k_here; (with_reducible show wpAny _ _ (call (Value.builtin "sorted") [Value.ref _]) _ _ _); k_dflt (refine sorted_rc (by rfl) (by k_asm) (by k_asm) (by k_tabat) (by omega) ?_); intro D'7 h'7 tk'7 vs'7 n'7 F'7 N'7 lt'7 i'7; (try simp only [AllLt, and_true] at lt'7)))
  (k_with "compareOp Eq ref" => (k_here; (with_reducible show wpAny _ _ (compareOp CmpOp.Eq (Value.ref _) (Value.ref _)) _ _ _); k_dflt (refine eq_empty (by k_tabat) (TabAt.ofNews (D := kdfD []) (by k_asm) (by k_mem) (by k_asm) (by k_asm) (by k_asm)) (by ktr_units) ?_)))
  (k_with "HAS" => (rw [rc_has]; exact decide_eq_true (range_mem (by assumption))))
  trivial
example : True := by
  (k_with "USE" => ((case B => k_asm); (case F => k_asm); (case X => k_asm); (case N => k_asm); (case T => k_asm); (case hk => rfl); (case hd => ktr_room); (case hu => ktr_units)))
  (k_with "call type:dict" => (k_here; (with_reducible show wpAny _ _ (call (Value.type "dict") [Value.ref _]) _ _ _); k_dflt (refine dict_copy_K (by k_asm) (by k_asm) (TopRead.nolimit (by k_asm)) (by k_tabat) (by rw [rc_length]; omega) ?_); intro D'7 h'7 o'7 kvs'7 F'7 N'7 lo'7 hD'7 hf'7 lt'7))
  (k_with "call builtin:dict.update" => (k_here; (first | (with_reducible show wpAny _ _ (call (Value.builtin "dict.update") [Value.ref _, Value.ref _]) _ _ _) | (k_dflt (show wpAny _ _ (call (Value.builtin "dict.update") [Value.ref _, Value.ref _]) _ _ _))); k_dflt (refine update_K (by k_asm) (by k_asm) (by k_updF) (by k_asm) (by k_asm) (by k_tabat) (not_of_lt (by assumption) (by k_mem)) (by rw [rc_length, rc_length]; omega) ?_); intro h'7 o'7 kvs'7 F'7 N'7 hD'7 hf'7; (try dsimp only at N'7)))
  trivial
example : True := by
  (k_with "UP" => first | assumption | exact RowIn.mono (by assumption) (by intro p hp; kcf_m))
  (k_with "call ref" => (k_here; (with_reducible show wpAny _ _ (call (Value.ref 208) [Value.ref _, Value.int _ _, Value.int _ _]) _ _ _); k_dflt (refine Does.on (by k_asm) (by k_asm) (by k_asm) (by k_asm) (by k_asm) (by rfl) (by ktr_room) (by ktr_units) (part_does (by walk_at "UP") (by omega) (by omega) (by omega) (by omega) (by omega)) ?_; k_whole); (rintro r'7 post'7 h'7 tk'7 F'7 N'7 ⟨tl'7, e'7, hR'7⟩; subst e'7); (try dsimp only); (try k_fold); walk_say "PART"))
  (k_with "call ref" => (k_here; (with_reducible show wpAny _ _ (call (Value.ref 213) [Value.ref _, Value.int _ _, Value.int _ _]) _ _ _); k_dflt (refine Does.on (by k_asm) (by k_asm) (by k_asm) (by k_asm) (by k_asm) (by rfl) (by ktr_room) (by ktr_units) (moved_does (by walk_at "UP") (by omega) (by omega) (by omega) (by omega) (by omega)) ?_; k_whole); (rintro r'7 post'7 h'7 tk'7 F'7 N'7 ⟨tl'7, e'7, hR'7⟩; subst e'7); (try dsimp only); (try k_fold); walk_say "MOVED"))
  (k_with "call ref" => (k_here; (with_reducible show wpAny _ _ (call (Value.ref 225) _) _ _ _); k_dflt (refine Does.on (by k_asm) (by k_asm) (by k_asm) (by k_asm) (by k_asm) (by rfl) (by ktr_room) (by ktr_units) (given_does (by walk_at "UP") (by omega) (by omega) (by omega) (by omega) (by omega) (by omega) (by omega) (by omega)) ?_; k_whole); (rintro r'7 post'7 h'7 tk'7 F'7 N'7 ⟨tl'7, e'7, hR'7⟩; subst e'7); (try dsimp only); (try k_fold); walk_say "GIVEN"))
  (k_with "call ref" => (k_here; (with_reducible show wpAny _ _ (call (Value.ref 218) _) _ _ _); refine stop_it ?_))
  (k_with "subscriptTail" => (k_here; (with_reducible show wpAny _ _ (subscriptTail _ (Expr.Constant _ _ _) (Value.ref _) (Value.int _ _)) _ _ _); k_dflt (refine item_M (by k_asm) (by k_mem) (by decide) (by decide) (by rfl) ?_)))
  (k_with "eval Dict cons cons" => (k_here; k_dflt (refine kdn_eval (knd := PySem.intKind _ _) (by k_asm) (by k_asm) (TopRead.nolimit (by k_asm)) (by rfl) (by rfl) (by intro e; cases e) (by decide) ?_); intro d'7 h'7 o'7 F'7 N'7 l1 lo'7 hd'7; (try k_lt l1)))
  trivial
example : True := by
  (k_with "call ref" => (k_here; (with_reducible show wpAny _ _ (call (Value.ref 129) [Value.str _ _]) _ _ _); k_dflt (refine DoesE.on (by k_asm) (by k_asm) (by k_asm) (by k_asm) (by k_asm) (by rfl) (by ktr_room) (by ktr_units) raise_does (by intro _ _ _ _ _ _ h; exact h.elim) ?_; k_whole); (intro g'7 e'7 h'7 tk'7 _ F'7 U'7 R'7); walk_say "RAISE"))
  (k_with "leaving ref" => (k_here; k_dflt (refine leave_onD (by k_asm) (by k_asm) (by assumption) (by assumption) ?_; k_whole); (intro h'7 R'7 U'7); (try dsimp only)))
  trivial
example : True := by
  (k_with "UPV" => first | assumption | exact ValIn.mono (by assumption) (by intro p hp; kcf_m))
  (k_with "call ref" => (k_here; (with_reducible show wpAny _ _ (call (Value.ref 157) [Value.ref _, Value.int _ _, Value.int _ _]) _ _ _); refine stop_it ?_))
  trivial
example : True := by
  (k_with "eval ListComp" => (k_here; (with_reducible show wpAny _ _ (eval (Expr.ListComp (Expr.Call _ _ _ _) _ _ _) _) _ _ _); k_dflt (refine LCg.ListComp_U (F₀ := by k_asm) (by with_unfolding_all rfl) (by decide) (by rfl) (by decide) (by rfl) ?_)))
  (k_with "CompSrc" => (k_here; (with_reducible show LCg.CompSrc _ _ _ _ _ _ _ (Expr.Call _ _ _ _) _ _ _ _ _ _); refine stop_it ?_))
  (k_with "call ref" => (k_here; (with_reducible show wpAny _ _ (call (Value.ref 100) [Value.int _ _]) _ _ _); k_dflt (refine Does.on (by k_asm) (by k_asm) (by k_asm) (by k_asm) (by k_asm) (by rfl) (by ktr_room) (by ktr_units) copy_int_does ?_; k_whole); (intro r'7 post'7 h'7 tk'7 F'7 N'7 hh'7; obtain ⟨e1'7, e2'7⟩ := hh'7; subst e1'7; subst e2'7); (try dsimp only); (try k_fold); walk_say "COPY"))
  (k_with "exec Assign cons ListComp" => (k_here; (with_reducible show wpAny _ _ (exec (Stmt.Assign _ (Expr.ListComp (Expr.Call _ _ _ _) _ _ _) _) _) _ _ _); k_dflt (refine LCg.Assign_ListComp_U (F₀ := by k_asm) (by rfl) (by with_unfolding_all rfl) (by with_unfolding_all rfl) (by decide) (by rfl) (by decide) (by rfl) (by rfl) (by rfl) ?_)))
  trivial
example : True := by
  (k_with "eval ListComp" => (k_here; (with_reducible show wpAny _ _ (eval (Expr.ListComp _ [⟨Expr.Tuple _ _ _, _, _, _⟩] _ _) _) _ _ _); k_dflt (refine LCp.ListComp_P (F₀ := by k_asm) (by with_unfolding_all rfl) (by decide) (by rfl) (by decide) (by rfl) (by rfl) (by decide) ?_); walk_say "PAIRS"))
  (k_with "SrcLP" => (k_here; walk_say "SRC"; k_dflt (refine LCp.SrcLP.ledger (by rfl) (by k_asm) (by k_asm) (by k_mem) (by first | size_fits | exact Nat.le_of_ble_eq_true rfl) ?_; intro g'7; lcp_lit)))
  (k_with "CompEnd" => (k_here; (with_reducible show LCg.CompEnd _ _ _ _ _ _ _ _ _ _ _ (fun _ _ => LCp.CompRestP _ _ _ _ _ _ _ _ _ _ _ _ _ _ _ _ _ _ _ _) _ _); refine ⟨_, _, _, rfl, (by k_asm), (by assumption), (by assumption), Or.inr ⟨_, (by k_mem), rfl, _, rfl⟩, ?_⟩; walk_say "PEND"))
  trivial
example : True := by
  (k_with "compareOp Eq ref" => (k_here; (with_reducible show wpAny _ _ (compareOp CmpOp.Eq (Value.ref _) (Value.ref _)) _ _ _); k_dflt (refine ke_eq_ints (News.isList (by k_asm) (by k_mem)) (News.isList (by k_asm) (by k_mem)) (by first | assumption | exact IntsAre.nil) (by first | assumption | exact IntsAre.nil) (by ktr_units) ?_); walk_say "EQINTS"))
  (k_with "call builtin:len" => (k_here; (with_reducible show wpAny _ _ (call (Value.builtin "len") [Value.ref _]) _ _ _); k_dflt (refine len_M (by k_asm) (by k_mem) (by with_reducible assumption) (by omega) ?_); walk_say "LEN"))
  trivial
example : True := by
  (k_with "call ref" => (k_here; (with_reducible show wpAny _ _ (call (Value.ref 162) _) _ _ _); refine stop_it ?_))
  (k_with "call ref" => (k_here; (with_reducible show wpAny _ _ (call (Value.ref 172) _) _ _ _); refine stop_it ?_))
  (k_with "call ref" => (k_here; (with_reducible show wpAny _ _ (call (Value.ref 184) _) _ _ _); refine stop_it ?_))
  (k_with "call ref" => (k_here; (with_reducible show wpAny _ _ (call (Value.ref 179) _) _ _ _); refine stop_it ?_))
  (k_with "call ref" => (k_here; (with_reducible show wpAny _ _ (call (Value.ref 157) _) _ _ _); refine stop_it ?_))
  (k_with "call ref" => (k_here; (with_reducible show wpAny _ _ (call (Value.ref 117) _) _ _ _); refine stop_it ?_))
  (k_with "call ref" => (k_here; (with_reducible show wpAny _ _ (call (Value.ref 167) _) _ _ _); refine stop_it ?_))
  (k_with "call ref" => (k_here; (with_reducible show wpAny _ _ (call (Value.ref 122) _) _ _ _); refine stop_it ?_))
  (k_with "call ref" => (k_here; (with_reducible show wpAny _ _ (call (Value.ref 150) _) _ _ _); refine stop_it ?_))
  trivial
section
def AlikeV (w : World) (led : Led) (fd du : Value) (D : Res) : Prop := HeardV w led fd D ∧ ResIs w led du D
set_option maxRecDepth 100000 in
set_option maxHeartbeats 1000000 in
theorem alike_none_does {w : World} {mean : ExcName → Option Value} {mg mb : Str → Option Value} {t : Tok} {news : Led} :
   Does 40 w mean mg mb 251 [.str (Str.ofString "constraint_error") t, .none] news (fun r post => r = .bool true ∧ ∃ tl, post = tl ++ news) := by
  unfold Does
  k_fill
  intro dp un gd cn cs' ac ccd cl outer A₀ base h₀ L m s Q E B F X N T hk hd' hu hret
  refine wpAny_call ?_
  obtain ⟨ck, cnm, cg, cco, cmo⟩ := cs'
  dsimp only at hk
  subst hk
  k_dflt k_enter
  k_steps
  rename Fr h₀ L _ _ => F9
  rename News h₀ L _ _ => N9
  exact hret _ _ _ _ F9 N9 ⟨rfl, [_], rfl⟩
set_option maxRecDepth 100000 in
set_option maxHeartbeats 1000000 in
theorem alike_int_does {w : World} {mean : ExcName → Option Value} {mg mb : Str → Option Value} {i : Int} {t t' : Tok} {news : Led} :
   Does 40 w mean mg mb 251 [.int i t, .int i t'] news (fun r post => r = .bool true ∧ ∃ tl, post = tl ++ news) := by
  unfold Does
  k_fill
  intro dp un gd cn cs' ac ccd cl outer A₀ base h₀ L m s Q E B F X N T hk hd' hu hret
  refine wpAny_call ?_
  obtain ⟨ck, cnm, cg, cco, cmo⟩ := cs'
  dsimp only at hk
  subst hk
  k_dflt k_enter
  k_steps
  rename Fr h₀ L _ _ => F9
  rename News h₀ L _ _ => N9
  exact hret _ _ _ _ F9 N9 ⟨by simp, [_], rfl⟩

end
section
example : True := by
  (k_with "compareOp Eq ref ref" => (k_here; (with_reducible show wpAny _ _ (compareOp CmpOp.Eq (Value.ref _) (Value.ref _)) _ _ _); (rename IntsAre _ (List.map _ _) => hI9'7); refine stop_it ?_))
  trivial
set_option maxRecDepth 100000 in
set_option maxHeartbeats 600000 in
theorem alike_row_does {w : World} {mean : ExcName → Option Value} {mg mb : Str → Option Value} {v d : Value} {lo : Int} {xs : List Int} {il : Addr} {news : Led} (V : ValIn w news v lo xs il) (R : RowIn w news d lo xs) (hl : xs.length ≤ 40) (hb : -1000 ≤ lo ∧ lo ≤ 1000) :
   Does 40 w mean mg mb 251 [v, d] news (fun r post => r = .bool true ∧ ∃ tl, post = tl ++ news) := by
  refine ValIn.elim V ?_
  clear V
  intro x dx bl tp vs hi k1 k2 t t' n1 n2 n3 n4 hx hdx hbl htp ehi hil hI _
  obtain ⟨r2, d2, od2, kvs2, hi2, t2, t2', n22, rfl, hr2, hhi2, hd2, hlo2, hD2, hF2⟩ := R
  unfold Does
  k_fill
  intro dp un gd cn cs' ac ccd cl outer A₀ base h₀ L m s Q E B F X N T hk hd' hu hret
  refine wpAny_call ?_
  obtain ⟨ck, cnm, cg, cco, cmo⟩ := cs'
  dsimp only at hk
  subst hk
  k_dflt k_enter
  k_steps
  · show wpAny _ _ (compareOp _ _ _) _ _ _
    rename IntsAre _ xs => hI7
    rename IntsAre _ (List.map _ _) => hI8
    rw [map_rc (by omega)] at hI8
    refine ke_eq_ints (News.isList (by k_asm) (by kcf_m)) (News.isList (by k_asm) (.head _)) hI7 hI8 (by ktr_units) ?_
    k_steps
    rename Fr h₀ L _ _ => F9
    rename News h₀ L _ _ => N9
    exact hret _ _ _ _ F9 N9 ⟨by simp, [_, _, _, _], rfl⟩
  · exfalso
    rename hi ≠ hi2 => hne
    exact hne (by omega)

end
example : True := by
  k_with_none
  trivial
example : True := by
  (k_with "ALL" => exact ltNe' (by assumption) (by omega))
  (k_with "ALL" => exact ltNe (by assumption) (by omega))
  (k_with "ALL" => exact allLtNe (by assumption))
  trivial
example : True := by
  (k_with "call ref" => (k_here; (with_reducible show wpAny _ _ (call (Value.ref 191) [Value.ref _, Value.int _ _]) _ _ _); k_dflt (refine Does.on (by k_asm) (by k_asm) (by k_asm) (by k_asm) (by k_asm) (by rfl) (by ktr_room) (by ktr_units) (pull_does (by k_updF) (by assumption) (by k_mem) (by assumption) (by assumption) (by omega) (by omega)) ?_; k_whole); (rintro r'7 post'7 h'7 tk'7 F'7 N'7 ⟨i'7, t'7, o'7, e1'7, lo'7, hi'7, D'7, e2'7⟩); subst e1'7; subst e2'7; (try dsimp only at N'7); (try dsimp only); (try k_fold); walk_say "PULL"))
  (k_with "exec For Name Call cons nil" => (k_here; (rename Fr _ _ _ _ => lF'7); (with_unfolding_all refine' For_invVF lF'7 ?k1 ?k2 ?_; (case k1 => exact rfl); (case k2 => exact rfl); k_whole)))
  (k_with "pyIter ref" => (k_here; (with_reducible show wpAny _ _ (pyIter (Value.ref _)) (fun it s₂ => LoopAtV _ _ _ _ _ _ _ _ _ it s₂) _ _); refine stop_it ?_))
  trivial
example : True := by
  (k_with "setItem ref int" => (k_here; (with_reducible show wpAny _ _ (setItem (Value.ref _) (Value.int _ _) (Value.int _ _)) _ _ _); k_dflt (refine kdf_setItem (by k_asm) (by k_asm) (by k_updF) (by k_asm) (by k_asm) (by first | assumption | omega) ?_); intro h'7 o'7 kvs'7 F'7 N'7 hd'7 hf'7; (try dsimp only at N'7)))
  trivial
example : True := by
  (k_with "HAS" => first | assumption | (rw [rc_has]; exact decide_eq_true ⟨by first | assumption | omega, by first | exact has_lt (by assumption) (by assumption) | omega⟩))
  (k_with "getItem ref int" => (k_here; k_dflt (refine gi_dict (by k_tabat) (by walk_at "HAS") ?_); intro _))
  (k_with "subscriptTail" => (k_here; (with_reducible show wpAny _ _ (subscriptTail _ _ (Value.ref _) (Value.int _ _)) _ _ _); k_dflt (refine kdf_item (by k_tabat) (by walk_at "HAS") ?_); intro _))
  trivial
example : True := by
  (k_with "compareOp NotIn int ref" => (k_here; (with_reducible show wpAny _ _ (compareOp CmpOp.NotIn (Value.int _ _) (Value.ref _)) _ _ _); k_dflt (refine kdf_notin (by k_tabat) ?_)))
  (k_with "TurnPost" => dsimp only [TurnPost])
  (k_with "eval ListComp" => (k_here; (with_reducible show wpAny _ _ (eval (Expr.ListComp (Expr.Tuple _ _ _) _ _ _) _) _ _ _); k_dflt (refine LCg.ListComp_U (F₀ := by k_asm) (by with_unfolding_all rfl) (by decide) (by rfl) (by decide) (by rfl) ?_)))
  (k_with "CompSrc" => (k_here; (with_reducible show LCg.CompSrc _ _ _ _ _ _ _ (Expr.Tuple _ _ _) _ _ _ _ _ _); refine stop_it ?_))
  (k_with "CompEnd" => ((with_reducible show LCg.CompEnd _ _ _ _ _ _ _ _ _ _ _ (fun y n'7 => TupEl _ _ _ y n'7) _ _); refine tup_end (by k_asm) (by k_asm) (by assumption) (by assumption) (by first | rfl | omega) (by first | rfl | omega) (fun _ => trivial)))
  (k_with "call type:dict" => (k_here; (with_reducible show wpAny _ _ (call (Value.type "dict") [Value.ref _]) _ _ _); k_dflt (refine dict_pairs_K (by rfl) (by k_asm) (by k_asm) (TopRead.nolimit (by k_asm)) (by k_mem) (by assumption) (by simp only [List.length_map, rangeKs_length]; omega) ?_); intro D'7 h'7 o'7 kvs'7 tk'7 F'7 N'7 lo'7 hD'7 hf'7 lt'7))
  trivial
example : True := by
  (k_with "call builtin:sorted" => (k_here; (with_reducible show wpAny _ _ (call (Value.builtin "sorted") [Value.ref _]) _ _ _); k_dflt (refine sorted_rc (by rfl) (by k_asm) (by k_asm) (by k_tabat) (by omega) ?_); intro D'7 h'7 tk'7 vs'7 n'7 F'7 N'7 lt'7 i'7; (try simp only [AllLt, and_true] at lt'7)))
  (k_with "compareOp Eq ref" => (k_here; (with_reducible show wpAny _ _ (compareOp CmpOp.Eq (Value.ref _) (Value.ref _)) _ _ _); k_dflt (refine eq_empty (by k_tabat) (TabAt.ofNews (D := kdfD []) (by k_asm) (by k_mem) (by k_asm) (by k_asm) (by k_asm)) (by ktr_units) ?_)))
  (k_with "HAS" => (rw [rc_has]; exact decide_eq_true (range_mem (by assumption))))
  trivial
example : True := by
  (k_with "USE" => ((case B => k_asm); (case F => k_asm); (case X => k_asm); (case N => k_asm); (case T => k_asm); (case hk => rfl); (case hd => ktr_room); (case hu => ktr_units)))
  (k_with "call type:dict" => (k_here; (with_reducible show wpAny _ _ (call (Value.type "dict") [Value.ref _]) _ _ _); k_dflt (refine dict_copy_K (by k_asm) (by k_asm) (TopRead.nolimit (by k_asm)) (by k_tabat) (by rw [rc_length]; omega) ?_); intro D'7 h'7 o'7 kvs'7 F'7 N'7 lo'7 hD'7 hf'7 lt'7))
  (k_with "call builtin:dict.update" => (k_here; (first | (with_reducible show wpAny _ _ (call (Value.builtin "dict.update") [Value.ref _, Value.ref _]) _ _ _) | (k_dflt (show wpAny _ _ (call (Value.builtin "dict.update") [Value.ref _, Value.ref _]) _ _ _))); k_dflt (refine update_K (by k_asm) (by k_asm) (by k_updF) (by k_asm) (by k_asm) (by k_tabat) (not_of_lt (by assumption) (by k_mem)) (by rw [rc_length, rc_length]; omega) ?_); intro h'7 o'7 kvs'7 F'7 N'7 hD'7 hf'7; (try dsimp only at N'7)))
  trivial
example : True := by
  (k_with "UP" => first | assumption | exact RowIn.mono (by assumption) (by intro p hp; kcf_m))
  (k_with "call ref" => (k_here; (with_reducible show wpAny _ _ (call (Value.ref 208) [Value.ref _, Value.int _ _, Value.int _ _]) _ _ _); k_dflt (refine Does.on (by k_asm) (by k_asm) (by k_asm) (by k_asm) (by k_asm) (by rfl) (by ktr_room) (by ktr_units) (part_does (by walk_at "UP") (by omega) (by omega) (by omega) (by omega) (by omega)) ?_; k_whole); (rintro r'7 post'7 h'7 tk'7 F'7 N'7 ⟨tl'7, e'7, hR'7⟩; subst e'7); (try dsimp only); (try k_fold); walk_say "PART"))
  (k_with "call ref" => (k_here; (with_reducible show wpAny _ _ (call (Value.ref 213) [Value.ref _, Value.int _ _, Value.int _ _]) _ _ _); k_dflt (refine Does.on (by k_asm) (by k_asm) (by k_asm) (by k_asm) (by k_asm) (by rfl) (by ktr_room) (by ktr_units) (moved_does (by walk_at "UP") (by omega) (by omega) (by omega) (by omega) (by omega)) ?_; k_whole); (rintro r'7 post'7 h'7 tk'7 F'7 N'7 ⟨tl'7, e'7, hR'7⟩; subst e'7); (try dsimp only); (try k_fold); walk_say "MOVED"))
  (k_with "call ref" => (k_here; (with_reducible show wpAny _ _ (call (Value.ref 225) _) _ _ _); k_dflt (refine Does.on (by k_asm) (by k_asm) (by k_asm) (by k_asm) (by k_asm) (by rfl) (by ktr_room) (by ktr_units) (given_does (by walk_at "UP") (by omega) (by omega) (by omega) (by omega) (by omega) (by omega) (by omega) (by omega)) ?_; k_whole); (rintro r'7 post'7 h'7 tk'7 F'7 N'7 ⟨tl'7, e'7, hR'7⟩; subst e'7); (try dsimp only); (try k_fold); walk_say "GIVEN"))
  (k_with "call ref" => (k_here; (with_reducible show wpAny _ _ (call (Value.ref 218) _) _ _ _); refine stop_it ?_))
  (k_with "subscriptTail" => (k_here; (with_reducible show wpAny _ _ (subscriptTail _ (Expr.Constant _ _ _) (Value.ref _) (Value.int _ _)) _ _ _); k_dflt (refine item_M (by k_asm) (by k_mem) (by decide) (by decide) (by rfl) ?_)))
  (k_with "eval Dict cons cons" => (k_here; k_dflt (refine kdn_eval (knd := PySem.intKind _ _) (by k_asm) (by k_asm) (TopRead.nolimit (by k_asm)) (by rfl) (by rfl) (by intro e; cases e) (by decide) ?_); intro d'7 h'7 o'7 F'7 N'7 l1 lo'7 hd'7; (try k_lt l1)))
  trivial
example : True := by
  (k_with "call ref" => (k_here; (with_reducible show wpAny _ _ (call (Value.ref 129) [Value.str _ _]) _ _ _); k_dflt (refine DoesE.on (by k_asm) (by k_asm) (by k_asm) (by k_asm) (by k_asm) (by rfl) (by ktr_room) (by ktr_units) raise_does (by intro _ _ _ _ _ _ h; exact h.elim) ?_; k_whole); (intro g'7 e'7 h'7 tk'7 _ F'7 U'7 R'7); walk_say "RAISE"))
  (k_with "leaving ref" => (k_here; k_dflt (refine leave_onD (by k_asm) (by k_asm) (by assumption) (by assumption) ?_; k_whole); (intro h'7 R'7 U'7); (try dsimp only)))
  trivial
example : True := by
  (k_with "UPV" => first | assumption | exact ValIn.mono (by assumption) (by intro p hp; kcf_m))
  (k_with "call ref" => (k_here; (with_reducible show wpAny _ _ (call (Value.ref 157) [Value.ref _, Value.int _ _, Value.int _ _]) _ _ _); refine stop_it ?_))
  trivial
example : True := by
  (k_with "eval ListComp" => (k_here; (with_reducible show wpAny _ _ (eval (Expr.ListComp (Expr.Call _ _ _ _) _ _ _) _) _ _ _); k_dflt (refine LCg.ListComp_U (F₀ := by k_asm) (by with_unfolding_all rfl) (by decide) (by rfl) (by decide) (by rfl) ?_)))
  (k_with "CompSrc" => (k_here; (with_reducible show LCg.CompSrc _ _ _ _ _ _ _ (Expr.Call _ _ _ _) _ _ _ _ _ _); refine stop_it ?_))
  (k_with "call ref" => (k_here; (with_reducible show wpAny _ _ (call (Value.ref 100) [Value.int _ _]) _ _ _); k_dflt (refine Does.on (by k_asm) (by k_asm) (by k_asm) (by k_asm) (by k_asm) (by rfl) (by ktr_room) (by ktr_units) copy_int_does ?_; k_whole); (intro r'7 post'7 h'7 tk'7 F'7 N'7 hh'7; obtain ⟨e1'7, e2'7⟩ := hh'7; subst e1'7; subst e2'7); (try dsimp only); (try k_fold); walk_say "COPY"))
  (k_with "exec Assign cons ListComp" => (k_here; (with_reducible show wpAny _ _ (exec (Stmt.Assign _ (Expr.ListComp (Expr.Call _ _ _ _) _ _ _) _) _) _ _ _); k_dflt (refine LCg.Assign_ListComp_U (F₀ := by k_asm) (by rfl) (by with_unfolding_all rfl) (by with_unfolding_all rfl) (by decide) (by rfl) (by decide) (by rfl) (by rfl) (by rfl) ?_)))
  trivial
example : True := by
  (k_with "eval ListComp" => (k_here; (with_reducible show wpAny _ _ (eval (Expr.ListComp _ [⟨Expr.Tuple _ _ _, _, _, _⟩] _ _) _) _ _ _); k_dflt (refine LCp.ListComp_P (F₀ := by k_asm) (by with_unfolding_all rfl) (by decide) (by rfl) (by decide) (by rfl) (by rfl) (by decide) ?_); walk_say "PAIRS"))
  (k_with "SrcLP" => (k_here; walk_say "SRC"; k_dflt (refine LCp.SrcLP.ledger (by rfl) (by k_asm) (by k_asm) (by k_mem) (by first | size_fits | exact Nat.le_of_ble_eq_true rfl) ?_; intro g'7; lcp_lit)))
  (k_with "CompEnd" => (k_here; (with_reducible show LCg.CompEnd _ _ _ _ _ _ _ _ _ _ _ (fun _ _ => LCp.CompRestP _ _ _ _ _ _ _ _ _ _ _ _ _ _ _ _ _ _ _ _) _ _); refine ⟨_, _, _, rfl, (by k_asm), (by assumption), (by assumption), Or.inr ⟨_, (by k_mem), rfl, _, rfl⟩, ?_⟩; walk_say "PEND"))
  trivial
example : True := by
  (k_with "compareOp Eq ref" => (k_here; (with_reducible show wpAny _ _ (compareOp CmpOp.Eq (Value.ref _) (Value.ref _)) _ _ _); k_dflt (refine ke_eq_ints (News.isList (by k_asm) (by k_mem)) (News.isList (by k_asm) (by k_mem)) (by first | assumption | exact IntsAre.nil) (by first | assumption | exact IntsAre.nil) (by ktr_units) ?_); walk_say "EQINTS"))
  (k_with "call builtin:len" => (k_here; (with_reducible show wpAny _ _ (call (Value.builtin "len") [Value.ref _]) _ _ _); k_dflt (refine len_M (by k_asm) (by k_mem) (by with_reducible assumption) (by omega) ?_); walk_say "LEN"))
  trivial
example : True := by
  (k_with "call ref" => (k_here; (with_reducible show wpAny _ _ (call (Value.ref 162) _) _ _ _); refine stop_it ?_))
  (k_with "call ref" => (k_here; (with_reducible show wpAny _ _ (call (Value.ref 172) _) _ _ _); refine stop_it ?_))
  (k_with "call ref" => (k_here; (with_reducible show wpAny _ _ (call (Value.ref 184) _) _ _ _); refine stop_it ?_))
  (k_with "call ref" => (k_here; (with_reducible show wpAny _ _ (call (Value.ref 179) _) _ _ _); refine stop_it ?_))
  (k_with "call ref" => (k_here; (with_reducible show wpAny _ _ (call (Value.ref 157) _) _ _ _); refine stop_it ?_))
  (k_with "call ref" => (k_here; (with_reducible show wpAny _ _ (call (Value.ref 117) _) _ _ _); refine stop_it ?_))
  (k_with "call ref" => (k_here; (with_reducible show wpAny _ _ (call (Value.ref 167) _) _ _ _); refine stop_it ?_))
  (k_with "call ref" => (k_here; (with_reducible show wpAny _ _ (call (Value.ref 122) _) _ _ _); refine stop_it ?_))
  (k_with "call ref" => (k_here; (with_reducible show wpAny _ _ (call (Value.ref 150) _) _ _ _); refine stop_it ?_))
  trivial
example : True := by
  (k_with "call ref" => (k_here; (first | (with_reducible show wpAny _ _ (call (Value.ref 198) _) _ _ _) | (with_reducible show wpAny _ _ (call (Value.ref 203) _) _ _ _) | (with_reducible show wpAny _ _ (call (Value.ref 239) _) _ _ _) | (with_reducible show wpAny _ _ (call (Value.ref 246) _) _ _ _) | (with_reducible show wpAny _ _ (call (Value.ref 251) _) _ _ _) | (with_reducible show wpAny _ _ (call (Value.ref 184) _) _ _ _) | (with_reducible show wpAny _ _ (call (Value.ref 218) _) _ _ _)); refine stop_it ?_))
  (k_with "LAWTOP" => (change wpAny _ (ktrTop (1 + claimMargin + 1) 7 (some []) _ _ _ _ _ [] []) _ _ _ _))
  (k_with "LAWUSE" => ((case B => assumption); (case F => k_asm); (case X => assumption); (case N => k_asm); (case T => assumption); (case hk => rfl); (case hd => decide); (case hu => decide)))
  trivial
section
theorem alike_res {w : World} {mean : ExcName → Option Value} {mg mb : Str → Option Value} {fd du : Value} {D : Res} {news : Led} (H : HeardV w news fd D) (R : ResIs w news du D) (hb : ∀ p, D = .row p → p.2.length ≤ 40 ∧ -1000 ≤ p.1 ∧ p.1 ≤ 1000) :
    Does 40 w mean mg mb 251 [fd, du] news (fun r post => r = .bool true ∧ ∃ tl, post = tl ++ news) := by
  cases D with
  | none =>
    obtain ⟨t, rfl⟩ := H
    cases (show du = .none from R)
    exact alike_none_does
  | int i =>
    obtain ⟨t, rfl⟩ := H
    obtain ⟨t', rfl⟩ := R
    exact alike_int_does
  | row p =>
    obtain ⟨il, V⟩ := H
    exact alike_row_does V R (hb p rfl).1 (hb p rfl).2
theorem map4 {m : Str → Option Value} {a b c d : Str} {va vb vc vd : Value} (ha : m a = some va) (hb : m b = some vb) (hc : m c = some vc) (hd : m d = some vd) :
    m = fun y => if y = a then some va else if y = b then some vb else if y = c then some vc else if y = d then some vd else m y := by
  funext y
  by_cases h1 : y = a
  · rw [h1, if_pos rfl, ha]
  · rw [if_neg h1]
    by_cases h2 : y = b
    · rw [h2, if_pos rfl, hb]
    · rw [if_neg h2]
      by_cases h3 : y = c
      · rw [h3, if_pos rfl, hc]
      · rw [if_neg h3]
        by_cases h4 : y = d
        · rw [h4, if_pos rfl, hd]
        · rw [if_neg h4]
/-- the deck ahead of the ledger -/
theorem deck_first {h₀ h : Heap} {L dk : Addr} {o : Obj} {tl rest : Led} (N : News h₀ L h (tl ++ (dk, o) :: rest)) : News h₀ L h ((dk, o) :: (tl ++ rest)) := N.perm fun p hp => by
  rcases List.mem_cons.mp hp with rfl | hp
  · exact List.mem_append_right _ (.head _)
  · rcases List.mem_append.mp hp with hp | hp
    · exact List.mem_append_left _ hp
    · exact List.mem_append_right _ (.tail _ hp)
theorem off1_of {dk : Addr} {l : Led} (h : ∀ p ∈ l, p.1 ≠ dk) : OwnOff l [dk] := fun p hp b hb => by rw [List.mem_singleton.mp hb]; exact h p hp
section
variable {h₀ h : Heap} {L : Addr} {w : World}
theorem law_start {a b c : Addr} {o o2 o3 : Obj} (N : News h₀ L h [(a, o), (b, o2), (c, o3)]) (l : b < a ∧ c < a) : ∃ rest : Led, News h₀ L h ((a, o) :: rest) ∧ OwnOff rest [a] ∧ (b, o2) ∈ rest :=
  ⟨[(b, o2), (c, o3)], N, off1_of fun p hp => by
    simp only [List.mem_cons, List.not_mem_nil, or_false] at hp
    rcases hp with rfl | rfl
    · exact Nat.ne_of_lt l.1
    · exact Nat.ne_of_lt l.2, .head _⟩
theorem deck_no_tup {od : Obj} {cs : Addr} {q : Int} (D : DeckIs od cs q) {d : Array Value} {k : Nat} : ({ cls := .type "tuple", data := .seq d k } : Obj) ≠ od := by
  obtain ⟨t, n, rfl⟩ := D
  intro e
  have h1 := congrArg Obj.cls e
  injection h1 with h2
  exact absurd h2 (by decide)
theorem deck_no_dict {od o : Obj} {cs : Addr} {q : Int} {kvs : List (Int × Value)} (D : DeckIs od cs q) (hd : Obj.IsDictOf (intKind Challenge.rw_pb0006_01.row.prog w) o kvs) : o ≠ od := by
  obtain ⟨t, n, rfl⟩ := D
  rintro rfl
  obtain ⟨e, ep, _, h1, _⟩ := hd
  cases h1
theorem ValIn.offDeck {dk cs : Addr} {od : Obj} {q : Int} {rest : Led} {v : Value} {lo : Int} {xs : List Int} {il : Addr} (R : ValIn w ((dk, od) :: rest) v lo xs il) (D : DeckIs od cs q) : ValIn w rest v lo xs il := by
  refine ValIn.elim R ?_
  clear R
  intro x dx bl tp vs hi k1 k2 t t' n1 n2 n3 n4 h1 h2 h3 h4 e5 h6 r _
  obtain ⟨td, nd, rfl⟩ := D
  have key : ∀ {a : Addr} {o : Obj}, (a, o) ∈ (dk, listOf #[.ref cs, .int q td] nd) :: rest → o ≠ listOf #[.ref cs, .int q td] nd → (a, o) ∈ rest := fun hm hne => (List.mem_cons.mp hm).resolve_left fun z => hne (congrArg Prod.snd z)
  refine ValIn.mk (key h1 ?_) (key h2 ?_) (key h3 ?_) (key h4 ?_) e5 (key h6 ?_) r
  · exact fun z => by cases congrArg Obj.data z
  · exact fun z => by cases congrArg Obj.data z
  · intro z
    have h1 : Data.seq #[.ref tp] n2 = Data.seq #[.ref cs, .int q td] nd := congrArg Obj.data z
    injection h1 with h2
    have h3 := congrArg Array.size h2
    simp at h3
  · exact deck_no_tup ⟨td, nd, rfl⟩
  · exact ints_no_deck ⟨td, nd, rfl⟩ r
theorem RowIn.offDeck {dk cs : Addr} {od : Obj} {q : Int} {rest : Led} {v : Value} {lo : Int} {xs : List Int} (R : RowIn w ((dk, od) :: rest) v lo xs) (D : DeckIs od cs q) : RowIn w rest v lo xs := by
  refine RowIn.elim R ?_
  clear R
  intro r d o kvs hi t t' n h1 h2 h3 h4 h5 h6 _
  refine RowIn.mk (t := t) (t' := t') (n := n) ?_ h2 ?_ h4 h5 h6
  · rcases List.mem_cons.mp h1 with h | h
    · exact absurd (congrArg Prod.snd h) (deck_no_tup D)
    · exact h
  · rcases List.mem_cons.mp h3 with h | h
    · exact absurd (congrArg Prod.snd h) (deck_no_dict D h5)
    · exact h
theorem less_of {dk a : Addr} {od o : Obj} {post : Led} (N : News h₀ L h post) (hd : (dk, od) ∈ post) (hm : (a, o) ∈ post) (hne : o ≠ od) : (a, o) ∈ less dk post :=
  less_mem.mpr ⟨hm, fun e => hne (news_same N (by rw [← show a = dk from e]; exact hm) hd)⟩
theorem less_sub {dk : Addr} {od : Obj} {post : Led} (N : News h₀ L h post) (hd : (dk, od) ∈ post) : ∀ p ∈ post, p ∈ (dk, od) :: less dk post := fun p hp => by
  by_cases e : p.1 = dk
  · have : p.2 = od := news_same N (by rw [← e]; exact hp) hd
    exact List.mem_cons.mpr (.inl (by rw [← e, ← this]))
  · exact .tail _ (less_mem.mpr ⟨hp, e⟩)
theorem RowIn.lessDeck {dk cs : Addr} {od : Obj} {q : Int} {post : Led} {v : Value} {lo : Int} {xs : List Int} (R : RowIn w post v lo xs) (N : News h₀ L h post) (hd : (dk, od) ∈ post) (D : DeckIs od cs q) : RowIn w (less dk post) v lo xs :=
  RowIn.offDeck (R.mono (less_sub N hd)) D
theorem ValIn.lessDeck {dk cs : Addr} {od : Obj} {q : Int} {post : Led} {v : Value} {lo : Int} {xs : List Int} {il : Addr} (R : ValIn w post v lo xs il) (N : News h₀ L h post) (hd : (dk, od) ∈ post) (D : DeckIs od cs q) : ValIn w (less dk post) v lo xs il :=
  ValIn.offDeck (R.mono (less_sub N hd)) D
theorem deck_in {dk : Addr} {o : Obj} {tl l : Led} (_ : News h₀ L h (tl ++ (dk, o) :: l)) : (dk, o) ∈ tl ++ (dk, o) :: l := List.mem_append_right _ (.head _)
theorem off_less {dk : Addr} {o : Obj} {post : Led} (_ : News h₀ L h ((dk, o) :: less dk post)) : OwnOff (less dk post) [dk] := less_off
end
/-- what holds ahead of a turn of the law's loop -/
def LoopJ (w : World) (dk cs : Addr) (cv : List Value) (i : Nat) (m : Str → Option Value) (nw : Led) : Prop :=
  ∃ (q : Int) (od : Obj) (lo : Int) (xs : List Int) (lo2 : Int) (rs : List Int) (il : Addr) (rv ov vv : Value) (rest : Led),
    m (Str.ofString "deck") = some (.ref dk) ∧ m (Str.ofString "row") = some rv ∧ m (Str.ofString "value") = some vv ∧ m (Str.ofString "other") = some ov ∧
    nw = (dk, od) :: rest ∧ OwnOff rest [dk] ∧ DeckIs od cs q ∧ 0 ≤ q ∧ q ≤ 20 + 10 * (i : Int) ∧ (cs, LCg.lst cv) ∈ rest ∧ RowIn w rest rv lo xs ∧ xs.length ≤ 11 ∧ -(4 + 20 * (i : Int)) ≤ lo ∧ lo ≤ 4 + 20 * (i : Int) ∧
    ValIn w rest vv lo xs il ∧ il ≠ cs ∧ RowIn w rest ov lo2 rs ∧ rs.length ≤ 4 ∧ -4 ≤ lo2 ∧ lo2 ≤ 4

end
section
section
variable {prog : Program} {w : World} {A : Around} {E : Value → Shared → Prop} {s : Shared} {env : Env} {h₀ : Heap} {x : Str} {body : List Stmt} {Q : Flow → Shared → Prop}
/-- a turn's end: the ledger whole, the iterator in it -/
def TurnEnd2 (h₀ : Heap) (L : Addr) (J : (Str → Option Value) → Led → Prop) (own : Led) (s₁ s₂ : Shared) : Prop :=
  ∃ h' tk m' post, s₂ = { s₁ with heap := h', toks := tk } ∧ Fr h₀ L h' m' ∧ News h₀ L h' post ∧ (∀ p ∈ own, p ∈ post) ∧ (∀ p ∈ own, p.2.cls = .type "range_iterator") ∧
    ∃ news', (∀ p ∈ news', p ∈ post ∧ p.2.cls ≠ .type "range_iterator") ∧ J m' news'
theorem TurnEnd2.to {L : Addr} {J : (Str → Option Value) → Led → Prop} {own : Led} {s₁ s₂ : Shared} (h : TurnEnd2 h₀ L J own s₁ s₂) : TurnEnd h₀ L J own s₁ s₂ := by
  obtain ⟨h', tk, m', post, e, F', N', hown, hcls, news', hn, hJ⟩ := h
  refine ⟨h', tk, m', news', e, F', fun p hp => ?_, fun p hp q hq e => ?_, hJ⟩
  · rcases List.mem_append.mp hp with hp | hp
    · exact N' p (hn p hp).1
    · exact N' p (hown p hp)
  · have h1 : p.2 = q.2 := news_same (a := p.1) N' (hn p hp).1 (by rw [e]; exact hown q hq)
    exact (hn p hp).2 (h1 ▸ hcls q hq)
def TurnPost2 (h₀ : Heap) (L : Addr) (J : (Str → Option Value) → Led → Prop) (own : Led) (s₁ : Shared) (Q : Flow → Shared → Prop) (f : Flow) (s₂ : Shared) : Prop :=
  match f with
  | .ret v => Q (.ret v) s₂
  | .brk => Q .next s₂
  | _ => TurnEnd2 h₀ L J own s₁ s₂
theorem range_J2 {r : Addr} {a₀ b₀ : Int} {t₀ u₀ v₀ : Tok} {n : Nat} {m₀ : Str → Option Value} {news : Led} (J : Nat → (Str → Option Value) → Led → Prop)
    (hh : A.handled = none) (hr : IsRange s.heap r a₀ b₀ 1 t₀ u₀ v₀) (hsmall : Builtin.Range.small a₀ b₀ 1 = true) (hn : Builtin.Range.rangeSize a₀ b₀ 1 = (n : Int)) (F : Fr h₀ env.locals s.heap m₀) (N : News h₀ env.locals s.heap news) (hj : J 0 m₀ news)
    (turn : ∀ (i : Nat) t m₁ news₁ h tk own, i < n → J i m₁ news₁ → (∀ p ∈ news₁, ∀ q ∈ own, p.1 ≠ q.1) → (∀ p ∈ own, p.2.cls = .type "range_iterator") →
      Fr h₀ env.locals h (fun y => if y = x then some (.int (a₀ + i) t) else m₁ y) → News h₀ env.locals h (news₁ ++ own) →
      wpAny (model prog w) A (execs body env) (TurnPost2 h₀ env.locals (J (i + 1)) own { s with heap := h, toks := tk } Q) E { s with heap := h, toks := tk })
    (done : ∀ m₁ news₁ h tk, J n m₁ news₁ → Fr h₀ env.locals h m₁ → News h₀ env.locals h news₁ → Q .next { s with heap := h, toks := tk }) :
    wpAny (model prog w) A (pyIter (.ref r)) (fun it s₂ => LoopAtV prog w A h₀ env x body Q E it s₂) E s := by
  refine wpAny_pyIter_range hr hsmall ?_
  refine ⟨_, _, _, n, _, _, m₀, news, J, rfl, (Walks.range hh _ a₀ 1 n), ?_, ?_, ?_, (by show IsRangeIter _ _ _ _ _; rw [hn]; simpa using Heap.get?_push_size _ rfl), F.push _, (fun p hp => ⟨Heap.get?_push_of_some _ (N p hp).1, (N p hp).2⟩), hj, ?_, ?_⟩
  · intro hm
    exact absurd F.ns.lt ((List.mem_singleton.mp hm) ▸ Nat.lt_irrefl _)
  · intro b hb
    rw [List.mem_singleton.mp hb]
    exact next_is_new F
  · intro p hp hI
    exact absurd (Heap.lt_size (N p hp).1) ((List.mem_singleton.mp hI) ▸ Nat.lt_irrefl _)
  · rintro i v m₁ news₁ s₁ own ⟨hh', tk', rfl⟩ hin ⟨t, rfl⟩ hJ hoff hown hcur hall hst F₁ N₁
    rw [Int.mul_one] at F₁
    have ho : ∀ p ∈ own, p.1 = s.heap.objs.size := fun p hp => List.mem_singleton.mp (hown p hp)
    have hst' : IsRangeIter hh' s.heap.objs.size _ _ _ := hst
    have hcls : ∀ p ∈ own, p.2.cls = .type "range_iterator" := fun p hp => by
      have h1 : hh'.get? p.1 = some p.2 := hcur p hp
      rw [ho p hp, hst'] at h1
      rw [← Option.some.inj h1]
    have hI : ∃ oI, (s.heap.objs.size, oI) ∈ own := ⟨_, hall _ (List.mem_singleton.mpr rfl) (next_is_new F) _ hst'⟩
    refine wpAny_mono (turn i t m₁ news₁ hh' tk' own hin hJ (fun p hp q hq e => hoff p hp (List.mem_singleton.mpr (e.trans (ho q hq)))) hcls F₁ fun p hp => N₁ p (List.mem_append.mpr (List.mem_append.mp hp).symm)) (fun f s₂ p => ?_) fun _ _ e => e
    have fin : TurnEnd2 h₀ env.locals (J (i + 1)) own { s with heap := hh', toks := tk' } s₂ → LoopStepU h₀ env.locals [s.heap.objs.size] own (J (i + 1)) { s with heap := hh', toks := tk' } .next s₂ := by
      intro z
      obtain ⟨h', tk, m', news', e, F', N', ha, hm⟩ := z.to
      obtain ⟨oI, hmI⟩ := hI
      exact ⟨rfl, h', tk, m', news', e, F', fun p hp => N' p (List.mem_append.mpr (List.mem_append.mp hp).symm), fun p hp hq => ha p hp _ hmI (List.mem_singleton.mp hq), hm⟩
    cases f with
    | ret v => exact .ret p
    | brk => exact .brk p
    | next => exact .next (fin p)
    | cont => exact .cont (fin p)
  · intro h' tk' m' news' F' N' _ hJ
    exact done m' news' h' tk' hJ F' N'
end
section
variable {h₀ h : Heap} {L : Addr} {w : World}
theorem ite_both {M : Model} {A : Around} {c : Prop} [Decidable c] {a b : Sem Value} {E : Value → Shared → Prop} {s : Shared} {Q : Value → Shared → Prop} (g1 : wpAny M A a Q E s) (g2 : wpAny M A b Q E s) : wpAny M A (if c then a else b) Q E s := by
  split <;> assumption
/-- a bit that is drawn: the deck a cell further -/
def BitPost (h₀ : Heap) (L : Addr) (m : Str → Option Value) (dk cs : Addr) (rest : Led) (q : Int) (s : Shared) (v : Value) (s' : Shared) : Prop :=
  ∃ x u h' tk o', v = .int x u ∧ 0 ≤ x ∧ x ≤ 1 ∧ s' = { s with heap := h', toks := tk } ∧ Fr h₀ L h' m ∧ News h₀ L h' ((dk, o') :: rest) ∧ DeckIs o' cs (q + 1)
theorem BitPost.mk {m : Str → Option Value} {dk cs : Addr} {rest : Led} {q x : Int} {u : Tok} {s : Shared} {h' : Heap} {tk : Nat} {o' : Obj} (h1 : 0 ≤ x) (h2 : x ≤ 1) (F : Fr h₀ L h' m) (N : News h₀ L h' ((dk, o') :: rest)) (D : DeckIs o' cs (q + 1)) : BitPost h₀ L m dk cs rest q s (.int x u) { s with heap := h', toks := tk } :=
  ⟨x, u, h', tk, o', rfl, h1, h2, rfl, F, N, D⟩
theorem join_bit {M : Model} {A : Around} {t : Sem Value} {E : Value → Shared → Prop} {s : Shared} {Q : Value → Shared → Prop} {m : Str → Option Value} {dk cs : Addr} {rest : Led} {q : Int} {o : Obj} (_ : Fr h₀ L s.heap m) (_ : News h₀ L s.heap ((dk, o) :: rest)) (_ : DeckIs o cs q)
    (g : wpAny M A t (BitPost h₀ L m dk cs rest q s) E s)
    (k : ∀ (x : Int) u h' tk o', 0 ≤ x → x ≤ 1 → Fr h₀ L h' m → News h₀ L h' ((dk, o') :: rest) → DeckIs o' cs (q + 1) → Q (.int x u) { s with heap := h', toks := tk }) : wpAny M A t Q E s :=
  wpAny_mono g (fun v s' ⟨x, u, h', tk, o', e1, h1, h2, e2, F, N, D⟩ => by subst e1 e2; exact k x u h' tk o' h1 h2 F N D) fun _ _ e => e
/-- what holds within a turn; rest: the ledger less the deck -/
structure Mid (w : World) (dk cs : Addr) (cv : List Value) (own rest : Led) (od : Obj) (q : Int) (rv vv ov : Value) (lo : Int) (xs xv : List Int) (lo2 : Int) (rs : List Int) (il : Addr) : Prop where
  off : OwnOff rest [dk]
  deck : DeckIs od cs q
  cells : (cs, LCg.lst cv) ∈ rest
  kept : ∀ p ∈ own, p ∈ rest
  row : RowIn w rest rv lo xs
  val : ValIn w rest vv lo xv il
  oth : RowIn w rest ov lo2 rs
  ilcs : il ≠ cs
  icls : ∀ p ∈ own, p.2.cls = .type "range_iterator"
section
variable {dk cs : Addr} {cv : List Value} {ci : List Int} {own rest : Led} {od : Obj} {q : Int} {rv vv ov : Value} {lo : Int} {xs xv : List Int} {lo2 : Int} {rs : List Int} {il : Addr}
theorem Mid.put (T : Mid w dk cs cv own rest od q rv vv ov lo xs xv lo2 rs il) {od' : Obj} {q' : Int} (D : DeckIs od' cs q') : Mid w dk cs cv own rest od' q' rv vv ov lo xs xv lo2 rs il :=
  ⟨T.off, D, T.cells, T.kept, T.row, T.val, T.oth, T.ilcs, T.icls⟩
theorem off_ne {rest : Led} {p : Addr × Obj} (h : OwnOff rest [dk]) (hp : p ∈ rest) : p.1 ≠ dk := h p hp dk (.head _)
/-- a call that only adds -/
theorem Mid.step {post : Led} (T : Mid w dk cs cv own rest od q rv vv ov lo xs xv lo2 rs il) (N : News h₀ L h post) (hs : ∀ p ∈ (dk, od) :: rest, p ∈ post) :
    News h₀ L h ((dk, od) :: less dk post) ∧ Mid w dk cs cv own (less dk post) od q rv vv ov lo xs xv lo2 rs il ∧ ∀ p ∈ rest, p ∈ less dk post :=
  have up : ∀ p ∈ rest, p ∈ less dk post := fun p hp => less_mem.mpr ⟨hs p (.tail _ hp), off_ne T.off hp⟩
  ⟨news_less N (hs _ (.head _)), ⟨less_off, T.deck, up _ T.cells, fun p hp => up p (T.kept p hp), T.row.mono up, T.val.mono up, T.oth.mono up, T.ilcs, T.icls⟩, up⟩
/-- what is not the value's own list stays -/
theorem ValIn.list {v : Value} {led : Led} (V : ValIn w led v lo xv il) : ∃ vs n, (il, listOf vs.toArray n) ∈ led ∧ IntsAre vs xv := by
  refine ValIn.elim V ?_
  clear V
  intro x dx bl tp vs hi k1 k2 t t' n1 n2 n3 n4 h1 h2 h3 h4 e5 h6 r _
  exact ⟨vs, n4, h6, r⟩
theorem RowIn.offIl {news post : Led} {v : Value} {lo' : Int} {ys : List Int} (R : RowIn w news v lo' ys) (N : News h₀ L h news) (V : ValIn w news vv lo xv il) (hs : ∀ p ∈ news, p.1 ≠ il → p ∈ post) : RowIn w post v lo' ys := by
  obtain ⟨vs, n, hm, hi⟩ := V.list
  refine RowIn.elim R ?_
  clear R
  intro r d o kvs hi' t t' n' h1 h2 h3 h4 h5 h6 _
  refine RowIn.mk (hs _ h1 fun z => ?_) h2 (hs _ h3 fun z => ?_) h4 h5 h6
  · exact ne_tup (news_same (a := il) N (by rw [← show r = il from z]; exact h1) hm)
  · obtain ⟨e1, ep, _, hd1, _⟩ := h5
    have := news_same (a := il) N (by rw [← show d = il from z]; exact h3) hm
    have h9 := congrArg Obj.data this
    rw [hd1] at h9
    cases h9
theorem Mid.heard {news post : Led} {xv' : List Int} {vh vh' : Heap} (T : Mid w dk cs cv own rest od q rv vv ov lo xs xv lo2 rs il) (N : News h₀ L vh news) (N' : News h₀ L vh' post) (hn : ∀ p ∈ (dk, od) :: rest, p ∈ news) (hs : ∀ p ∈ news, p.1 ≠ il → p ∈ post) (V : ValIn w post vv lo xv' il) :
    News h₀ L vh' ((dk, od) :: less dk post) ∧ Mid w dk cs cv own (less dk post) od q rv vv ov lo xs xv' lo2 rs il := by
  have hd := T.deck
  have V0 := T.val.mono fun p hp => hn p (.tail _ hp)
  obtain ⟨vs, n, hm, hi⟩ := V0.list
  have hild : il ≠ dk := by
    obtain ⟨vs', n', hm', hi'⟩ := T.val.list
    exact off_ne T.off hm'
  have hdm : (dk, od) ∈ post := hs _ (hn _ (.head _)) (Ne.symm hild)
  refine ⟨news_less N' hdm, less_off, hd, less_mem.mpr ⟨hs _ (hn _ (.tail _ T.cells)) (Ne.symm T.ilcs), off_ne T.off T.cells⟩, ?_, ?_, V.lessDeck N' hdm hd, ?_, T.ilcs, T.icls⟩
  · intro p hp
    have hpn := hn _ (.tail _ (T.kept p hp))
    refine less_mem.mpr ⟨hs _ hpn fun z => ?_, off_ne T.off (T.kept p hp)⟩
    have h1 := news_same (a := il) N (by rw [← show p.1 = il from z]; exact hpn) hm
    have h2 := T.icls p hp
    rw [h1] at h2
    injection h2 with h3
    exact absurd h3 (by decide)
  · exact (T.row.mono fun p hp => hn p (.tail _ hp)).offIl N V0 hs |>.lessDeck N' hdm hd
  · exact (T.oth.mono fun p hp => hn p (.tail _ hp)).offIl N V0 hs |>.lessDeck N' hdm hd
end
end

end
section
theorem ofOr_row {o : Option (Int × List Int)} {p : Int × List Int} (h : Res.ofOr o = .row p) : o = some p := by
  cases o with
  | none => cases h
  | some q => exact congrArg some (by injection h)
theorem ofOr_int {o : Option (Int × List Int)} {i : Int} (h : Res.ofOr o = .int i) : False := by
  cases o <;> cases h
theorem partR_row {lo a b : Int} {xs : List Int} {p : Int × List Int} (h : partR lo xs a b = some p) : p.1 = a ∧ p.2.length ≤ xs.length := by
  unfold partR at h
  split at h
  · cases h; simp
  · split at h
    · cases h; refine ⟨rfl, ?_⟩; simp only [List.length_take, List.length_drop]; omega
    · cases h
theorem movedR_row {a b : Int} {xs : List Int} {p : Int × List Int} (h : movedR xs a b = some p) : p.1 = a ∧ p.2 = xs := by
  unfold movedR at h
  split at h
  · cases h; exact ⟨rfl, rfl⟩
  · cases h
theorem behindR_row {lo lo2 : Int} {xs ys : List Int} {fx : Bool} {p : Int × List Int} (h : behindR lo xs lo2 ys fx = some p) : (p.1 = lo2 ∨ p.1 = -6 ∨ p.1 = lo) ∧ p.2.length ≤ xs.length + ys.length := by
  unfold behindR at h
  split at h
  · cases h; exact ⟨.inl rfl, by simp⟩
  · dsimp only at h
    by_cases hc : (if fx then (-6 : Int) else lo) < -6 ∨ 9 < (if fx then (-6 : Int) else lo) + (xs.length + ys.length) - 1
    · rw [if_pos hc] at h
      cases h
    · rw [if_neg hc] at h
      have e := Option.some.inj h
      subst e
      refine ⟨.inr ?_, by simp⟩
      dsimp only
      split
      · exact .inl rfl
      · exact .inr rfl
theorem givenR_row {lo a b c e : Int} {xs : List Int} {p : Int × List Int} (h : givenR lo xs a b c e = some p) : p.1 = lo ∧ p.2.length = xs.length := by
  unfold givenR at h
  split at h
  · cases h
  · split at h
    · cases h
    · split at h
      · cases h
      · cases h; exact ⟨rfl, setAll_length ..⟩
theorem dueR_row {way lo lo2 : Int} {xs rs : List Int} {a b c e f : Int} {p : Int × List Int} (h : dueR way lo xs lo2 rs a b c e f = .row p) :
    (p.1 = a ∨ p.1 = lo2 ∨ p.1 = -6 ∨ p.1 = lo) ∧ p.2.length ≤ xs.length + rs.length + 1 := by
  unfold dueR at h
  split at h
  · have := partR_row (ofOr_row h); omega
  split at h
  · have := movedR_row (ofOr_row h); rw [this.2]; omega
  split at h
  · have := behindR_row (ofOr_row h); omega
  split at h
  · have := behindR_row (ofOr_row h); simp only [List.length_cons, List.length_nil] at this; omega
  split at h
  · have := behindR_row (ofOr_row h); simp only [List.length_cons, List.length_nil] at this; omega
  split at h
  · have := givenR_row (ofOr_row h); omega
  · unfold getR at h
    split at h <;> cases h
theorem dueR_five {lo lo2 : Int} {xs rs : List Int} {a b c e f : Int} {p : Int × List Int} (h : dueR 5 lo xs lo2 rs a b c e f = .row p) : p.1 = lo ∧ p.2.length = xs.length := by
  unfold dueR at h
  rw [if_neg (by decide), if_neg (by decide), if_neg (by decide), if_neg (by decide), if_neg (by decide), if_pos rfl] at h
  exact givenR_row (ofOr_row h)
theorem dueR_int {way lo lo2 : Int} {xs rs : List Int} {a b c e f i : Int} (h : dueR way lo xs lo2 rs a b c e f = .int i) : 5 < way ∨ way < 0 := by
  unfold dueR at h
  split at h
  · exact (ofOr_int h).elim
  split at h
  · exact (ofOr_int h).elim
  split at h
  · exact (ofOr_int h).elim
  split at h
  · exact (ofOr_int h).elim
  split at h
  · exact (ofOr_int h).elim
  split at h
  · exact (ofOr_int h).elim
  · omega
theorem own_five {xs : List Int} {p : Int × List Int} {way : Int} (h : way = 5) : ownAfter way xs (.row p) = p.2 := if_pos h
theorem own_else {xs : List Int} {D : Res} {way : Int} (h : way ≠ 5) : ownAfter way xs D = xs := if_neg h
theorem own_none {xs : List Int} {way : Int} : ownAfter way xs .none = xs := by unfold ownAfter; split <;> rfl
theorem len_rc {prog : Program} {w : World} {A : Around} {E : Value → Shared → Prop} {s : Shared} {d : Addr} {lo : Int} {xs : List Int} {Q : Value → Shared → Prop} (T : IntTab prog w s.heap d (kdfD (rc lo xs))) (hc : xs.length ≤ 1000) (h : Q (.int (xs.length : Nat) (s.toks + 1)) { s with toks := s.toks + 1 + 1 }) :
    wpAny (model prog w) A (call (.builtin "len") [.ref d]) Q E s := kdf_len T (by rw [rc_length]; omega) (by rw [rc_length]; exact h)

end
section
section
variable {h₀ h : Heap} {L : Addr} {w : World} {dk cs il : Addr} {od : Obj} {q : Int} {vv : Value} {lo : Int} {xv : List Int}
theorem ResIs.mono {led led' : Led} {v : Value} {D : Res} (R : ResIs w led v D) (hs : ∀ p ∈ led, p ∈ led') : ResIs w led' v D := by
  cases D with
  | none => exact R
  | int i => exact R
  | row p => exact RowIn.mono R hs
theorem ResIs.lessDeck {post : Led} {v : Value} {D : Res} (R : ResIs w post v D) (N : News h₀ L h post) (hd : (dk, od) ∈ post) (Dk : DeckIs od cs q) : ResIs w (less dk post) v D := by
  cases D with
  | none => exact R
  | int i => exact R
  | row p => exact RowIn.lessDeck R N hd Dk
theorem ResIs.offIl {news post : Led} {v : Value} {D : Res} (R : ResIs w news v D) (N : News h₀ L h news) (V : ValIn w news vv lo xv il) (hs : ∀ p ∈ news, p.1 ≠ il → p ∈ post) : ResIs w post v D := by
  cases D with
  | none => exact R
  | int i => exact R
  | row p => exact RowIn.offIl R N V hs
theorem HeardV.mono {led led' : Led} {v : Value} {D : Res} (R : HeardV w led v D) (hs : ∀ p ∈ led, p ∈ led') : HeardV w led' v D := by
  cases D with
  | none => exact R
  | int i => exact R
  | row p => obtain ⟨l, V⟩ := R; exact ⟨l, V.mono hs⟩
theorem HeardV.lessDeck {post : Led} {v : Value} {D : Res} (R : HeardV w post v D) (N : News h₀ L h post) (hd : (dk, od) ∈ post) (Dk : DeckIs od cs q) : HeardV w (less dk post) v D := by
  cases D with
  | none => exact R
  | int i => exact R
  | row p => obtain ⟨l, V⟩ := R; exact ⟨l, V.lessDeck N hd Dk⟩
/-- the ledger less a loop's own iterator -/
noncomputable def calmL (l : Led) : Led := l.filter fun p => @decide (p.2.cls ≠ .type "range_iterator") (Classical.propDecidable _)
theorem calmL_mem {l : Led} {p : Addr × Obj} : p ∈ calmL l ↔ p ∈ l ∧ p.2.cls ≠ .type "range_iterator" := by
  unfold calmL
  rw [List.mem_filter]
  constructor
  · exact fun ⟨a, b⟩ => ⟨a, @of_decide_eq_true _ (Classical.propDecidable _) b⟩
  · exact fun ⟨a, b⟩ => ⟨a, @decide_eq_true _ (Classical.propDecidable _) b⟩
theorem cls_ne {a b : String} (h : a ≠ b) : (Value.type a) ≠ .type b := fun e => h (by injection e)
theorem RowIn.calm {rest : Led} {v : Value} {lo : Int} {xs : List Int} (R : RowIn w rest v lo xs) : RowIn w (calmL rest) v lo xs := by
  refine RowIn.elim R ?_
  clear R
  intro r d o kvs hi t t' n h1 h2 h3 h4 h5 h6 _
  refine RowIn.mk (calmL_mem.mpr ⟨h1, cls_ne (by decide)⟩) h2 (calmL_mem.mpr ⟨h3, ?_⟩) h4 h5 h6
  obtain ⟨e, ep, hx, _⟩ := h5
  rw [show ((d, o) : Addr × Obj).2.cls = _ from hx.1]
  exact cls_ne (by decide)
theorem ValIn.calm {rest : Led} {v : Value} {lo : Int} {xs : List Int} {il : Addr} (R : ValIn w rest v lo xs il) : ValIn w (calmL rest) v lo xs il := by
  refine ValIn.elim R ?_
  clear R
  intro x dx bl tp vs hi k1 k2 t t' n1 n2 n3 n4 h1 h2 h3 h4 e5 h6 r _
  refine ValIn.mk (calmL_mem.mpr ⟨h1, ?_⟩) (calmL_mem.mpr ⟨h2, ?_⟩) (calmL_mem.mpr ⟨h3, cls_ne (by decide)⟩) (calmL_mem.mpr ⟨h4, cls_ne (by decide)⟩) e5 (calmL_mem.mpr ⟨h6, cls_ne (by decide)⟩) r
  · intro z; cases z
  · exact cls_ne (by decide)
/-- a turn's end out of what holds within it -/
theorem Mid.fin {cv : List Value} {own rest : Led} {rv ov : Value} {xs : List Int} {lo2 : Int} {rs : List Int} {i : Nat} {m' : Str → Option Value} {s₁ s₂ : Shared} {h' : Heap} {tk : Nat}
    (T : Mid w dk cs cv own rest od q rv vv ov lo xs xs lo2 rs il) (F : Fr h₀ L h' m') (N : News h₀ L h' ((dk, od) :: rest)) (e : s₂ = { s₁ with heap := h', toks := tk })
    (m1 : m' (Str.ofString "deck") = some (.ref dk)) (m2 : m' (Str.ofString "row") = some rv) (m3 : m' (Str.ofString "value") = some vv) (m4 : m' (Str.ofString "other") = some ov)
    (hq : 0 ≤ q) (hq' : q ≤ 20 + 10 * ((i + 1 : Nat) : Int)) (hx : xs.length ≤ 11) (hl : -(4 + 20 * ((i + 1 : Nat) : Int)) ≤ lo) (hl' : lo ≤ 4 + 20 * ((i + 1 : Nat) : Int)) (hr : rs.length ≤ 4) (hl2 : -4 ≤ lo2) (hl2' : lo2 ≤ 4) :
    TurnEnd2 h₀ L (fun m nw => LoopJ w dk cs cv (i + 1) m nw) own s₁ s₂ := by
  refine ⟨h', tk, m', (dk, od) :: rest, e, F, N, fun p hp => .tail _ (T.kept p hp), T.icls, (dk, od) :: calmL rest, ?_, ?_⟩
  · intro p hp
    rcases List.mem_cons.mp hp with rfl | hp
    · refine ⟨.head _, ?_⟩
      obtain ⟨t, n, z⟩ := T.deck
      rw [show ((dk, od) : Addr × Obj).2 = od from rfl, z]
      exact cls_ne (by decide)
    · exact ⟨.tail _ (calmL_mem.mp hp).1, (calmL_mem.mp hp).2⟩
  · exact ⟨q, od, lo, xs, lo2, rs, il, rv, ov, vv, calmL rest, m1, m2, m3, m4, rfl, fun p hp => T.off p (calmL_mem.mp hp).1, T.deck, hq, hq', calmL_mem.mpr ⟨T.cells, cls_ne (by decide)⟩, T.row.calm, hx, hl, hl', T.val.calm, T.ilcs, T.oth.calm, hr, hl2, hl2'⟩
end
section
variable {k : Nat} {w : World} {mean : ExcName → Option Value} {mg mb : Str → Option Value} {f : Addr} {vs : List Value} {pre : Led} {ret : Value → Led → Prop} {dp un : Nat} {gd : Option (List Code)} {cn : Str} {cs : Scope} {a : Addr} {ccd : Value} {A₀ : Around} {base h₀ : Heap} {L : Addr} {m : Str → Option Value} {s : Shared}
    {Q E : Value → Shared → Prop}
theorem DoesL.use (D : DoesL k w mean mg mb f vs pre ret) (B : Below A₀ base [] h₀) (XB : (heapK w.params).In base) (TB : Top viewV (looseW viewV []) mean mg mb base) (F : Fr h₀ L s.heap m) (X : (heapK w.params).In h₀) (N : News h₀ L s.heap pre) (T : Top viewV (looseW viewV []) mean mg mb h₀) (hk : cs.kind = .function) (hd : dp + k < recursionLimit) (hu : un + 8 * k < cLine)
    (hret : ∀ r post h' tk', Fr h₀ L h' m → News h₀ L h' post → ret r post → Q r { s with heap := h', toks := tk' }) :
    wpAny (model Challenge.rw_pb0006_01.row.prog w) (ktrTop dp un gd cn cs L a ccd [] []) (call (.ref f) vs) Q E s := D _ _ _ _ _ _ _ _ _ _ _ _ _ _ _ B XB TB F X N T hk hd hu hret
end
theorem news_head {h₀ h : Heap} {L a : Addr} {o : Obj} {l : Led} (_ : News h₀ L h ((a, o) :: l)) : (a, o) ∈ (a, o) :: l := .head _
theorem post_memE {h₀ h : Heap} {L : Addr} {tl l : Led} {a : Addr} {o : Obj} (_ : News h₀ L h (tl ++ (a, o) :: l)) : (a, o) ∈ tl ++ (a, o) :: l := List.mem_append_right _ (.head _)
section
variable {w : World} {dk cs il : Addr} {od : Obj} {q : Int} {rv vv ov : Value} {lo : Int} {xs xv : List Int} {cv : List Value} {own rest : Led} {lo2 : Int} {rs : List Int}
theorem Mid.oth' (T : Mid w dk cs cv own rest od q rv vv ov lo xs xv lo2 rs il) : RowIn w ((dk, od) :: rest) ov lo2 rs := T.oth.mono fun _ hp => .tail _ hp
theorem Mid.row' (T : Mid w dk cs cv own rest od q rv vv ov lo xs xv lo2 rs il) : RowIn w ((dk, od) :: rest) rv lo xs := T.row.mono fun _ hp => .tail _ hp
theorem Mid.val' (T : Mid w dk cs cv own rest od q rv vv ov lo xs xv lo2 rs il) : ValIn w ((dk, od) :: rest) vv lo xv il := T.val.mono fun _ hp => .tail _ hp
theorem Mid.set (T : Mid w dk cs cv own rest od q rv vv ov lo xs xv lo2 rs il) {rv' vv' : Value} {lo' : Int} {xs' xv' : List Int} {il' : Addr} (R : RowIn w rest rv' lo' xs') (V : ValIn w rest vv' lo' xv' il') (hne : il' ≠ cs) : Mid w dk cs cv own rest od q rv' vv' ov lo' xs' xv' lo2 rs il' :=
  ⟨T.off, T.deck, T.cells, T.kept, R, V, T.oth, hne, T.icls⟩
theorem Mid.up (_ : Mid w dk cs cv own rest od q rv vv ov lo xs xv lo2 rs il) : ∀ p ∈ rest, p ∈ (dk, od) :: rest := fun _ hp => .tail _ hp
theorem up2n {h₀ h : Heap} {L a b : Addr} {o o2 : Obj} {rest : Led} (_ : News h₀ L h ((a, o) :: (b, o2) :: rest)) : ∀ p ∈ rest, p ∈ (a, o) :: (b, o2) :: rest := fun _ hp => .tail _ (.tail _ hp)
theorem up1 {h₀ h : Heap} {L a : Addr} {o : Obj} {rest : Led} (_ : News h₀ L h ((a, o) :: rest)) : ∀ p ∈ rest, p ∈ (a, o) :: rest := fun _ hp => .tail _ hp
theorem row_none {h₀ h : Heap} {L D d : Addr} {o : Obj} {t1 t2 : Tok} {n : Nat} {rest : Led} (_ : News h₀ L h ((D, ({ cls := .type "tuple", data := .seq #[.int 0 t1, .int (-1) t2, .ref d] n } : Obj)) :: (d, o) :: rest)) (lo : (d == sysModules) = false)
    (hi : Obj.IsDictOf (intKind Challenge.rw_pb0006_01.row.prog w) o []) : RowIn w ((D, ({ cls := .type "tuple", data := .seq #[.int 0 t1, .int (-1) t2, .ref d] n } : Obj)) :: (d, o) :: rest) (.ref D) 0 [] :=
  ⟨D, d, o, [], -1, t1, t2, n, rfl, .head _, by simp, .tail _ (.head _), lo, hi, .nil⟩
end

end
example : True := by
  (k_with "call builtin:len" => (k_here; (with_reducible show wpAny _ _ (call (Value.builtin "len") [Value.ref _]) _ _ _); k_dflt (refine len_rc (by k_tabat) (by omega) ?_); walk_say "LENRC"))
  (k_with "eval IfExp" => (k_here; refine stop_it ?_))
  (k_with "TurnPost2" => dsimp only [TurnPost2])
  trivial
local macro_rules | `(tactic| wrow_close) => `(tactic| ((with_reducible show BitPost _ _ _ _ _ _ _ _ _ _); refine stop_it ?_))
section
set_option maxRecDepth 100000 in
set_option maxHeartbeats 40000000 in
theorem law_dev : PySem.Challenge.rw_pb0006_01.Holds := by
  refine holds_law said0 fun said => ?_
  refine holds_open (q := viewV) (loose := []) (Xt := fun s => xlAt viewV [] s && recOk (RowW.records (OpenRow.toRowW (OpenLaw.row Challenge.rw_pb0006_01))) s) (XP := XL viewV [])
    (Yf := Hook.obs (kHook heapK heapA heapA_is)) (Ya := Hook.val (kHook heapK heapA heapA_is)) (YP := Hook.says (kHook heapK heapA heapA_is)) (N := 3656) left0
    (Hook.of (kHook heapK heapA heapA_is)) (Hook.keeps (kHook heapK heapA heapA_is)) (fun s e => xl_of s (Bool.and_eq_true_iff.mp e).1) XL.keeps (by rfl) (by rfl) (by rfl) (fun s e => recFacts_of (Bool.and_eq_true_iff.mp e).2)
    (by rfl) said (by decide +kernel) ⟨rfl, rfl, rfl, rfl, rfl, by decide +kernel⟩ ?hw ?hc
  case hw => w_witness2
  clear said
  k_fill
  intro w s₀ s₁ mg mb G Y fa o pm cd doc dV kV ho hd hcd hD hmg hg args vals as hpre hlay hrd hwl hlo
  have KX := kIn_of Y
  have X := (Ground.X G).1
  have V := (Ground.X G).2
  refine Ground.open G ?_
  intro T B D TE TW
  try (refine guard_noD D (by decide +kernel) ?_; clear D)
  obtain ⟨_, _, M⟩ := bmod_of_top T
  have TA := at_of_top T
  try (obtain ⟨_, _, he, B0⟩ := based_of_top T rfl hmg ho hd; have he' : cd = _ := he; subst he'; clear he)
  clear hmg
  wrow_args hpre hlay hrd hwl hlo
  (first | refine callC_kw (enter_call ?_) | refine enter_call ?_ | refine callC_kw (enter_callW ?_) | refine enter_callW ?_ | w_how)
  w_top on
  try refine codeAny_mono ?_ (fun _ _ g => GoodW.toG g)
  have K0 := below_caller (Top.heap T)
  w_call any ho hd hcd hD T F
  clear hd TA
  k_drop
  (all_goals try k_fold)
  k_steps
  show wpAny _ _ (call _ _) _ _ _
  walk_at "LAWTOP"
  rename IntsAre _ (List.map _ _) => hcells
  rename News _ _ _ [_, _, _] => N0
  rename _ < _ ∧ _ < _ => l0
  obtain ⟨rest, N01, off0, hcs⟩ := law_start N0 l0
  clear N0
  obtain ⟨cells, hce, hlen⟩ : ∃ c, IntsAre _ c ∧ c.length ≤ 63 := ⟨_, hcells, by rw [List.length_map, List.length_take]; omega⟩
  refine' Does.use (row_does ?U ?D ?M hce hlen ?q) ?B ?F ?X ?N ?T ?hk ?hd ?hu ?_
  walk_at "LAWUSE"
  case U => k_updF
  case D => exact ⟨_, _, rfl⟩
  case M => exact .tail _ hcs
  case q => omega
  rintro r1 post1 h1 tk1 F1 N1 ⟨lo1, xs1, o1, q1, tl1, hR1, hx1, hlo1, hlo1', hD1, hq1, hq1', rfl, htl1⟩
  try dsimp only
  replace N1 := deck_first N1
  have off1 := off_app (off1_of htl1) off0
  have hR1' : RowIn _ (tl1 ++ rest) r1 lo1 xs1 := RowIn.offDeck (hR1.mono fun p hp => by rcases List.mem_append.mp hp with hp | hp; exact .tail _ (List.mem_append_left _ hp); rcases List.mem_cons.mp hp with rfl | hp; exact .head _; exact .tail _ (List.mem_append_right _ hp)) hD1
  k_steps
  show wpAny _ _ (call _ _) _ _ _
  walk_at "LAWTOP"
  refine' Does.use (row_does ?U2 hD1 ?M2 hce hlen ?q2) ?B ?F ?X ?N ?T ?hk ?hd ?hu ?_
  walk_at "LAWUSE"
  case U2 => k_updF
  case M2 => exact .tail _ (List.mem_append_right _ hcs)
  case q2 => omega
  rintro r2 post2 h2 tk2 F2 N2 ⟨lo2, xs2, o2, q2, tl2, hR2, hx2, hlo2, hlo2', hD2, hq2, hq2', rfl, htl2⟩
  try dsimp only
  replace N2 := deck_first N2
  k_steps
  have off2 := off_app (off1_of htl2) off1
  have hR2' : RowIn _ (tl2 ++ (tl1 ++ rest)) r2 lo2 xs2 := RowIn.offDeck (hR2.mono fun p hp => by rcases List.mem_append.mp hp with hp | hp; exact .tail _ (List.mem_append_left _ hp); rcases List.mem_cons.mp hp with rfl | hp; exact .head _; exact .tail _ (List.mem_append_right _ hp)) hD2
  have hR1'' := hR1'.mono (led' := tl2 ++ (tl1 ++ rest)) fun p hp => List.mem_append_right _ hp
  show wpAny _ _ (call _ _) _ _ _
  walk_at "LAWTOP"
  refine' Does.use (val_does (lo := lo1) (xs := xs1) ?R3 ?z1 ?z2) ?B ?F ?X ?N ?T ?hk ?hd ?hu ?_
  walk_at "LAWUSE"
  case z1 => omega
  case z2 => omega
  case R3 => exact hR1''.mono fun p hp => .tail _ hp
  rintro r3 post3 h3 tk3 F3 N3 ⟨il, tl3, hV3, rfl, hoff3⟩
  try dsimp only
  have hdm3 := deck_in N3
  have hV3' := hV3.lessDeck N3 hdm3 hD2
  have hR3' := (hR1''.mono fun p hp => post_mem N3 hp).lessDeck N3 hdm3 hD2
  have hO3' := (hR2'.mono fun p hp => post_mem N3 hp).lessDeck N3 hdm3 hD2
  have hcs3 := less_of N3 hdm3 (post_mem N3 (List.mem_append_right tl2 (List.mem_append_right tl1 hcs))) (ints_no_deck hD2 hce)
  replace N3 := news_less N3 hdm3
  have off3 := off_less N3
  generalize less _ _ = rest3 at N3 hV3' hR3' hO3' hcs3 off3
  clear hR1 hR2 hR1' hR2' hR1'' hV3 off0 off1 off2 N01 hdm3
  have hilcs := (hoff3 _ (.tail _ (List.mem_append_right tl2 (List.mem_append_right tl1 hcs)))).symm
  k_steps
  show wpAny _ _ (pyIter _) _ _ _
  rename IsRange _ _ _ _ _ _ _ _ => hRg
  rename Fr _ _ _ _ => hFr
  rename News _ _ _ _ => hN
  rename DeckIs _ _ _ => hD3
  rename (_ : Int) < 7 => hi7
  refine range_J2 (fun i m nw => LoopJ _ _ _ ys i m nw) rfl hRg (small_one (by omega) (by omega) (by omega) (by omega)) (rangeSize_nat _ _) hFr hN ⟨_, _, lo1, xs1, lo2, xs2, il, r1, r2, r3, rest3, rfl, rfl, rfl, rfl, rfl, off3, hD3, by omega, by omega, hcs3, hR3', by omega, by omega, by omega, hV3', hilcs, hO3', by omega, by omega, by omega⟩ ?_ ?_
  · clear hV3' hR3' hO3' hcs3 hoff3 off3
    rintro i tt m₁ news₁ h tk own hi' ⟨q, od, lo, xs, lo2b, rs, ilb, rv, ov, vv, restb, hmd, hmr, hmv, hmo, rfl, offb, hDb, hq0, hqb, hcsb, hRb, hxb, hlb1, hlb2, hVb, hilb, hOb, hrb, hl2a, hl2b⟩ hoff hcls F₁ N₁
    rw [map4 hmd hmr hmv hmo] at F₁
    have hi7' : (i : Int) < 7 := by omega
    have offo := off_app offb (off_own hoff (.head _))
    simp only [List.cons_append] at N₁
    obtain ⟨rest0, N0, T0⟩ : ∃ rest0, News _ _ h ((_, od) :: rest0) ∧ Mid _ _ _ ys own rest0 od q rv vv ov lo xs xs lo2b rs ilb := ⟨_, N₁, offo, hDb, List.mem_append_left _ hcsb, fun p hp => List.mem_append_right _ hp, hRb.mono fun p hp => List.mem_append_left _ hp, hVb.mono fun p hp => List.mem_append_left _ hp, hOb.mono fun p hp => List.mem_append_left _ hp, hilb, hcls⟩
    clear offb hoff hcsb hRb hVb hOb hilb N₁ offo hcls hcs hD1 hD2 hD3 hN hFr hRg
    have hcs0 := T0.cells
    have off0 := T0.off
    obtain ⟨rr, rd, rod, rkvs, rhi, rt, rt', rn, rfl, hrr, hrhi, hrd, hrlo, hrD, hrF⟩ := T0.row
    dsimp only [envOf] at F₁ N0
    walk_at "LAWTOP"
    k_steps
    show wpAny _ _ (eval _ _) _ _ _
    rename Fr _ _ _ _ => F2
    rename News _ _ _ _ => N2
    rename DeckIs _ _ _ => D2
    refine join_bit F2 N2 D2 ?_ ?_
    · show wpAny _ _ (isTrue _ _ (eval _ _) >>= fun b => if b then eval _ _ else eval _ _) _ _ _
      refine wpAny_bind ?_
      k_steps
      refine ite_both ?_ ?_
      all_goals k_steps
      all_goals (show BitPost _ _ _ _ _ _ _ _ _ _; exact BitPost.mk (by decide) (by decide) (by k_asm) (by k_asm) (by assumption))
    intro b3 t3 h3 tk3 o3 hb30 hb31 F3 N3 D3
    try dsimp only
    clear F2 N2
    k_steps
    show wpAny _ _ (eval _ _) _ _ _
    rename Fr _ _ _ _ => F4
    rename News _ _ _ _ => N4
    rename DeckIs _ _ _ => D4
    refine join_bit F4 N4 D4 ?_ ?_
    · show wpAny _ _ (isTrue _ _ (eval _ _) >>= fun b => if b then eval _ _ else eval _ _) _ _ _
      refine wpAny_bind ?_
      k_steps
      refine ite_both ?_ ?_
      all_goals k_steps
      all_goals (show BitPost _ _ _ _ _ _ _ _ _ _; exact BitPost.mk (by decide) (by decide) (by k_asm) (by k_asm) (by assumption))
    intro b5 t5 h5 tk5 o5 hb50 hb51 F5 N5 D5
    try dsimp only
    clear F4 N4
    k_steps
    show wpAny _ _ (call _ _) _ _ _
    rename Fr _ _ _ _ => F6
    rename News _ _ _ _ => N6
    rename _ < _ ∧ AllLt _ _ => l6
    have T1 := T0.put D5
    show wpAny _ _ (call _ _) _ _ _
    k_fold
    refine Does.use (due_does (T1.row.mono fun p hp => .tail _ (.tail _ hp)) (T1.oth.mono fun p hp => .tail _ (.tail _ hp)) (news_head N6) (by omega) (by omega) (by omega) (by omega) (by omega) (by omega) (by omega) (by omega) (by omega) (by omega) (by omega) (by omega)) (by assumption) (by k_asm) (by assumption) (by k_asm) (by assumption) rfl (by decide) (by decide) ?_
    rintro r1 post1 h1 tk1 F7 N7 ⟨tl7, rfl, R7⟩
    have hE7 := post_memE N7
    have hsub7 := fun p hp => post_mem N7 (q := p) hp
    generalize hD : dueR _ _ _ _ _ _ _ _ _ _ = D at R7
    obtain ⟨N8, T2, up2⟩ := T1.step N7 hsub7
    have R8 := R7.lessDeck N7 (hsub7 _ (.head _)) T1.deck
    have hE8 := less_mem.mpr ⟨hE7, Ne.symm (Nat.ne_of_lt l6.1)⟩
    obtain ⟨vsI, nI, hilm, -⟩ := T1.val.list
    have hnel := Ne.symm (Nat.ne_of_lt (ktn_ltOf l6.2 _ hilm))
    generalize less _ _ = rest1 at N8 T2 R8 hE8 up2
    have hil1 := up2 _ hilm
    clear R7 hE7 hsub7 hilm up2 N7 T1 T0 N6 F6 l6
    k_steps
    show wpAny _ _ (call _ _) _ _ _
    k_fold
    refine Does.use (val_does (lo := lo2b) (xs := rs) T2.oth' (by omega) (by omega)) (by assumption) (by k_asm) (by assumption) (by k_asm) (by assumption) rfl (by decide) (by decide) ?_
    rintro r2 post2 h2 tk2 F9 N9 ⟨il2, tl9, V9, rfl, hoff9⟩
    obtain ⟨N10, T3, up3⟩ := T2.step N9 fun p hp => List.mem_append_right _ hp
    have V10 := V9.lessDeck N9 (List.mem_append_right _ (.head _)) T2.deck
    have R10 := R8.mono up3
    have hE10 := up3 _ hE8
    have hne2 := (hoff9 _ (.tail _ hil1)).symm
    generalize less _ _ = rest2 at N10 T3 V10 R10 hE10
    clear R8 hE8 hil1 V9 hoff9 up3 N9 T2
    k_steps
    show wpAny _ _ (call _ _) _ _ _
    k_fold
    refine DoesL.use (heard_does T3.val' (V10.mono (up1 N10)) (up1 N10 _ hE10) hnel hne2 (by omega) (by omega) (by omega) (by omega) (by omega) (by omega) (by omega) (by omega) (by omega) (by omega) (by omega) (by omega)) (by assumption) (by assumption) (by assumption) (by k_asm) (by assumption) (by k_asm) (by assumption) rfl (by decide) (by decide) ?_
    rintro r3 post3 h3 tk3 F11 N11 ⟨H11, V11, hsub11⟩
    rw [hD] at H11 V11
    obtain ⟨N12, T4⟩ := T3.heard N10 N11 (fun _ hp => hp) hsub11 V11
    obtain ⟨vs9, n9, hm9, -⟩ := T3.val.list
    have hdm := hsub11 _ (.head _) (Ne.symm (off_ne T3.off hm9))
    have R12 := ((R10.mono (up1 N10)).offIl N10 T3.val' hsub11).lessDeck N11 hdm T3.deck
    have H12 := H11.lessDeck N11 hdm T3.deck
    generalize less _ _ = rest3 at N12 T4 R12 H12
    clear R10 H11 V11 hsub11 hdm hm9 N11 N10 T3 V10 hE10
    k_steps
    show wpAny _ _ (call _ _) _ _ _
    k_fold
    have hrow : ∀ p, D = .row p → (p.1 = _ ∨ p.1 = lo2b ∨ p.1 = -6 ∨ p.1 = lo) ∧ p.2.length ≤ xs.length + rs.length + 1 := fun p e => dueR_row (hD.trans e)
    refine Does.use (alike_res (H12.mono T4.up) (R12.mono T4.up) (fun p e => by have := hrow p e; omega)) (by assumption) (by k_asm) (by assumption) (by k_asm) (by assumption) rfl (by decide) (by decide) ?_
    rintro r4 post4 h4 tk4 F13 N13 ⟨rfl, tl13, rfl⟩
    obtain ⟨N14, T5, up5⟩ := T4.step N13 fun p hp => List.mem_append_right _ hp
    have R14 := R12.mono up5
    generalize less _ _ = rest4 at N14 T5 R14
    clear R12 H12 up5 T4 N13
    rename (_ : Int) < 7 => hw7
    obtain ⟨way, ew⟩ := nm_lt hw7
    subst ew
    cases D with
    | none =>
      cases (show r1 = .none from R14)
      rw [own_none] at T5
      k_steps
      all_goals (
        show wpAny _ _ (call _ _) _ _ _
        refine Does.use (alike_row_does T5.val' T5.row' (by omega) (by omega)) (by assumption) (by k_asm) (by assumption) (by k_asm) (by assumption) rfl (by decide) (by decide) ?_
        rintro r5 post5 h5' tk5 F15 N15 ⟨rfl, tl15, rfl⟩
        try dsimp only
        obtain ⟨N16, T6, up6⟩ := T5.step N15 fun p hp => List.mem_append_right _ hp
        generalize less _ _ = rest5 at N16 T6 up6
        clear up6 N15
        k_steps
        all_goals first | (exfalso; omega) | exact Mid.fin T6 (by k_asm) (by k_asm) rfl rfl rfl rfl rfl (by omega) (by omega) (by omega) (by omega) (by omega) (by omega) (by omega) (by omega))
    | int j =>
      have hw := dueR_int hD
      obtain ⟨tj, rfl⟩ := R14
      have h5 : way ≠ 5 := by omega
      have h6 : ¬ way < 5 := by omega
      rw [own_else h5] at T5
      k_steps
      · exfalso; omega
      show wpAny _ _ (call _ _) _ _ _
      refine Does.use (alike_row_does T5.val' T5.row' (by omega) (by omega)) (by assumption) (by k_asm) (by assumption) (by k_asm) (by assumption) rfl (by decide) (by decide) ?_
      rintro r5 post5 h5' tk5 F15 N15 ⟨rfl, tl15, rfl⟩
      try dsimp only
      obtain ⟨N16, T6, up6⟩ := T5.step N15 fun p hp => List.mem_append_right _ hp
      generalize less _ _ = rest5 at N16 T6 up6
      clear up6 N15
      k_steps
      all_goals first | (exfalso; omega) | exact Mid.fin T6 (by k_asm) (by k_asm) rfl rfl rfl rfl rfl (by omega) (by omega) (by omega) (by omega) (by omega) (by omega) (by omega) (by omega)
    | row p =>
      obtain ⟨p1, p2⟩ := p
      have hrow' := hrow _ rfl
      dsimp only at hrow'
      have R14' : RowIn _ rest4 r1 p1 p2 := R14
      clear R14
      obtain ⟨q9, rfl⟩ : ∃ q9, r1 = .ref q9 := by obtain ⟨q9, _, _, _, _, _, _, _, e, _⟩ := R14'; exact ⟨q9, e⟩
      by_cases h5 : way = 5
      · subst h5
        obtain ⟨e1, e2⟩ := dueR_five hD
        dsimp only at e1 e2
        subst e1
        rw [own_five rfl] at T5
        replace T5 := T5.set R14' T5.val T5.ilcs
        dsimp only at T5
        k_steps
        show wpAny _ _ (call _ _) _ _ _
        refine Does.use (alike_row_does T5.val' T5.row' (by omega) (by omega)) (by assumption) (by k_asm) (by assumption) (by k_asm) (by assumption) rfl (by decide) (by decide) ?_
        rintro r5 post5 h5' tk5 F15 N15 ⟨rfl, tl15, rfl⟩
        try dsimp only
        obtain ⟨N16, T6, up6⟩ := T5.step N15 fun p hp => List.mem_append_right _ hp
        generalize less _ _ = rest5 at N16 T6 up6
        clear up6 N15
        k_steps
        all_goals first | (exfalso; omega) | exact Mid.fin T6 (by k_asm) (by k_asm) rfl rfl rfl rfl rfl (by omega) (by omega) (by omega) (by omega) (by omega) (by omega) (by omega) (by omega)
      · rw [own_else h5] at T5
        k_steps
        · exfalso; omega
        show wpAny _ _ (call _ _) _ _ _
        refine Does.use (alike_row_does T5.val' T5.row' (by omega) (by omega)) (by assumption) (by k_asm) (by assumption) (by k_asm) (by assumption) rfl (by decide) (by decide) ?_
        rintro r5 post5 h5' tk5 F15 N15 ⟨rfl, tl15, rfl⟩
        try dsimp only
        obtain ⟨N16, T6, up6⟩ := T5.step N15 fun p hp => List.mem_append_right _ hp
        have R16 := R14'.mono up6
        generalize less _ _ = rest5 at N16 T6 up6 R16
        clear up6 N15 R14'
        have R16' := R16
        obtain ⟨q8, d8, o8, kvs8, hi8, t8, t8', n8, e8, hr8, hhi8, hd8, hlo8, hD8, hF8⟩ := R16
        cases e8
        k_steps
        · show wpAny _ _ (call _ _) _ _ _
          refine Does.use (val_does (lo := p1) (xs := p2) (R16'.mono T6.up) (by omega) (by omega)) (by assumption) (by k_asm) (by assumption) (by k_asm) (by assumption) rfl (by decide) (by decide) ?_
          rintro r6 post6 h6 tk6 F17 N17 ⟨il6, tl17, V17, rfl, hoff17⟩
          try dsimp only
          obtain ⟨N18, T7, up7⟩ := T6.step N17 fun p hp => List.mem_append_right _ hp
          have V18 := V17.lessDeck N17 (List.mem_append_right _ (.head _)) T6.deck
          have T8 := T7.set (R16'.mono up7) V18 (Ne.symm (hoff17 _ (.tail _ T6.cells)))
          generalize less _ _ = rest6 at N18 T8
          clear T7 T6 V17 V18 hoff17 up7 N17
          k_steps
          all_goals exact Mid.fin T8 (by k_asm) (by k_asm) rfl rfl rfl rfl rfl (by omega) (by omega) (by omega) (by omega) (by omega) (by omega) (by omega) (by omega)
        all_goals first | (exfalso; omega) | exact Mid.fin T6 (by k_asm) (by k_asm) rfl rfl rfl rfl rfl (by omega) (by omega) (by omega) (by omega) (by omega) (by omega) (by omega) (by omega)
  · clear hV3' hR3' hO3' hcs3 hoff3 off3
    intro m₁ news₁ h tk hJ F₁ N₁
    obtain ⟨q, od, lo, xs, lo2b, rs, ilb, rv, ov, vv, restb, hmd, hmr, hmv, hmo, rfl, offb, hDb, hq0, hqb, hcsb, hRb, hxb, hlb1, hlb2, hVb, hilb, hOb, hrb, hl2a, hl2b⟩ := hJ
    rw [map4 hmd hmr hmv hmo] at F₁
    have T0 : Mid _ _ _ ys [] restb od q rv vv ov lo xs xs lo2b rs ilb := ⟨offb, hDb, hcsb, (fun p hp => nomatch hp), hRb, hVb, hOb, hilb, (fun p hp => nomatch hp)⟩
    have hlo5 : -200 ≤ lo ∧ lo ≤ 200 := by omega
    clear offb hcsb hRb hVb hOb hilb hcs hD1 hD2 hD3 hN hFr hRg hlb1 hlb2 hqb
    dsimp only [envOf] at F₁ N₁
    try dsimp only
    k_steps
    show wpAny _ _ (call _ _) _ _ _
    walk_at "LAWTOP"
    refine Does.use (val_does (lo := lo2b) (xs := rs) T0.oth' (by omega) (by omega)) (by assumption) (by k_asm) (by assumption) (by k_asm) (by assumption) rfl (by decide) (by decide) ?_
    rintro r2 post2 h2 tk2 F9 N9 ⟨il2, tl9, V9, rfl, hoff9⟩
    try dsimp only
    obtain ⟨N10, T3, up3⟩ := T0.step N9 fun p hp => List.mem_append_right _ hp
    have V10 := V9.lessDeck N9 (List.mem_append_right _ (.head _)) T0.deck
    obtain ⟨vsI, nI, hilm, -⟩ := T0.val.list
    have hne2 := (hoff9 _ (.tail _ hilm)).symm
    generalize less _ _ = rest2 at N10 T3 V10 up3
    have hil2 := up3 _ hilm
    clear V9 hoff9 up3 N9 T0 hilm
    k_steps
    show wpAny _ _ (call _ _) _ _ _
    rename Fr _ _ _ _ => F6
    rename News _ _ _ _ => N6
    rename _ < _ ∧ AllLt _ _ => l6
    have hnel := Ne.symm (Nat.ne_of_lt (ktn_ltOf l6.2 _ hil2))
    refine DoesL.use (heard_does (T3.val.mono (up2n N6)) (V10.mono (up2n N6)) (news_head N6) hnel hne2 (by omega) (by omega) (by omega) (by omega) (by omega) (by omega) (by omega) (by omega) (by omega) (by omega) (by omega) (by omega)) (by assumption) (by assumption) (by assumption) (by k_asm) (by assumption) (by k_asm) (by assumption) rfl (by decide) (by decide) ?_
    rintro r3 post3 h3 tk3 F11 N11 ⟨H11, V11, hsub11⟩
    try dsimp only
    rw [own_else (by decide)] at V11
    obtain ⟨N12, T4⟩ := T3.heard N6 N11 (fun _ hp => .tail _ hp) hsub11 V11
    obtain ⟨vs9, n9, hm9, -⟩ := T3.val.list
    have hdm := hsub11 _ (.tail _ (.head _)) (Ne.symm (off_ne T3.off hm9))
    have H12 := H11.lessDeck N11 hdm T3.deck
    generalize less _ _ = rest3 at N12 T4 H12
    clear H11 V11 hsub11 hdm hm9 N11 T3 V10 N6 l6 hil2
    have K12 := T4.deck
    have off12 := T4.off
    k_steps
    show wpAny _ _ (call _ _) _ _ _
    walk_at "LAWTOP"
    rename News _ _ _ _ => N13
    have hD2 : dueR 2 lo xs lo2b rs 0 0 0 0 0 = .ofOr (behindR lo xs lo2b rs false) := by rw [dueR, if_neg (by decide), if_neg (by decide), if_pos rfl]; rfl
    rw [hD2] at H12
    refine Does.use (val_does (lo := 0) (xs := []) (row_none N13 (by assumption) (by assumption)) (by decide) (by decide)) (by assumption) (by k_asm) (by assumption) (by k_asm) (by assumption) rfl (by decide) (by decide) ?_
    rintro r4 post4 h4 tk4 F14 N14 ⟨il4, tl14, V14, rfl, hoff14⟩
    try dsimp only
    obtain ⟨N15, T5, up5⟩ := T4.step N14 fun p hp => List.mem_append_right _ (.tail _ (.tail _ hp))
    have V15 := V14.lessDeck N14 (List.mem_append_right _ (.tail _ (.tail _ (.head _)))) T4.deck
    have H15 := H12.mono up5
    generalize less _ _ = rest5 at N15 T5 V15 H15
    clear V14 hoff14 up5 N14 T4 H12 N13
    k_steps
    show wpAny _ _ (call _ _) _ _ _
    refine DoesE.use (concat_does (lo := 0) (xs := []) (lo2 := lo) (rs := xs) (V15.mono T5.up) T5.val' (by decide) (by decide) (by omega) (by omega)) (by assumption) (by k_asm) (by assumption) (by k_asm) (by assumption) rfl (by decide) (by decide) ?_ ?_
    case' refine_2 => (intro g e hx tx hp; exfalso; rw [behindR, if_pos rfl] at hp; cases hp)
    rintro r5 post5 h5 tk5 F16 N16 ⟨p5, il5, tl16, hp5, V16, rfl, hoff16⟩
    try dsimp only
    rw [behindR, if_pos rfl] at hp5
    cases hp5
    obtain ⟨N17, T6, up6⟩ := T5.step N16 fun p hp => List.mem_append_right _ hp
    have V17 := V16.lessDeck N16 (List.mem_append_right _ (.head _)) T5.deck
    have H17 := H15.mono up6
    generalize less _ _ = rest6 at N17 T6 V17 H17
    clear V16 hoff16 up6 N16 T5 H15 V15
    k_steps
    show wpAny _ _ (call _ _) _ _ _
    walk_at "LAWTOP"
    refine Does.use (behind_does T6.row' T6.oth' (by omega) (by omega) (by omega) (by omega)) (by assumption) (by k_asm) (by assumption) (by k_asm) (by assumption) rfl (by decide) (by decide) ?_
    rintro r6 post6 h6 tk6 F18 N18 ⟨tl18, rfl, P18⟩
    try dsimp only
    obtain ⟨N19, T7, up7⟩ := T6.step N18 fun p hp => List.mem_append_right _ hp
    have R19 := (ResIs.ofOr P18).lessDeck N18 (List.mem_append_right _ (.head _)) T6.deck
    have V19 := V17.mono up7
    have H19 := H17.mono up7
    generalize less _ _ = rest7 at N19 T7 R19 V19 H19
    clear P18 up7 N18 T6 H17 V17
    k_steps
    show wpAny _ _ (call _ _) _ _ _
    refine Does.use (alike_res (H19.mono T7.up) (R19.mono T7.up) (fun p e => by have := behindR_row (ofOr_row e); omega)) (by assumption) (by k_asm) (by assumption) (by k_asm) (by assumption) rfl (by decide) (by decide) ?_
    rintro r7 post7 h7 tk7 F20 N20 ⟨rfl, tl20, rfl⟩
    try dsimp only
    obtain ⟨N21, T8, up8⟩ := T7.step N20 fun p hp => List.mem_append_right _ hp
    have V21 := V19.mono up8
    generalize less _ _ = rest8 at N21 T8 V21
    clear up8 N20 T7 H19 V19 R19
    k_steps
    show wpAny _ _ (call _ _) _ _ _
    refine Does.use (alike_row_does (lo := lo) (xs := xs) (V21.mono T8.up) T8.row' (by omega) (by omega)) (by assumption) (by k_asm) (by assumption) (by k_asm) (by assumption) rfl (by decide) (by decide) ?_
    rintro r8 post8 h8 tk8 F22 N22 ⟨rfl, tl22, rfl⟩
    try dsimp only
    k_steps

end

end Mine
theorem PySem.Challenge.cw_pb0006_01_holds : PySem.Challenge.rw_pb0006_01.Holds :=
  Mine.law_dev
