import PyProof.Rows.All
import Wide.All
import OpenK.AllK
import Wide.FinOn
import Lean
import PySem.Challenge.RW_pc0165_01
set_option Elab.async false
section
open PySem PySem.Spec PySem.Calls PySem.W PyProof.Rows
set_option maxRecDepth 100000
namespace Mine.hd
def top (i : Nat) : Stmt := PySem.Challenge.pw_pc0165_01.main.body[i]!
def sub (i j : Nat) : Stmt := match top i with | .ClassDef _ _ _ b .. => b[j]! | s => s
def parOf : Stmt → Arguments | .FunctionDef _ p .. => p | _ => default
def bodyOf : Stmt → List Stmt | .FunctionDef _ _ b .. => b | _ => []
def scOf : Stmt → Scope | .FunctionDef _ _ _ _ _ _ s .. => s | _ => default
def fnRaw (name qual : Str) (s : Stmt) : FuncData := { name, qualname := qual, params := parOf s, body := .stmts (bodyOf s), scope := scOf s, globals := 0, closure := [], defaults := .none, kwdefaults := .none }
noncomputable def heap_39 : Params → Frag := fun P =>
    (nat_lit 2, { cls := Value.none, data := Data.dict #[] }) ::
    (nat_lit 3, { cls := Value.type "dict", data := Data.dict #[{ hash := PyData.keyHash P (Str.ofString "__name__"), key := Value.str (Str.ofString "__name__") 165, val := Value.str (Str.ofString "law_pc0165_01") 484 }, { hash := PyData.keyHash P (Str.ofString "__doc__"), key := Value.str (Str.ofString "__doc__") 166, val := Value.none }, { hash := PyData.keyHash P (Str.ofString "__package__"), key := Value.str (Str.ofString "__package__") 167, val := Value.none }, { hash := PyData.keyHash P (Str.ofString "__loader__"), key := Value.str (Str.ofString "__loader__") 168, val := Value.builtin "__main__.__loader__#opaque" }, { hash := PyData.keyHash P (Str.ofString "__spec__"), key := Value.str (Str.ofString "__spec__") 169, val := Value.none }, { hash := PyData.keyHash P (Str.ofString "__annotations__"), key := Value.str (Str.ofString "__annotations__") 170, val := Value.ref 6 }, { hash := PyData.keyHash P (Str.ofString "__builtins__"), key := Value.str (Str.ofString "__builtins__") 171, val := Value.ref 4 }, { hash := PyData.keyHash P (Str.ofString "__file__"), key := Value.str (Str.ofString "__file__") 173, val := Value.str (Str.ofString "/claim/cut.py") 172 }, { hash := PyData.keyHash P (Str.ofString "__cached__"), key := Value.str (Str.ofString "__cached__") 174, val := Value.none }, { hash := PyData.keyHash P (Str.ofString "_wall"), key := Value.str (Str.ofString "_wall") 193, val := Value.ref 21 }, { hash := PyData.keyHash P (Str.ofString "T_NONE"), key := Value.str (Str.ofString "T_NONE") 198, val := Value.int (-1) 197 }, { hash := PyData.keyHash P (Str.ofString "T_NIL"), key := Value.str (Str.ofString "T_NIL") 200, val := Value.int 0 199 }, { hash := PyData.keyHash P (Str.ofString "T_BOOLEAN"), key := Value.str (Str.ofString "T_BOOLEAN") 202, val := Value.int 1 201 }, { hash := PyData.keyHash P (Str.ofString "T_LIGHT"), key := Value.str (Str.ofString "T_LIGHT") 204, val := Value.int 2 203 }, { hash := PyData.keyHash P (Str.ofString "T_NUMBER"), key := Value.str (Str.ofString "T_NUMBER") 206, val := Value.int 3 205 }, { hash := PyData.keyHash P (Str.ofString "T_STRING"), key := Value.str (Str.ofString "T_STRING") 208, val := Value.int 4 207 }, { hash := PyData.keyHash P (Str.ofString "BLANKS"), key := Value.str (Str.ofString "BLANKS") 210, val := Value.bytes #[32, 9, 10, 11, 12, 13] 209 }, { hash := PyData.keyHash P (Str.ofString "Limits"), key := Value.str (Str.ofString "Limits") 281, val := Value.ref 53 }, { hash := PyData.keyHash P (Str.ofString "HeapObject"), key := Value.str (Str.ofString "HeapObject") 314, val := Value.ref 74 }, { hash := PyData.keyHash P (Str.ofString "LightValue"), key := Value.str (Str.ofString "LightValue") 343, val := Value.ref 95 }, { hash := PyData.keyHash P (Str.ofString "is_number"), key := Value.str (Str.ofString "is_number") 350, val := Value.ref 106 }, { hash := PyData.keyHash P (Str.ofString "type_of"), key := Value.str (Str.ofString "type_of") 357, val := Value.ref 113 }, { hash := PyData.keyHash P (Str.ofString "raw_equal"), key := Value.str (Str.ofString "raw_equal") 366, val := Value.ref 120 }, { hash := PyData.keyHash P (Str.ofString "wrap"), key := Value.str (Str.ofString "wrap") 375, val := Value.ref 127 }, { hash := PyData.keyHash P (Str.ofString "is_blank"), key := Value.str (Str.ofString "is_blank") 382, val := Value.ref 134 }, { hash := PyData.keyHash P (Str.ofString "digit_of"), key := Value.str (Str.ofString "digit_of") 389, val := Value.ref 141 }, { hash := PyData.keyHash P (Str.ofString "read_digits"), key := Value.str (Str.ofString "read_digits") 400, val := Value.ref 148 }, { hash := PyData.keyHash P (Str.ofString "skip_blanks"), key := Value.str (Str.ofString "skip_blanks") 408, val := Value.ref 155 }, { hash := PyData.keyHash P (Str.ofString "str_to_number"), key := Value.str (Str.ofString "str_to_number") 416, val := Value.ref 162 }, { hash := PyData.keyHash P (Str.ofString "text_in_base"), key := Value.str (Str.ofString "text_in_base") 430, val := Value.ref 169 }, { hash := PyData.keyHash P (Str.ofString "to_number"), key := Value.str (Str.ofString "to_number") 438, val := Value.ref 176 }, { hash := PyData.keyHash P (Str.ofString "number_text"), key := Value.str (Str.ofString "number_text") 447, val := Value.ref 183 }, { hash := PyData.keyHash P (Str.ofString "PLAIN_BASE"), key := Value.str (Str.ofString "PLAIN_BASE") 451, val := Value.int 10 450 }, { hash := PyData.keyHash P (Str.ofString "plain_text"), key := Value.str (Str.ofString "plain_text") 458, val := Value.ref 190 }, { hash := PyData.keyHash P (Str.ofString "number_told"), key := Value.str (Str.ofString "number_told") 467, val := Value.ref 197 }, { hash := PyData.keyHash P (Str.ofString "picked_from"), key := Value.str (Str.ofString "picked_from") 475, val := Value.ref 204 }, { hash := PyData.keyHash P (Str.ofString "key_count"), key := Value.str (Str.ofString "key_count") 483, val := Value.ref 211 }, { hash := PyData.keyHash P (Str.ofString "_law_deal"), key := Value.str (Str.ofString "_law_deal") 491, val := Value.ref 216 }, { hash := PyData.keyHash P (Str.ofString "_law_take"), key := Value.str (Str.ofString "_law_take") 499, val := Value.ref 223 }, { hash := PyData.keyHash P (Str.ofString "_law_value"), key := Value.str (Str.ofString "_law_value") 505, val := Value.ref 228 }, { hash := PyData.keyHash P (Str.ofString "_law_digits"), key := Value.str (Str.ofString "_law_digits") 514, val := Value.ref 235 }, { hash := PyData.keyHash P (Str.ofString "_law_worth"), key := Value.str (Str.ofString "_law_worth") 527, val := Value.ref 242 }, { hash := PyData.keyHash P (Str.ofString "_law_shown"), key := Value.str (Str.ofString "_law_shown") 534, val := Value.ref 249 }, { hash := PyData.keyHash P (Str.ofString "_law_number_right"), key := Value.str (Str.ofString "_law_number_right") 544, val := Value.ref 256 }, { hash := PyData.keyHash P (Str.ofString "_law_rows_right"), key := Value.str (Str.ofString "_law_rows_right") 556, val := Value.ref 263 }, { hash := PyData.keyHash P (Str.ofString "law"), key := Value.str (Str.ofString "law") 569, val := Value.ref 270 }] 46 }) ::
    (nat_lit 15, { cls := Value.type "tuple", data := Data.seq #[] }) ::
    (nat_lit 17, { cls := Value.type "tuple", data := Data.seq #[Value.str (Str.ofString "k") 190] }) ::
    (nat_lit 18, { cls := Value.type "tuple", data := Data.seq #[] }) ::
    (nat_lit 20, { cls := Value.type "code", data := Data.fields #[Value.str (Str.ofString "_wall") 187, Value.str (Str.ofString "_wall") 188, Value.str (Str.ofString "/claim/cut.py") 189, Value.int 1 0, Value.int 1 0, Value.int 0 0, Value.int 0 0, Value.int 3 0, Value.ref 15, Value.bool true, Value.int 181 0, Value.ref 16, Value.none, Value.ref 17, Value.ref 18, Value.ref 19, Value.int 191 0, Value.int 1 0, Value.str (Str.ofString "/claim/cut.py") 192] }) ::
    (nat_lit 21, ⟨Value.type "function", none, .func (fnOf (Str.ofString "_wall") (Str.ofString "_wall") (parOf (top 0)) (bodyOf (top 0)) (scOf (top 0)) (Value.none) (Value.none) (Value.none) (Value.str (Str.ofString "__main__") 164) (none) (Value.ref 20) (Value.none)), #[]⟩) ::
    (nat_lit 29, { cls := Value.type "tuple", data := Data.seq #[Value.int 64 223, Value.int 250 224, Value.int 60 225, Value.int 200 226, Value.int 40 227, Value.int 200 228, Value.int 2000 229, Value.int 50 230, Value.int 1000000000 231, Value.int 1000000 232] }) ::
    (nat_lit 30, { cls := Value.type "tuple", data := Data.seq #[] }) ::
    (nat_lit 32, { cls := Value.type "tuple", data := Data.seq #[Value.str (Str.ofString "self") 236, Value.str (Str.ofString "width") 237, Value.str (Str.ofString "registers") 238, Value.str (Str.ofString "upvalues") 239, Value.str (Str.ofString "local_names") 240, Value.str (Str.ofString "ccalls") 241, Value.str (Str.ofString "frames") 242, Value.str (Str.ofString "stack") 243, Value.str (Str.ofString "flush") 244, Value.str (Str.ofString "steps") 245, Value.str (Str.ofString "text") 246] }) ::
    (nat_lit 33, { cls := Value.type "tuple", data := Data.seq #[] }) ::
    (nat_lit 35, { cls := Value.type "code", data := Data.fields #[Value.str (Str.ofString "__init__") 233, Value.str (Str.ofString "Limits.__init__") 234, Value.str (Str.ofString "/claim/cut.py") 235, Value.int 14 0, Value.int 11 0, Value.int 0 0, Value.int 0 0, Value.int 3 0, Value.ref 30, Value.bool true, Value.int 181 0, Value.ref 31, Value.none, Value.ref 32, Value.ref 33, Value.ref 34, Value.int 247 0, Value.int 14 0, Value.str (Str.ofString "/claim/cut.py") 248] }) ::
    (nat_lit 36, ⟨Value.type "function", none, .func (fnOf (Str.ofString "__init__") (Str.ofString "Limits.__init__") (parOf (sub 9 0)) (bodyOf (sub 9 0)) (scOf (sub 9 0)) (Value.ref 29) (Value.none) (Value.none) (Value.str (Str.ofString "lua.values") 194) (none) (Value.ref 35) (Value.none)), #[]⟩) ::
    (nat_lit 37, { cls := Value.type "tuple", data := Data.seq #[] }) ::
    (nat_lit 39, { cls := Value.type "tuple", data := Data.seq #[Value.str (Str.ofString "self") 253] }) ::
    (nat_lit 40, { cls := Value.type "tuple", data := Data.seq #[] }) ::
    (nat_lit 42, { cls := Value.type "code", data := Data.fields #[Value.str (Str.ofString "greatest") 250, Value.str (Str.ofString "Limits.greatest") 251, Value.str (Str.ofString "/claim/cut.py") 252, Value.int 26 0, Value.int 1 0, Value.int 0 0, Value.int 0 0, Value.int 3 0, Value.ref 37, Value.bool true, Value.int 181 0, Value.ref 38, Value.none, Value.ref 39, Value.ref 40, Value.ref 41, Value.int 254 0, Value.int 26 0, Value.str (Str.ofString "/claim/cut.py") 255] }) ::
    (nat_lit 43, ⟨Value.type "function", none, .func (fnOf (Str.ofString "greatest") (Str.ofString "Limits.greatest") (parOf (sub 9 1)) (bodyOf (sub 9 1)) (scOf (sub 9 1)) (Value.none) (Value.none) (Value.none) (Value.str (Str.ofString "lua.values") 194) (none) (Value.ref 42) (Value.none)), #[]⟩) ::
    (nat_lit 44, { cls := Value.type "tuple", data := Data.seq #[] }) ::
    (nat_lit 46, { cls := Value.type "tuple", data := Data.seq #[Value.str (Str.ofString "self") 260] }) ::
    (nat_lit 47, { cls := Value.type "tuple", data := Data.seq #[] }) ::
    (nat_lit 49, { cls := Value.type "code", data := Data.fields #[Value.str (Str.ofString "least") 257, Value.str (Str.ofString "Limits.least") 258, Value.str (Str.ofString "/claim/cut.py") 259, Value.int 29 0, Value.int 1 0, Value.int 0 0, Value.int 0 0, Value.int 3 0, Value.ref 44, Value.bool true, Value.int 181 0, Value.ref 45, Value.none, Value.ref 46, Value.ref 47, Value.ref 48, Value.int 261 0, Value.int 29 0, Value.str (Str.ofString "/claim/cut.py") 262] }) ::
    (nat_lit 50, ⟨Value.type "function", none, .func (fnOf (Str.ofString "least") (Str.ofString "Limits.least") (parOf (sub 9 2)) (bodyOf (sub 9 2)) (scOf (sub 9 2)) (Value.none) (Value.none) (Value.none) (Value.str (Str.ofString "lua.values") 194) (none) (Value.ref 49) (Value.none)), #[]⟩) ::
    (nat_lit 51, { cls := Value.type "tuple", data := Data.seq #[Value.str (Str.ofString "ccalls") 264, Value.str (Str.ofString "flush") 265, Value.str (Str.ofString "frames") 266, Value.str (Str.ofString "local_names") 267, Value.str (Str.ofString "registers") 268, Value.str (Str.ofString "stack") 269, Value.str (Str.ofString "steps") 270, Value.str (Str.ofString "text") 271, Value.str (Str.ofString "upvalues") 272, Value.str (Str.ofString "width") 273] }) ::
    (nat_lit 52, { cls := Value.type "dict", data := Data.dict #[{ hash := PyData.keyHash P (Str.ofString "__module__"), key := Value.str (Str.ofString "__module__") 218, val := Value.str (Str.ofString "lua.values") 194 }, { hash := PyData.keyHash P (Str.ofString "__firstlineno__"), key := Value.str (Str.ofString "__firstlineno__") 222, val := Value.int 12 221 }, { hash := PyData.keyHash P (Str.ofString "__init__"), key := Value.str (Str.ofString "__init__") 249, val := Value.ref 36 }, { hash := PyData.keyHash P (Str.ofString "greatest"), key := Value.str (Str.ofString "greatest") 256, val := Value.ref 43 }, { hash := PyData.keyHash P (Str.ofString "least"), key := Value.str (Str.ofString "least") 263, val := Value.ref 50 }, { hash := PyData.keyHash P (Str.ofString "__static_attributes__"), key := Value.str (Str.ofString "__static_attributes__") 274, val := Value.ref 51 }, { hash := PyData.keyHash P (Str.ofString "__dict__"), key := Value.str (Str.ofString "__dict__") 276, val := Value.ref 54 }, { hash := PyData.keyHash P (Str.ofString "__weakref__"), key := Value.str (Str.ofString "__weakref__") 278, val := Value.ref 55 }, { hash := PyData.keyHash P (Str.ofString "__doc__"), key := Value.str (Str.ofString "__doc__") 279, val := Value.none }] 4 }) ::
    (nat_lit 53, { cls := Value.type "type", data := Data.cls { name := Str.ofString "Limits", bases := [Value.type "object"], mro := [Value.ref 53, Value.type "object"], ns := 52, qualname := Str.ofString "Limits" }, slots := #[none, none, some (Value.str (Str.ofString "Limits") 211), some (Value.str (Str.ofString "Limits") 219), some (Value.builtin "object.__new__"), some (Value.bool true)] }) ::
    (nat_lit 54, { cls := Value.type "getset_descriptor", data := Data.fields #[Value.str (Str.ofString "__dict__") 275, Value.ref 53, Value.builtin "function.__dict__", Value.builtin "function.__dict__#set"] }) ::
    (nat_lit 55, { cls := Value.type "getset_descriptor", data := Data.fields #[Value.str (Str.ofString "__weakref__") 277, Value.ref 53, Value.builtin "ExceptionGroup.__weakref__", Value.none] }) ::
    (nat_lit 65, { cls := Value.type "tuple", data := Data.seq #[] }) ::
    (nat_lit 67, { cls := Value.type "tuple", data := Data.seq #[Value.str (Str.ofString "self") 298, Value.str (Str.ofString "number") 299, Value.str (Str.ofString "size") 300] }) ::
    (nat_lit 68, { cls := Value.type "tuple", data := Data.seq #[] }) ::
    (nat_lit 70, { cls := Value.type "code", data := Data.fields #[Value.str (Str.ofString "__init__") 295, Value.str (Str.ofString "HeapObject.__init__") 296, Value.str (Str.ofString "/claim/cut.py") 297, Value.int 34 0, Value.int 3 0, Value.int 0 0, Value.int 0 0, Value.int 3 0, Value.ref 65, Value.bool true, Value.int 181 0, Value.ref 66, Value.none, Value.ref 67, Value.ref 68, Value.ref 69, Value.int 301 0, Value.int 34 0, Value.str (Str.ofString "/claim/cut.py") 302] }) ::
    (nat_lit 71, ⟨Value.type "function", none, .func (fnOf (Str.ofString "__init__") (Str.ofString "HeapObject.__init__") (parOf (sub 10 1)) (bodyOf (sub 10 1)) (scOf (sub 10 1)) (Value.none) (Value.none) (Value.none) (Value.str (Str.ofString "lua.values") 194) (none) (Value.ref 70) (Value.none)), #[]⟩) ::
    (nat_lit 72, { cls := Value.type "tuple", data := Data.seq #[Value.str (Str.ofString "mark") 304, Value.str (Str.ofString "number") 305, Value.str (Str.ofString "size") 306] }) ::
    (nat_lit 73, { cls := Value.type "dict", data := Data.dict #[{ hash := PyData.keyHash P (Str.ofString "__module__"), key := Value.str (Str.ofString "__module__") 289, val := Value.str (Str.ofString "lua.values") 194 }, { hash := PyData.keyHash P (Str.ofString "__firstlineno__"), key := Value.str (Str.ofString "__firstlineno__") 293, val := Value.int 31 292 }, { hash := PyData.keyHash P (Str.ofString "kind"), key := Value.str (Str.ofString "kind") 294, val := Value.int (-1) 197 }, { hash := PyData.keyHash P (Str.ofString "__init__"), key := Value.str (Str.ofString "__init__") 303, val := Value.ref 71 }, { hash := PyData.keyHash P (Str.ofString "__static_attributes__"), key := Value.str (Str.ofString "__static_attributes__") 307, val := Value.ref 72 }, { hash := PyData.keyHash P (Str.ofString "__dict__"), key := Value.str (Str.ofString "__dict__") 309, val := Value.ref 75 }, { hash := PyData.keyHash P (Str.ofString "__weakref__"), key := Value.str (Str.ofString "__weakref__") 311, val := Value.ref 76 }, { hash := PyData.keyHash P (Str.ofString "__doc__"), key := Value.str (Str.ofString "__doc__") 312, val := Value.none }] 4 }) ::
    (nat_lit 74, { cls := Value.type "type", data := Data.cls { name := Str.ofString "HeapObject", bases := [Value.type "object"], mro := [Value.ref 74, Value.type "object"], ns := 73, qualname := Str.ofString "HeapObject" }, slots := #[none, none, some (Value.str (Str.ofString "HeapObject") 282), some (Value.str (Str.ofString "HeapObject") 290), some (Value.builtin "object.__new__"), some (Value.bool true)] }) ::
    (nat_lit 75, { cls := Value.type "getset_descriptor", data := Data.fields #[Value.str (Str.ofString "__dict__") 308, Value.ref 74, Value.builtin "function.__dict__", Value.builtin "function.__dict__#set"] }) ::
    (nat_lit 76, { cls := Value.type "getset_descriptor", data := Data.fields #[Value.str (Str.ofString "__weakref__") 310, Value.ref 74, Value.builtin "ExceptionGroup.__weakref__", Value.none] }) ::
    (nat_lit 86, { cls := Value.type "tuple", data := Data.seq #[] }) ::
    (nat_lit 88, { cls := Value.type "tuple", data := Data.seq #[Value.str (Str.ofString "self") 330, Value.str (Str.ofString "number") 331] }) ::
    (nat_lit 89, { cls := Value.type "tuple", data := Data.seq #[] }) ::
    (nat_lit 91, { cls := Value.type "code", data := Data.fields #[Value.str (Str.ofString "__init__") 327, Value.str (Str.ofString "LightValue.__init__") 328, Value.str (Str.ofString "/claim/cut.py") 329, Value.int 40 0, Value.int 2 0, Value.int 0 0, Value.int 0 0, Value.int 3 0, Value.ref 86, Value.bool true, Value.int 181 0, Value.ref 87, Value.none, Value.ref 88, Value.ref 89, Value.ref 90, Value.int 332 0, Value.int 40 0, Value.str (Str.ofString "/claim/cut.py") 333] }) ::
    (nat_lit 92, ⟨Value.type "function", none, .func (fnOf (Str.ofString "__init__") (Str.ofString "LightValue.__init__") (parOf (sub 11 0)) (bodyOf (sub 11 0)) (scOf (sub 11 0)) (Value.none) (Value.none) (Value.none) (Value.str (Str.ofString "lua.values") 194) (none) (Value.ref 91) (Value.none)), #[]⟩) ::
    (nat_lit 93, { cls := Value.type "tuple", data := Data.seq #[Value.str (Str.ofString "number") 335] }) ::
    (nat_lit 94, { cls := Value.type "dict", data := Data.dict #[{ hash := PyData.keyHash P (Str.ofString "__module__"), key := Value.str (Str.ofString "__module__") 322, val := Value.str (Str.ofString "lua.values") 194 }, { hash := PyData.keyHash P (Str.ofString "__firstlineno__"), key := Value.str (Str.ofString "__firstlineno__") 326, val := Value.int 38 325 }, { hash := PyData.keyHash P (Str.ofString "__init__"), key := Value.str (Str.ofString "__init__") 334, val := Value.ref 92 }, { hash := PyData.keyHash P (Str.ofString "__static_attributes__"), key := Value.str (Str.ofString "__static_attributes__") 336, val := Value.ref 93 }, { hash := PyData.keyHash P (Str.ofString "__dict__"), key := Value.str (Str.ofString "__dict__") 338, val := Value.ref 96 }, { hash := PyData.keyHash P (Str.ofString "__weakref__"), key := Value.str (Str.ofString "__weakref__") 340, val := Value.ref 97 }, { hash := PyData.keyHash P (Str.ofString "__doc__"), key := Value.str (Str.ofString "__doc__") 341, val := Value.none }] 4 }) ::
    (nat_lit 95, { cls := Value.type "type", data := Data.cls { name := Str.ofString "LightValue", bases := [Value.type "object"], mro := [Value.ref 95, Value.type "object"], ns := 94, qualname := Str.ofString "LightValue" }, slots := #[none, none, some (Value.str (Str.ofString "LightValue") 315), some (Value.str (Str.ofString "LightValue") 323), some (Value.builtin "object.__new__"), some (Value.bool true)] }) ::
    (nat_lit 96, { cls := Value.type "getset_descriptor", data := Data.fields #[Value.str (Str.ofString "__dict__") 337, Value.ref 95, Value.builtin "function.__dict__", Value.builtin "function.__dict__#set"] }) ::
    (nat_lit 97, { cls := Value.type "getset_descriptor", data := Data.fields #[Value.str (Str.ofString "__weakref__") 339, Value.ref 95, Value.builtin "ExceptionGroup.__weakref__", Value.none] }) ::
    (nat_lit 100, { cls := Value.type "tuple", data := Data.seq #[] }) ::
    (nat_lit 102, { cls := Value.type "tuple", data := Data.seq #[Value.str (Str.ofString "value") 347] }) ::
    (nat_lit 103, { cls := Value.type "tuple", data := Data.seq #[] }) ::
    (nat_lit 105, { cls := Value.type "code", data := Data.fields #[Value.str (Str.ofString "is_number") 344, Value.str (Str.ofString "is_number") 345, Value.str (Str.ofString "/claim/cut.py") 346, Value.int 42 0, Value.int 1 0, Value.int 0 0, Value.int 0 0, Value.int 3 0, Value.ref 100, Value.bool true, Value.int 181 0, Value.ref 101, Value.none, Value.ref 102, Value.ref 103, Value.ref 104, Value.int 348 0, Value.int 42 0, Value.str (Str.ofString "/claim/cut.py") 349] }) ::
    (nat_lit 106, ⟨Value.type "function", none, .func (fnOf (Str.ofString "is_number") (Str.ofString "is_number") (parOf (top 12)) (bodyOf (top 12)) (scOf (top 12)) (Value.none) (Value.none) (Value.none) (Value.str (Str.ofString "lua.values") 194) (none) (Value.ref 105) (Value.none)), #[]⟩) ::
    (nat_lit 107, { cls := Value.type "tuple", data := Data.seq #[] }) ::
    (nat_lit 109, { cls := Value.type "tuple", data := Data.seq #[Value.str (Str.ofString "value") 354] }) ::
    (nat_lit 110, { cls := Value.type "tuple", data := Data.seq #[] }) ::
    (nat_lit 112, { cls := Value.type "code", data := Data.fields #[Value.str (Str.ofString "type_of") 351, Value.str (Str.ofString "type_of") 352, Value.str (Str.ofString "/claim/cut.py") 353, Value.int 44 0, Value.int 1 0, Value.int 0 0, Value.int 0 0, Value.int 3 0, Value.ref 107, Value.bool true, Value.int 181 0, Value.ref 108, Value.none, Value.ref 109, Value.ref 110, Value.ref 111, Value.int 355 0, Value.int 44 0, Value.str (Str.ofString "/claim/cut.py") 356] }) ::
    (nat_lit 113, ⟨Value.type "function", none, .func (fnOf (Str.ofString "type_of") (Str.ofString "type_of") (parOf (top 13)) (bodyOf (top 13)) (scOf (top 13)) (Value.none) (Value.none) (Value.none) (Value.str (Str.ofString "lua.values") 194) (none) (Value.ref 112) (Value.none)), #[]⟩) ::
    (nat_lit 114, { cls := Value.type "tuple", data := Data.seq #[] }) ::
    (nat_lit 116, { cls := Value.type "tuple", data := Data.seq #[Value.str (Str.ofString "a") 361, Value.str (Str.ofString "b") 362, Value.str (Str.ofString "tag") 363] }) ::
    (nat_lit 117, { cls := Value.type "tuple", data := Data.seq #[] }) ::
    (nat_lit 119, { cls := Value.type "code", data := Data.fields #[Value.str (Str.ofString "raw_equal") 358, Value.str (Str.ofString "raw_equal") 359, Value.str (Str.ofString "/claim/cut.py") 360, Value.int 58 0, Value.int 2 0, Value.int 0 0, Value.int 0 0, Value.int 3 0, Value.ref 114, Value.bool true, Value.int 181 0, Value.ref 115, Value.none, Value.ref 116, Value.ref 117, Value.ref 118, Value.int 364 0, Value.int 58 0, Value.str (Str.ofString "/claim/cut.py") 365] }) ::
    (nat_lit 120, ⟨Value.type "function", none, .func (fnOf (Str.ofString "raw_equal") (Str.ofString "raw_equal") (parOf (top 14)) (bodyOf (top 14)) (scOf (top 14)) (Value.none) (Value.none) (Value.none) (Value.str (Str.ofString "lua.values") 194) (none) (Value.ref 119) (Value.none)), #[]⟩) ::
    (nat_lit 121, { cls := Value.type "tuple", data := Data.seq #[] }) ::
    (nat_lit 123, { cls := Value.type "tuple", data := Data.seq #[Value.str (Str.ofString "n") 370, Value.str (Str.ofString "width") 371, Value.str (Str.ofString "low") 372] }) ::
    (nat_lit 124, { cls := Value.type "tuple", data := Data.seq #[] }) ::
    (nat_lit 126, { cls := Value.type "code", data := Data.fields #[Value.str (Str.ofString "wrap") 367, Value.str (Str.ofString "wrap") 368, Value.str (Str.ofString "/claim/cut.py") 369, Value.int 67 0, Value.int 2 0, Value.int 0 0, Value.int 0 0, Value.int 3 0, Value.ref 121, Value.bool true, Value.int 181 0, Value.ref 122, Value.none, Value.ref 123, Value.ref 124, Value.ref 125, Value.int 373 0, Value.int 67 0, Value.str (Str.ofString "/claim/cut.py") 374] }) ::
    (nat_lit 127, ⟨Value.type "function", none, .func (fnOf (Str.ofString "wrap") (Str.ofString "wrap") (parOf (top 15)) (bodyOf (top 15)) (scOf (top 15)) (Value.none) (Value.none) (Value.none) (Value.str (Str.ofString "lua.values") 194) (none) (Value.ref 126) (Value.none)), #[]⟩) ::
    (nat_lit 128, { cls := Value.type "tuple", data := Data.seq #[] }) ::
    (nat_lit 130, { cls := Value.type "tuple", data := Data.seq #[Value.str (Str.ofString "octet") 379] }) ::
    (nat_lit 131, { cls := Value.type "tuple", data := Data.seq #[] }) ::
    (nat_lit 133, { cls := Value.type "code", data := Data.fields #[Value.str (Str.ofString "is_blank") 376, Value.str (Str.ofString "is_blank") 377, Value.str (Str.ofString "/claim/cut.py") 378, Value.int 72 0, Value.int 1 0, Value.int 0 0, Value.int 0 0, Value.int 3 0, Value.ref 128, Value.bool true, Value.int 181 0, Value.ref 129, Value.none, Value.ref 130, Value.ref 131, Value.ref 132, Value.int 380 0, Value.int 72 0, Value.str (Str.ofString "/claim/cut.py") 381] }) ::
    (nat_lit 134, ⟨Value.type "function", none, .func (fnOf (Str.ofString "is_blank") (Str.ofString "is_blank") (parOf (top 16)) (bodyOf (top 16)) (scOf (top 16)) (Value.none) (Value.none) (Value.none) (Value.str (Str.ofString "lua.values") 194) (none) (Value.ref 133) (Value.none)), #[]⟩) ::
    (nat_lit 135, { cls := Value.type "tuple", data := Data.seq #[] }) ::
    (nat_lit 137, { cls := Value.type "tuple", data := Data.seq #[Value.str (Str.ofString "octet") 386] }) ::
    (nat_lit 138, { cls := Value.type "tuple", data := Data.seq #[] }) ::
    (nat_lit 140, { cls := Value.type "code", data := Data.fields #[Value.str (Str.ofString "digit_of") 383, Value.str (Str.ofString "digit_of") 384, Value.str (Str.ofString "/claim/cut.py") 385, Value.int 74 0, Value.int 1 0, Value.int 0 0, Value.int 0 0, Value.int 3 0, Value.ref 135, Value.bool true, Value.int 181 0, Value.ref 136, Value.none, Value.ref 137, Value.ref 138, Value.ref 139, Value.int 387 0, Value.int 74 0, Value.str (Str.ofString "/claim/cut.py") 388] }) ::
    (nat_lit 141, ⟨Value.type "function", none, .func (fnOf (Str.ofString "digit_of") (Str.ofString "digit_of") (parOf (top 17)) (bodyOf (top 17)) (scOf (top 17)) (Value.none) (Value.none) (Value.none) (Value.str (Str.ofString "lua.values") 194) (none) (Value.ref 140) (Value.none)), #[]⟩) ::
    (nat_lit 142, { cls := Value.type "tuple", data := Data.seq #[] }) ::
    (nat_lit 144, { cls := Value.type "tuple", data := Data.seq #[Value.str (Str.ofString "text") 393, Value.str (Str.ofString "at") 394, Value.str (Str.ofString "base") 395, Value.str (Str.ofString "found") 396, Value.str (Str.ofString "digit") 397] }) ::
    (nat_lit 145, { cls := Value.type "tuple", data := Data.seq #[] }) ::
    (nat_lit 147, { cls := Value.type "code", data := Data.fields #[Value.str (Str.ofString "read_digits") 390, Value.str (Str.ofString "read_digits") 391, Value.str (Str.ofString "/claim/cut.py") 392, Value.int 82 0, Value.int 3 0, Value.int 0 0, Value.int 0 0, Value.int 3 0, Value.ref 142, Value.bool true, Value.int 181 0, Value.ref 143, Value.none, Value.ref 144, Value.ref 145, Value.ref 146, Value.int 398 0, Value.int 82 0, Value.str (Str.ofString "/claim/cut.py") 399] }) ::
    (nat_lit 148, ⟨Value.type "function", none, .func (fnOf (Str.ofString "read_digits") (Str.ofString "read_digits") (parOf (top 18)) (bodyOf (top 18)) (scOf (top 18)) (Value.none) (Value.none) (Value.none) (Value.str (Str.ofString "lua.values") 194) (none) (Value.ref 147) (Value.none)), #[]⟩) ::
    (nat_lit 149, { cls := Value.type "tuple", data := Data.seq #[] }) ::
    (nat_lit 151, { cls := Value.type "tuple", data := Data.seq #[Value.str (Str.ofString "text") 404, Value.str (Str.ofString "at") 405] }) ::
    (nat_lit 152, { cls := Value.type "tuple", data := Data.seq #[] }) ::
    (nat_lit 154, { cls := Value.type "code", data := Data.fields #[Value.str (Str.ofString "skip_blanks") 401, Value.str (Str.ofString "skip_blanks") 402, Value.str (Str.ofString "/claim/cut.py") 403, Value.int 91 0, Value.int 2 0, Value.int 0 0, Value.int 0 0, Value.int 3 0, Value.ref 149, Value.bool true, Value.int 181 0, Value.ref 150, Value.none, Value.ref 151, Value.ref 152, Value.ref 153, Value.int 406 0, Value.int 91 0, Value.str (Str.ofString "/claim/cut.py") 407] }) ::
    (nat_lit 155, ⟨Value.type "function", none, .func (fnOf (Str.ofString "skip_blanks") (Str.ofString "skip_blanks") (parOf (top 19)) (bodyOf (top 19)) (scOf (top 19)) (Value.none) (Value.none) (Value.none) (Value.str (Str.ofString "lua.values") 194) (none) (Value.ref 154) (Value.none)), #[]⟩) ::
    (nat_lit 156, { cls := Value.type "tuple", data := Data.seq #[] }) ::
    (nat_lit 158, { cls := Value.type "tuple", data := Data.seq #[Value.str (Str.ofString "text") 412, Value.str (Str.ofString "limits") 413] }) ::
    (nat_lit 159, { cls := Value.type "tuple", data := Data.seq #[] }) ::
    (nat_lit 161, { cls := Value.type "code", data := Data.fields #[Value.str (Str.ofString "str_to_number") 409, Value.str (Str.ofString "str_to_number") 410, Value.str (Str.ofString "/claim/cut.py") 411, Value.int 95 0, Value.int 2 0, Value.int 0 0, Value.int 0 0, Value.int 3 0, Value.ref 156, Value.bool true, Value.int 181 0, Value.ref 157, Value.none, Value.ref 158, Value.ref 159, Value.ref 160, Value.int 414 0, Value.int 95 0, Value.str (Str.ofString "/claim/cut.py") 415] }) ::
    (nat_lit 162, ⟨Value.type "function", none, .func (fnOf (Str.ofString "str_to_number") (Str.ofString "str_to_number") (parOf (top 20)) (bodyOf (top 20)) (scOf (top 20)) (Value.none) (Value.none) (Value.none) (Value.str (Str.ofString "lua.values") 194) (none) (Value.ref 161) (Value.none)), #[]⟩) ::
    (nat_lit 163, { cls := Value.type "tuple", data := Data.seq #[] }) ::
    (nat_lit 165, { cls := Value.type "tuple", data := Data.seq #[Value.str (Str.ofString "text") 420, Value.str (Str.ofString "base") 421, Value.str (Str.ofString "limits") 422, Value.str (Str.ofString "at") 423, Value.str (Str.ofString "is_below") 424, Value.str (Str.ofString "is_marked") 425, Value.str (Str.ofString "found") 426, Value.str (Str.ofString "end") 427] }) ::
    (nat_lit 166, { cls := Value.type "tuple", data := Data.seq #[] }) ::
    (nat_lit 168, { cls := Value.type "code", data := Data.fields #[Value.str (Str.ofString "text_in_base") 417, Value.str (Str.ofString "text_in_base") 418, Value.str (Str.ofString "/claim/cut.py") 419, Value.int 97 0, Value.int 3 0, Value.int 0 0, Value.int 0 0, Value.int 3 0, Value.ref 163, Value.bool true, Value.int 181 0, Value.ref 164, Value.none, Value.ref 165, Value.ref 166, Value.ref 167, Value.int 428 0, Value.int 97 0, Value.str (Str.ofString "/claim/cut.py") 429] }) ::
    (nat_lit 169, ⟨Value.type "function", none, .func (fnOf (Str.ofString "text_in_base") (Str.ofString "text_in_base") (parOf (top 21)) (bodyOf (top 21)) (scOf (top 21)) (Value.none) (Value.none) (Value.none) (Value.str (Str.ofString "lua.values") 194) (none) (Value.ref 168) (Value.none)), #[]⟩) ::
    (nat_lit 170, { cls := Value.type "tuple", data := Data.seq #[] }) ::
    (nat_lit 172, { cls := Value.type "tuple", data := Data.seq #[Value.str (Str.ofString "value") 434, Value.str (Str.ofString "limits") 435] }) ::
    (nat_lit 173, { cls := Value.type "tuple", data := Data.seq #[] }) ::
    (nat_lit 175, { cls := Value.type "code", data := Data.fields #[Value.str (Str.ofString "to_number") 431, Value.str (Str.ofString "to_number") 432, Value.str (Str.ofString "/claim/cut.py") 433, Value.int 109 0, Value.int 2 0, Value.int 0 0, Value.int 0 0, Value.int 3 0, Value.ref 170, Value.bool true, Value.int 181 0, Value.ref 171, Value.none, Value.ref 172, Value.ref 173, Value.ref 174, Value.int 436 0, Value.int 109 0, Value.str (Str.ofString "/claim/cut.py") 437] }) ::
    (nat_lit 176, ⟨Value.type "function", none, .func (fnOf (Str.ofString "to_number") (Str.ofString "to_number") (parOf (top 22)) (bodyOf (top 22)) (scOf (top 22)) (Value.none) (Value.none) (Value.none) (Value.str (Str.ofString "lua.values") 194) (none) (Value.ref 175) (Value.none)), #[]⟩) ::
    (nat_lit 177, { cls := Value.type "tuple", data := Data.seq #[] }) ::
    (nat_lit 179, { cls := Value.type "tuple", data := Data.seq #[Value.str (Str.ofString "n") 442, Value.str (Str.ofString "left") 443, Value.str (Str.ofString "found") 444] }) ::
    (nat_lit 180, { cls := Value.type "tuple", data := Data.seq #[] }) ::
    (nat_lit 182, { cls := Value.type "code", data := Data.fields #[Value.str (Str.ofString "number_text") 439, Value.str (Str.ofString "number_text") 440, Value.str (Str.ofString "/claim/cut.py") 441, Value.int 115 0, Value.int 1 0, Value.int 0 0, Value.int 0 0, Value.int 3 0, Value.ref 177, Value.bool true, Value.int 181 0, Value.ref 178, Value.none, Value.ref 179, Value.ref 180, Value.ref 181, Value.int 445 0, Value.int 115 0, Value.str (Str.ofString "/claim/cut.py") 446] }) ::
    (nat_lit 183, ⟨Value.type "function", none, .func (fnOf (Str.ofString "number_text") (Str.ofString "number_text") (parOf (top 23)) (bodyOf (top 23)) (scOf (top 23)) (Value.none) (Value.none) (Value.none) (Value.str (Str.ofString "lua.values") 194) (none) (Value.ref 182) (Value.none)), #[]⟩) ::
    (nat_lit 184, { cls := Value.type "tuple", data := Data.seq #[] }) ::
    (nat_lit 186, { cls := Value.type "tuple", data := Data.seq #[Value.str (Str.ofString "value") 455] }) ::
    (nat_lit 187, { cls := Value.type "tuple", data := Data.seq #[] }) ::
    (nat_lit 189, { cls := Value.type "code", data := Data.fields #[Value.str (Str.ofString "plain_text") 452, Value.str (Str.ofString "plain_text") 453, Value.str (Str.ofString "/claim/cut.py") 454, Value.int 127 0, Value.int 1 0, Value.int 0 0, Value.int 0 0, Value.int 3 0, Value.ref 184, Value.bool true, Value.int 181 0, Value.ref 185, Value.none, Value.ref 186, Value.ref 187, Value.ref 188, Value.int 456 0, Value.int 127 0, Value.str (Str.ofString "/claim/cut.py") 457] }) ::
    (nat_lit 190, ⟨Value.type "function", none, .func (fnOf (Str.ofString "plain_text") (Str.ofString "plain_text") (parOf (top 26)) (bodyOf (top 26)) (scOf (top 26)) (Value.none) (Value.none) (Value.none) (Value.str (Str.ofString "lua.basevalues") 448) (none) (Value.ref 189) (Value.none)), #[]⟩) ::
    (nat_lit 191, { cls := Value.type "tuple", data := Data.seq #[] }) ::
    (nat_lit 193, { cls := Value.type "tuple", data := Data.seq #[Value.str (Str.ofString "value") 462, Value.str (Str.ofString "base") 463, Value.str (Str.ofString "limits") 464] }) ::
    (nat_lit 194, { cls := Value.type "tuple", data := Data.seq #[] }) ::
    (nat_lit 196, { cls := Value.type "code", data := Data.fields #[Value.str (Str.ofString "number_told") 459, Value.str (Str.ofString "number_told") 460, Value.str (Str.ofString "/claim/cut.py") 461, Value.int 135 0, Value.int 3 0, Value.int 0 0, Value.int 0 0, Value.int 3 0, Value.ref 191, Value.bool true, Value.int 181 0, Value.ref 192, Value.none, Value.ref 193, Value.ref 194, Value.ref 195, Value.int 465 0, Value.int 135 0, Value.str (Str.ofString "/claim/cut.py") 466] }) ::
    (nat_lit 197, ⟨Value.type "function", none, .func (fnOf (Str.ofString "number_told") (Str.ofString "number_told") (parOf (top 27)) (bodyOf (top 27)) (scOf (top 27)) (Value.none) (Value.none) (Value.none) (Value.str (Str.ofString "lua.basevalues") 448) (none) (Value.ref 196) (Value.none)), #[]⟩) ::
    (nat_lit 198, { cls := Value.type "tuple", data := Data.seq #[] }) ::
    (nat_lit 200, { cls := Value.type "tuple", data := Data.seq #[Value.str (Str.ofString "place") 471, Value.str (Str.ofString "count") 472] }) ::
    (nat_lit 201, { cls := Value.type "tuple", data := Data.seq #[] }) ::
    (nat_lit 203, { cls := Value.type "code", data := Data.fields #[Value.str (Str.ofString "picked_from") 468, Value.str (Str.ofString "picked_from") 469, Value.str (Str.ofString "/claim/cut.py") 470, Value.int 139 0, Value.int 2 0, Value.int 0 0, Value.int 0 0, Value.int 3 0, Value.ref 198, Value.bool true, Value.int 181 0, Value.ref 199, Value.none, Value.ref 200, Value.ref 201, Value.ref 202, Value.int 473 0, Value.int 139 0, Value.str (Str.ofString "/claim/cut.py") 474] }) ::
    (nat_lit 204, ⟨Value.type "function", none, .func (fnOf (Str.ofString "picked_from") (Str.ofString "picked_from") (parOf (top 28)) (bodyOf (top 28)) (scOf (top 28)) (Value.none) (Value.none) (Value.none) (Value.str (Str.ofString "lua.basevalues") 448) (none) (Value.ref 203) (Value.none)), #[]⟩) ::
    (nat_lit 205, { cls := Value.type "tuple", data := Data.seq #[] }) ::
    (nat_lit 207, { cls := Value.type "tuple", data := Data.seq #[Value.str (Str.ofString "first") 479, Value.str (Str.ofString "last") 480] }) ::
    (nat_lit 208, { cls := Value.type "tuple", data := Data.seq #[] }) ::
    (nat_lit 210, { cls := Value.type "code", data := Data.fields #[Value.str (Str.ofString "key_count") 476, Value.str (Str.ofString "key_count") 477, Value.str (Str.ofString "/claim/cut.py") 478, Value.int 145 0, Value.int 2 0, Value.int 0 0, Value.int 0 0, Value.int 3 0, Value.ref 205, Value.bool true, Value.int 181 0, Value.ref 206, Value.none, Value.ref 207, Value.ref 208, Value.ref 209, Value.int 481 0, Value.int 145 0, Value.str (Str.ofString "/claim/cut.py") 482] }) ::
    (nat_lit 211, ⟨Value.type "function", none, .func (fnOf (Str.ofString "key_count") (Str.ofString "key_count") (parOf (top 29)) (bodyOf (top 29)) (scOf (top 29)) (Value.none) (Value.none) (Value.none) (Value.str (Str.ofString "lua.basevalues") 448) (none) (Value.ref 210) (Value.none)), #[]⟩) ::
    (nat_lit 212, { cls := Value.type "tuple", data := Data.seq #[] }) ::
    (nat_lit 215, { cls := Value.type "code", data := Data.fields #[Value.str (Str.ofString "_law_deal") 486, Value.str (Str.ofString "_law_deal") 487, Value.str (Str.ofString "/claim/cut.py") 488, Value.int 148 0, Value.int 1 0, Value.int 0 0, Value.int 0 0, Value.int 3 0, Value.ref 212, Value.bool true, Value.int 181 0, Value.ref 213, Value.none, Value.none, Value.none, Value.ref 214, Value.int 489 0, Value.int 148 0, Value.str (Str.ofString "/claim/cut.py") 490] }) ::
    (nat_lit 216, ⟨Value.type "function", none, .func (fnOf (Str.ofString "_law_deal") (Str.ofString "_law_deal") (parOf (top 31)) (bodyOf (top 31)) (scOf (top 31)) (Value.none) (Value.none) (Value.none) (Value.str (Str.ofString "law_pc0165_01") 484) (none) (Value.ref 215) (Value.none)), #[]⟩) ::
    (nat_lit 217, { cls := Value.type "tuple", data := Data.seq #[] }) ::
    (nat_lit 219, { cls := Value.type "tuple", data := Data.seq #[Value.str (Str.ofString "deal") 495, Value.str (Str.ofString "many") 496] }) ::
    (nat_lit 220, { cls := Value.type "tuple", data := Data.seq #[] }) ::
    (nat_lit 222, { cls := Value.type "code", data := Data.fields #[Value.str (Str.ofString "_law_take") 492, Value.str (Str.ofString "_law_take") 493, Value.str (Str.ofString "/claim/cut.py") 494, Value.int 154 0, Value.int 2 0, Value.int 0 0, Value.int 0 0, Value.int 3 0, Value.ref 217, Value.bool true, Value.int 181 0, Value.ref 218, Value.none, Value.ref 219, Value.ref 220, Value.ref 221, Value.int 497 0, Value.int 154 0, Value.str (Str.ofString "/claim/cut.py") 498] }) ::
    (nat_lit 223, ⟨Value.type "function", none, .func (fnOf (Str.ofString "_law_take") (Str.ofString "_law_take") (parOf (top 32)) (bodyOf (top 32)) (scOf (top 32)) (Value.none) (Value.none) (Value.none) (Value.str (Str.ofString "law_pc0165_01") 484) (none) (Value.ref 222) (Value.none)), #[]⟩) ::
    (nat_lit 224, { cls := Value.type "tuple", data := Data.seq #[] }) ::
    (nat_lit 227, { cls := Value.type "code", data := Data.fields #[Value.str (Str.ofString "_law_value") 500, Value.str (Str.ofString "_law_value") 501, Value.str (Str.ofString "/claim/cut.py") 502, Value.int 160 0, Value.int 1 0, Value.int 0 0, Value.int 0 0, Value.int 3 0, Value.ref 224, Value.bool true, Value.int 181 0, Value.ref 225, Value.none, Value.none, Value.none, Value.ref 226, Value.int 503 0, Value.int 160 0, Value.str (Str.ofString "/claim/cut.py") 504] }) ::
    (nat_lit 228, ⟨Value.type "function", none, .func (fnOf (Str.ofString "_law_value") (Str.ofString "_law_value") (parOf (top 33)) (bodyOf (top 33)) (scOf (top 33)) (Value.none) (Value.none) (Value.none) (Value.str (Str.ofString "law_pc0165_01") 484) (none) (Value.ref 227) (Value.none)), #[]⟩) ::
    (nat_lit 229, { cls := Value.type "tuple", data := Data.seq #[] }) ::
    (nat_lit 231, { cls := Value.type "tuple", data := Data.seq #[Value.str (Str.ofString "number") 509, Value.str (Str.ofString "base") 510, Value.str (Str.ofString "found") 511] }) ::
    (nat_lit 232, { cls := Value.type "tuple", data := Data.seq #[] }) ::
    (nat_lit 234, { cls := Value.type "code", data := Data.fields #[Value.str (Str.ofString "_law_digits") 506, Value.str (Str.ofString "_law_digits") 507, Value.str (Str.ofString "/claim/cut.py") 508, Value.int 168 0, Value.int 2 0, Value.int 0 0, Value.int 0 0, Value.int 3 0, Value.ref 229, Value.bool true, Value.int 181 0, Value.ref 230, Value.none, Value.ref 231, Value.ref 232, Value.ref 233, Value.int 512 0, Value.int 168 0, Value.str (Str.ofString "/claim/cut.py") 513] }) ::
    (nat_lit 235, ⟨Value.type "function", none, .func (fnOf (Str.ofString "_law_digits") (Str.ofString "_law_digits") (parOf (top 34)) (bodyOf (top 34)) (scOf (top 34)) (Value.none) (Value.none) (Value.none) (Value.str (Str.ofString "law_pc0165_01") 484) (none) (Value.ref 234) (Value.none)), #[]⟩) ::
    (nat_lit 236, { cls := Value.type "tuple", data := Data.seq #[] }) ::
    (nat_lit 238, { cls := Value.type "tuple", data := Data.seq #[Value.str (Str.ofString "text") 518, Value.str (Str.ofString "base") 519, Value.str (Str.ofString "word") 520, Value.str (Str.ofString "is_below") 521, Value.str (Str.ofString "found") 522, Value.str (Str.ofString "sign") 523, Value.str (Str.ofString "digit") 524] }) ::
    (nat_lit 239, { cls := Value.type "tuple", data := Data.seq #[] }) ::
    (nat_lit 241, { cls := Value.type "code", data := Data.fields #[Value.str (Str.ofString "_law_worth") 515, Value.str (Str.ofString "_law_worth") 516, Value.str (Str.ofString "/claim/cut.py") 517, Value.int 174 0, Value.int 2 0, Value.int 0 0, Value.int 0 0, Value.int 3 0, Value.ref 236, Value.bool true, Value.int 181 0, Value.ref 237, Value.none, Value.ref 238, Value.ref 239, Value.ref 240, Value.int 525 0, Value.int 174 0, Value.str (Str.ofString "/claim/cut.py") 526] }) ::
    (nat_lit 242, ⟨Value.type "function", none, .func (fnOf (Str.ofString "_law_worth") (Str.ofString "_law_worth") (parOf (top 35)) (bodyOf (top 35)) (scOf (top 35)) (Value.none) (Value.none) (Value.none) (Value.str (Str.ofString "law_pc0165_01") 484) (none) (Value.ref 241) (Value.none)), #[]⟩) ::
    (nat_lit 243, { cls := Value.type "tuple", data := Data.seq #[] }) ::
    (nat_lit 245, { cls := Value.type "tuple", data := Data.seq #[Value.str (Str.ofString "value") 531] }) ::
    (nat_lit 246, { cls := Value.type "tuple", data := Data.seq #[] }) ::
    (nat_lit 248, { cls := Value.type "code", data := Data.fields #[Value.str (Str.ofString "_law_shown") 528, Value.str (Str.ofString "_law_shown") 529, Value.str (Str.ofString "/claim/cut.py") 530, Value.int 186 0, Value.int 1 0, Value.int 0 0, Value.int 0 0, Value.int 3 0, Value.ref 243, Value.bool true, Value.int 181 0, Value.ref 244, Value.none, Value.ref 245, Value.ref 246, Value.ref 247, Value.int 532 0, Value.int 186 0, Value.str (Str.ofString "/claim/cut.py") 533] }) ::
    (nat_lit 249, ⟨Value.type "function", none, .func (fnOf (Str.ofString "_law_shown") (Str.ofString "_law_shown") (parOf (top 36)) (bodyOf (top 36)) (scOf (top 36)) (Value.none) (Value.none) (Value.none) (Value.str (Str.ofString "law_pc0165_01") 484) (none) (Value.ref 248) (Value.none)), #[]⟩) ::
    (nat_lit 250, { cls := Value.type "tuple", data := Data.seq #[] }) ::
    (nat_lit 252, { cls := Value.type "tuple", data := Data.seq #[Value.str (Str.ofString "value") 538, Value.str (Str.ofString "base") 539, Value.str (Str.ofString "limits") 540, Value.str (Str.ofString "figures") 541] }) ::
    (nat_lit 253, { cls := Value.type "tuple", data := Data.seq #[] }) ::
    (nat_lit 255, { cls := Value.type "code", data := Data.fields #[Value.str (Str.ofString "_law_number_right") 535, Value.str (Str.ofString "_law_number_right") 536, Value.str (Str.ofString "/claim/cut.py") 537, Value.int 192 0, Value.int 3 0, Value.int 0 0, Value.int 0 0, Value.int 3 0, Value.ref 250, Value.bool true, Value.int 181 0, Value.ref 251, Value.none, Value.ref 252, Value.ref 253, Value.ref 254, Value.int 542 0, Value.int 192 0, Value.str (Str.ofString "/claim/cut.py") 543] }) ::
    (nat_lit 256, ⟨Value.type "function", none, .func (fnOf (Str.ofString "_law_number_right") (Str.ofString "_law_number_right") (parOf (top 37)) (bodyOf (top 37)) (scOf (top 37)) (Value.none) (Value.none) (Value.none) (Value.str (Str.ofString "law_pc0165_01") 484) (none) (Value.ref 255) (Value.none)), #[]⟩) ::
    (nat_lit 257, { cls := Value.type "tuple", data := Data.seq #[] }) ::
    (nat_lit 259, { cls := Value.type "tuple", data := Data.seq #[Value.str (Str.ofString "deal") 548, Value.str (Str.ofString "row") 549, Value.str (Str.ofString "place") 550, Value.str (Str.ofString "due") 551, Value.str (Str.ofString "first") 552, Value.str (Str.ofString "last") 553] }) ::
    (nat_lit 260, { cls := Value.type "tuple", data := Data.seq #[] }) ::
    (nat_lit 262, { cls := Value.type "code", data := Data.fields #[Value.str (Str.ofString "_law_rows_right") 545, Value.str (Str.ofString "_law_rows_right") 546, Value.str (Str.ofString "/claim/cut.py") 547, Value.int 201 0, Value.int 1 0, Value.int 0 0, Value.int 0 0, Value.int 3 0, Value.ref 257, Value.bool true, Value.int 181 0, Value.ref 258, Value.none, Value.ref 259, Value.ref 260, Value.ref 261, Value.int 554 0, Value.int 201 0, Value.str (Str.ofString "/claim/cut.py") 555] }) ::
    (nat_lit 263, ⟨Value.type "function", none, .func (fnOf (Str.ofString "_law_rows_right") (Str.ofString "_law_rows_right") (parOf (top 38)) (bodyOf (top 38)) (scOf (top 38)) (Value.none) (Value.none) (Value.none) (Value.str (Str.ofString "law_pc0165_01") 484) (none) (Value.ref 262) (Value.none)), #[]⟩) ::
    (nat_lit 264, { cls := Value.type "tuple", data := Data.seq #[] }) ::
    (nat_lit 266, { cls := Value.type "tuple", data := Data.seq #[Value.str (Str.ofString "script") 560, Value.str (Str.ofString "deal") 561, Value.str (Str.ofString "limits") 562, Value.str (Str.ofString "one") 563, Value.str (Str.ofString "other") 564, Value.str (Str.ofString "base") 565, Value.str (Str.ofString "value") 566] }) ::
    (nat_lit 267, { cls := Value.type "tuple", data := Data.seq #[] }) ::
    (nat_lit 269, { cls := Value.type "code", data := Data.fields #[Value.str (Str.ofString "law") 557, Value.str (Str.ofString "law") 558, Value.str (Str.ofString "/claim/cut.py") 559, Value.int 210 0, Value.int 1 0, Value.int 0 0, Value.int 0 0, Value.int 3 0, Value.ref 264, Value.bool true, Value.int 181 0, Value.ref 265, Value.none, Value.ref 266, Value.ref 267, Value.ref 268, Value.int 567 0, Value.int 210 0, Value.str (Str.ofString "/claim/cut.py") 568] }) ::
    (nat_lit 270, ⟨Value.type "function", none, .func (fnOf (Str.ofString "law") (Str.ofString "law") (parOf (top 39)) (bodyOf (top 39)) (scOf (top 39)) (Value.none) (Value.none) (Value.none) (Value.str (Str.ofString "law_pc0165_01") 484) (none) (Value.ref 269) (Value.none)), #[]⟩) :: []
def addrs : List Addr := [nat_lit 2, nat_lit 3, nat_lit 15, nat_lit 17, nat_lit 18, nat_lit 20, nat_lit 21, nat_lit 29, nat_lit 30, nat_lit 32, nat_lit 33, nat_lit 35, nat_lit 36, nat_lit 37, nat_lit 39, nat_lit 40, nat_lit 42, nat_lit 43, nat_lit 44, nat_lit 46, nat_lit 47, nat_lit 49, nat_lit 50, nat_lit 51, nat_lit 52, nat_lit 53, nat_lit 54, nat_lit 55, nat_lit 65, nat_lit 67, nat_lit 68, nat_lit 70, nat_lit 71, nat_lit 72, nat_lit 73, nat_lit 74, nat_lit 75, nat_lit 76, nat_lit 86, nat_lit 88, nat_lit 89, nat_lit 91, nat_lit 92, nat_lit 93, nat_lit 94, nat_lit 95, nat_lit 96, nat_lit 97, nat_lit 100, nat_lit 102, nat_lit 103, nat_lit 105, nat_lit 106, nat_lit 107, nat_lit 109, nat_lit 110, nat_lit 112, nat_lit 113, nat_lit 114, nat_lit 116, nat_lit 117, nat_lit 119, nat_lit 120, nat_lit 121, nat_lit 123, nat_lit 124, nat_lit 126, nat_lit 127, nat_lit 128, nat_lit 130, nat_lit 131, nat_lit 133, nat_lit 134, nat_lit 135, nat_lit 137, nat_lit 138, nat_lit 140, nat_lit 141, nat_lit 142, nat_lit 144, nat_lit 145, nat_lit 147, nat_lit 148, nat_lit 149, nat_lit 151, nat_lit 152, nat_lit 154, nat_lit 155, nat_lit 156, nat_lit 158, nat_lit 159, nat_lit 161, nat_lit 162, nat_lit 163, nat_lit 165, nat_lit 166, nat_lit 168, nat_lit 169, nat_lit 170, nat_lit 172, nat_lit 173, nat_lit 175, nat_lit 176, nat_lit 177, nat_lit 179, nat_lit 180, nat_lit 182, nat_lit 183, nat_lit 184, nat_lit 186, nat_lit 187, nat_lit 189, nat_lit 190, nat_lit 191, nat_lit 193, nat_lit 194, nat_lit 196, nat_lit 197, nat_lit 198, nat_lit 200, nat_lit 201, nat_lit 203, nat_lit 204, nat_lit 205, nat_lit 207, nat_lit 208, nat_lit 210, nat_lit 211, nat_lit 212, nat_lit 215, nat_lit 216, nat_lit 217, nat_lit 219, nat_lit 220, nat_lit 222, nat_lit 223, nat_lit 224, nat_lit 227, nat_lit 228, nat_lit 229, nat_lit 231, nat_lit 232, nat_lit 234, nat_lit 235, nat_lit 236, nat_lit 238, nat_lit 239, nat_lit 241, nat_lit 242, nat_lit 243, nat_lit 245, nat_lit 246, nat_lit 248, nat_lit 249, nat_lit 250, nat_lit 252, nat_lit 253, nat_lit 255, nat_lit 256, nat_lit 257, nat_lit 259, nat_lit 260, nat_lit 262, nat_lit 263, nat_lit 264, nat_lit 266, nat_lit 267, nat_lit 269, nat_lit 270]
def view_39 : Program := view PySem.Challenge.pw_pc0165_01 [0, 2, 3, 4, 5, 6, 7, 8, 9, 10, 11, 12, 13, 14, 15, 16, 17, 18, 19, 20, 21, 22, 23, 25, 26, 27, 28, 29, 31, 32, 33, 34, 35, 36, 37, 38, 39]
theorem addrs_eq : ∀ P, addrs = (heap_39 P).map (·.1) := fun _ => by kernel_rfl
noncomputable def full : Params → List Obj := fun P =>
    (boot_o_0 P : Obj) ::
    (boot_o_1 P : Obj) ::
    (boot_o_2 P : Obj) ::
    ({ cls := Value.type "dict", data := Data.dict #[{ hash := PyData.keyHash P (Str.ofString "__name__"), key := Value.str (Str.ofString "__name__") 165, val := Value.str (Str.ofString "law_pc0165_01") 484 }, { hash := PyData.keyHash P (Str.ofString "__doc__"), key := Value.str (Str.ofString "__doc__") 166, val := Value.none }, { hash := PyData.keyHash P (Str.ofString "__package__"), key := Value.str (Str.ofString "__package__") 167, val := Value.none }, { hash := PyData.keyHash P (Str.ofString "__loader__"), key := Value.str (Str.ofString "__loader__") 168, val := Value.builtin "__main__.__loader__#opaque" }, { hash := PyData.keyHash P (Str.ofString "__spec__"), key := Value.str (Str.ofString "__spec__") 169, val := Value.none }, { hash := PyData.keyHash P (Str.ofString "__annotations__"), key := Value.str (Str.ofString "__annotations__") 170, val := Value.ref 6 }, { hash := PyData.keyHash P (Str.ofString "__builtins__"), key := Value.str (Str.ofString "__builtins__") 171, val := Value.ref 4 }, { hash := PyData.keyHash P (Str.ofString "__file__"), key := Value.str (Str.ofString "__file__") 173, val := Value.str (Str.ofString "/claim/cut.py") 172 }, { hash := PyData.keyHash P (Str.ofString "__cached__"), key := Value.str (Str.ofString "__cached__") 174, val := Value.none }, { hash := PyData.keyHash P (Str.ofString "_wall"), key := Value.str (Str.ofString "_wall") 193, val := Value.ref 21 }, { hash := PyData.keyHash P (Str.ofString "T_NONE"), key := Value.str (Str.ofString "T_NONE") 198, val := Value.int (-1) 197 }, { hash := PyData.keyHash P (Str.ofString "T_NIL"), key := Value.str (Str.ofString "T_NIL") 200, val := Value.int 0 199 }, { hash := PyData.keyHash P (Str.ofString "T_BOOLEAN"), key := Value.str (Str.ofString "T_BOOLEAN") 202, val := Value.int 1 201 }, { hash := PyData.keyHash P (Str.ofString "T_LIGHT"), key := Value.str (Str.ofString "T_LIGHT") 204, val := Value.int 2 203 }, { hash := PyData.keyHash P (Str.ofString "T_NUMBER"), key := Value.str (Str.ofString "T_NUMBER") 206, val := Value.int 3 205 }, { hash := PyData.keyHash P (Str.ofString "T_STRING"), key := Value.str (Str.ofString "T_STRING") 208, val := Value.int 4 207 }, { hash := PyData.keyHash P (Str.ofString "BLANKS"), key := Value.str (Str.ofString "BLANKS") 210, val := Value.bytes #[32, 9, 10, 11, 12, 13] 209 }, { hash := PyData.keyHash P (Str.ofString "Limits"), key := Value.str (Str.ofString "Limits") 281, val := Value.ref 53 }, { hash := PyData.keyHash P (Str.ofString "HeapObject"), key := Value.str (Str.ofString "HeapObject") 314, val := Value.ref 74 }, { hash := PyData.keyHash P (Str.ofString "LightValue"), key := Value.str (Str.ofString "LightValue") 343, val := Value.ref 95 }, { hash := PyData.keyHash P (Str.ofString "is_number"), key := Value.str (Str.ofString "is_number") 350, val := Value.ref 106 }, { hash := PyData.keyHash P (Str.ofString "type_of"), key := Value.str (Str.ofString "type_of") 357, val := Value.ref 113 }, { hash := PyData.keyHash P (Str.ofString "raw_equal"), key := Value.str (Str.ofString "raw_equal") 366, val := Value.ref 120 }, { hash := PyData.keyHash P (Str.ofString "wrap"), key := Value.str (Str.ofString "wrap") 375, val := Value.ref 127 }, { hash := PyData.keyHash P (Str.ofString "is_blank"), key := Value.str (Str.ofString "is_blank") 382, val := Value.ref 134 }, { hash := PyData.keyHash P (Str.ofString "digit_of"), key := Value.str (Str.ofString "digit_of") 389, val := Value.ref 141 }, { hash := PyData.keyHash P (Str.ofString "read_digits"), key := Value.str (Str.ofString "read_digits") 400, val := Value.ref 148 }, { hash := PyData.keyHash P (Str.ofString "skip_blanks"), key := Value.str (Str.ofString "skip_blanks") 408, val := Value.ref 155 }, { hash := PyData.keyHash P (Str.ofString "str_to_number"), key := Value.str (Str.ofString "str_to_number") 416, val := Value.ref 162 }, { hash := PyData.keyHash P (Str.ofString "text_in_base"), key := Value.str (Str.ofString "text_in_base") 430, val := Value.ref 169 }, { hash := PyData.keyHash P (Str.ofString "to_number"), key := Value.str (Str.ofString "to_number") 438, val := Value.ref 176 }, { hash := PyData.keyHash P (Str.ofString "number_text"), key := Value.str (Str.ofString "number_text") 447, val := Value.ref 183 }, { hash := PyData.keyHash P (Str.ofString "PLAIN_BASE"), key := Value.str (Str.ofString "PLAIN_BASE") 451, val := Value.int 10 450 }, { hash := PyData.keyHash P (Str.ofString "plain_text"), key := Value.str (Str.ofString "plain_text") 458, val := Value.ref 190 }, { hash := PyData.keyHash P (Str.ofString "number_told"), key := Value.str (Str.ofString "number_told") 467, val := Value.ref 197 }, { hash := PyData.keyHash P (Str.ofString "picked_from"), key := Value.str (Str.ofString "picked_from") 475, val := Value.ref 204 }, { hash := PyData.keyHash P (Str.ofString "key_count"), key := Value.str (Str.ofString "key_count") 483, val := Value.ref 211 }, { hash := PyData.keyHash P (Str.ofString "_law_deal"), key := Value.str (Str.ofString "_law_deal") 491, val := Value.ref 216 }, { hash := PyData.keyHash P (Str.ofString "_law_take"), key := Value.str (Str.ofString "_law_take") 499, val := Value.ref 223 }, { hash := PyData.keyHash P (Str.ofString "_law_value"), key := Value.str (Str.ofString "_law_value") 505, val := Value.ref 228 }, { hash := PyData.keyHash P (Str.ofString "_law_digits"), key := Value.str (Str.ofString "_law_digits") 514, val := Value.ref 235 }, { hash := PyData.keyHash P (Str.ofString "_law_worth"), key := Value.str (Str.ofString "_law_worth") 527, val := Value.ref 242 }, { hash := PyData.keyHash P (Str.ofString "_law_shown"), key := Value.str (Str.ofString "_law_shown") 534, val := Value.ref 249 }, { hash := PyData.keyHash P (Str.ofString "_law_number_right"), key := Value.str (Str.ofString "_law_number_right") 544, val := Value.ref 256 }, { hash := PyData.keyHash P (Str.ofString "_law_rows_right"), key := Value.str (Str.ofString "_law_rows_right") 556, val := Value.ref 263 }, { hash := PyData.keyHash P (Str.ofString "law"), key := Value.str (Str.ofString "law") 569, val := Value.ref 270 }] 46 } : Obj) ::
    (boot_o_4 P : Obj) ::
    (boot_o_5 P : Obj) ::
    (boot_o_6 P : Obj) ::
    (boot_o_7 P : Obj) ::
    (boot_o_8 P : Obj) ::
    (boot_o_9 P : Obj) ::
    (boot_o_10 P : Obj) ::
    ({ cls := Value.type "tuple", data := Data.seq #[] } : Obj) ::
    ({ cls := Value.none, data := Data.fields #[Value.int 1 0, Value.int 0 0, Value.ref 20, Value.int 12 0, Value.int 0 0, Value.ref 27, Value.int 31 0, Value.int 0 0, Value.ref 63, Value.int 38 0, Value.int 0 0, Value.ref 84, Value.int 42 0, Value.int 0 0, Value.ref 105, Value.int 44 0, Value.int 0 0, Value.ref 112, Value.int 58 0, Value.int 0 0, Value.ref 119, Value.int 67 0, Value.int 0 0, Value.ref 126, Value.int 72 0, Value.int 0 0, Value.ref 133, Value.int 74 0, Value.int 0 0, Value.ref 140, Value.int 82 0, Value.int 0 0, Value.ref 147, Value.int 91 0, Value.int 0 0, Value.ref 154, Value.int 95 0, Value.int 0 0, Value.ref 161, Value.int 97 0, Value.int 0 0, Value.ref 168, Value.int 109 0, Value.int 0 0, Value.ref 175, Value.int 115 0, Value.int 0 0, Value.ref 182, Value.int 127 0, Value.int 0 0, Value.ref 189, Value.int 135 0, Value.int 0 0, Value.ref 196, Value.int 139 0, Value.int 0 0, Value.ref 203, Value.int 145 0, Value.int 0 0, Value.ref 210, Value.int 148 0, Value.int 0 0, Value.ref 215, Value.int 154 0, Value.int 0 0, Value.ref 222, Value.int 160 0, Value.int 0 0, Value.ref 227, Value.int 168 0, Value.int 0 0, Value.ref 234, Value.int 174 0, Value.int 0 0, Value.ref 241, Value.int 186 0, Value.int 0 0, Value.ref 248, Value.int 192 0, Value.int 0 0, Value.ref 255, Value.int 201 0, Value.int 0 0, Value.ref 262, Value.int 210 0, Value.int 0 0, Value.ref 269] } : Obj) ::
    ({ cls := Value.type "code", data := Data.fields #[Value.str (Str.ofString "<module>") 182, Value.str (Str.ofString "<module>") 183, Value.str (Str.ofString "/claim/cut.py") 184, Value.int 1 0, Value.int 0 0, Value.int 0 0, Value.int 0 0, Value.int 0 0, Value.ref 11, Value.bool false, Value.int 181 0, Value.ref 12, Value.none, Value.none, Value.none, Value.none, Value.int 185 0, Value.int 1 0, Value.str (Str.ofString "/claim/cut.py") 186] } : Obj) ::
    ({ cls := Value.type "frame", slots := #[some (Value.ref 13), some (Value.ref 3), some (Value.ref 3), none, some (Value.str (Str.ofString "__main__") 164), none, some (Value.ref 0)] } : Obj) ::
    ({ cls := Value.type "tuple", data := Data.seq #[] } : Obj) ::
    ({ cls := Value.none, data := Data.fields #[] } : Obj) ::
    ({ cls := Value.type "tuple", data := Data.seq #[Value.str (Str.ofString "k") 190] } : Obj) ::
    ({ cls := Value.type "tuple", data := Data.seq #[] } : Obj) ::
    (⟨Value.none, none, .func (fnRaw (Str.ofString "_wall") (Str.ofString "_wall") (top 0)), #[]⟩ : Obj) ::
    ({ cls := Value.type "code", data := Data.fields #[Value.str (Str.ofString "_wall") 187, Value.str (Str.ofString "_wall") 188, Value.str (Str.ofString "/claim/cut.py") 189, Value.int 1 0, Value.int 1 0, Value.int 0 0, Value.int 0 0, Value.int 3 0, Value.ref 15, Value.bool true, Value.int 181 0, Value.ref 16, Value.none, Value.ref 17, Value.ref 18, Value.ref 19, Value.int 191 0, Value.int 1 0, Value.str (Str.ofString "/claim/cut.py") 192] } : Obj) ::
    (⟨Value.type "function", none, .func (fnOf (Str.ofString "_wall") (Str.ofString "_wall") (parOf (top 0)) (bodyOf (top 0)) (scOf (top 0)) (Value.none) (Value.none) (Value.none) (Value.str (Str.ofString "__main__") 164) (none) (Value.ref 20) (Value.none)), #[]⟩ : Obj) ::
    ({ cls := Value.type "tuple", data := Data.seq #[] } : Obj) ::
    ({ cls := Value.type "builtin_function_or_method", data := Data.fields #[Value.builtin "type.__prepare__", Value.type "type"] } : Obj) ::
    ({ cls := Value.type "dict", data := Data.dict #[{ hash := PyData.keyHash P (Str.ofString "__module__"), key := Value.str (Str.ofString "__module__") 218, val := Value.str (Str.ofString "lua.values") 194 }, { hash := PyData.keyHash P (Str.ofString "__qualname__"), key := Value.str (Str.ofString "__qualname__") 220, val := Value.str (Str.ofString "Limits") 219 }, { hash := PyData.keyHash P (Str.ofString "__firstlineno__"), key := Value.str (Str.ofString "__firstlineno__") 222, val := Value.int 12 221 }, { hash := PyData.keyHash P (Str.ofString "__init__"), key := Value.str (Str.ofString "__init__") 249, val := Value.ref 36 }, { hash := PyData.keyHash P (Str.ofString "greatest"), key := Value.str (Str.ofString "greatest") 256, val := Value.ref 43 }, { hash := PyData.keyHash P (Str.ofString "least"), key := Value.str (Str.ofString "least") 263, val := Value.ref 50 }, { hash := PyData.keyHash P (Str.ofString "__static_attributes__"), key := Value.str (Str.ofString "__static_attributes__") 274, val := Value.ref 51 }] 7 } : Obj) ::
    ({ cls := Value.type "tuple", data := Data.seq #[] } : Obj) ::
    ({ cls := Value.none, data := Data.fields #[Value.int 14 0, Value.int 4 0, Value.ref 35, Value.int 26 0, Value.int 4 0, Value.ref 42, Value.int 29 0, Value.int 4 0, Value.ref 49] } : Obj) ::
    ({ cls := Value.type "code", data := Data.fields #[Value.str (Str.ofString "Limits") 213, Value.str (Str.ofString "Limits") 214, Value.str (Str.ofString "/claim/cut.py") 215, Value.int 12 0, Value.int 0 0, Value.int 0 0, Value.int 0 0, Value.int 0 0, Value.ref 25, Value.bool false, Value.int 181 0, Value.ref 26, Value.none, Value.none, Value.none, Value.none, Value.int 216 0, Value.int 12 0, Value.str (Str.ofString "/claim/cut.py") 217] } : Obj) ::
    ({ cls := Value.type "frame", slots := #[some (Value.ref 27), some (Value.ref 3), some (Value.ref 24), none, some (Value.str (Str.ofString "lua.values") 194), none, some (Value.ref 0)] } : Obj) ::
    ({ cls := Value.type "tuple", data := Data.seq #[Value.int 64 223, Value.int 250 224, Value.int 60 225, Value.int 200 226, Value.int 40 227, Value.int 200 228, Value.int 2000 229, Value.int 50 230, Value.int 1000000000 231, Value.int 1000000 232] } : Obj) ::
    ({ cls := Value.type "tuple", data := Data.seq #[] } : Obj) ::
    ({ cls := Value.none, data := Data.fields #[] } : Obj) ::
    ({ cls := Value.type "tuple", data := Data.seq #[Value.str (Str.ofString "self") 236, Value.str (Str.ofString "width") 237, Value.str (Str.ofString "registers") 238, Value.str (Str.ofString "upvalues") 239, Value.str (Str.ofString "local_names") 240, Value.str (Str.ofString "ccalls") 241, Value.str (Str.ofString "frames") 242, Value.str (Str.ofString "stack") 243, Value.str (Str.ofString "flush") 244, Value.str (Str.ofString "steps") 245, Value.str (Str.ofString "text") 246] } : Obj) ::
    ({ cls := Value.type "tuple", data := Data.seq #[] } : Obj) ::
    (⟨Value.none, none, .func (fnRaw (Str.ofString "__init__") (Str.ofString "Limits.__init__") (sub 9 0)), #[]⟩ : Obj) ::
    ({ cls := Value.type "code", data := Data.fields #[Value.str (Str.ofString "__init__") 233, Value.str (Str.ofString "Limits.__init__") 234, Value.str (Str.ofString "/claim/cut.py") 235, Value.int 14 0, Value.int 11 0, Value.int 0 0, Value.int 0 0, Value.int 3 0, Value.ref 30, Value.bool true, Value.int 181 0, Value.ref 31, Value.none, Value.ref 32, Value.ref 33, Value.ref 34, Value.int 247 0, Value.int 14 0, Value.str (Str.ofString "/claim/cut.py") 248] } : Obj) ::
    (⟨Value.type "function", none, .func (fnOf (Str.ofString "__init__") (Str.ofString "Limits.__init__") (parOf (sub 9 0)) (bodyOf (sub 9 0)) (scOf (sub 9 0)) (Value.ref 29) (Value.none) (Value.none) (Value.str (Str.ofString "lua.values") 194) (none) (Value.ref 35) (Value.none)), #[]⟩ : Obj) ::
    ({ cls := Value.type "tuple", data := Data.seq #[] } : Obj) ::
    ({ cls := Value.none, data := Data.fields #[] } : Obj) ::
    ({ cls := Value.type "tuple", data := Data.seq #[Value.str (Str.ofString "self") 253] } : Obj) ::
    ({ cls := Value.type "tuple", data := Data.seq #[] } : Obj) ::
    (⟨Value.none, none, .func (fnRaw (Str.ofString "greatest") (Str.ofString "Limits.greatest") (sub 9 1)), #[]⟩ : Obj) ::
    ({ cls := Value.type "code", data := Data.fields #[Value.str (Str.ofString "greatest") 250, Value.str (Str.ofString "Limits.greatest") 251, Value.str (Str.ofString "/claim/cut.py") 252, Value.int 26 0, Value.int 1 0, Value.int 0 0, Value.int 0 0, Value.int 3 0, Value.ref 37, Value.bool true, Value.int 181 0, Value.ref 38, Value.none, Value.ref 39, Value.ref 40, Value.ref 41, Value.int 254 0, Value.int 26 0, Value.str (Str.ofString "/claim/cut.py") 255] } : Obj) ::
    (⟨Value.type "function", none, .func (fnOf (Str.ofString "greatest") (Str.ofString "Limits.greatest") (parOf (sub 9 1)) (bodyOf (sub 9 1)) (scOf (sub 9 1)) (Value.none) (Value.none) (Value.none) (Value.str (Str.ofString "lua.values") 194) (none) (Value.ref 42) (Value.none)), #[]⟩ : Obj) ::
    ({ cls := Value.type "tuple", data := Data.seq #[] } : Obj) ::
    ({ cls := Value.none, data := Data.fields #[] } : Obj) ::
    ({ cls := Value.type "tuple", data := Data.seq #[Value.str (Str.ofString "self") 260] } : Obj) ::
    ({ cls := Value.type "tuple", data := Data.seq #[] } : Obj) ::
    (⟨Value.none, none, .func (fnRaw (Str.ofString "least") (Str.ofString "Limits.least") (sub 9 2)), #[]⟩ : Obj) ::
    ({ cls := Value.type "code", data := Data.fields #[Value.str (Str.ofString "least") 257, Value.str (Str.ofString "Limits.least") 258, Value.str (Str.ofString "/claim/cut.py") 259, Value.int 29 0, Value.int 1 0, Value.int 0 0, Value.int 0 0, Value.int 3 0, Value.ref 44, Value.bool true, Value.int 181 0, Value.ref 45, Value.none, Value.ref 46, Value.ref 47, Value.ref 48, Value.int 261 0, Value.int 29 0, Value.str (Str.ofString "/claim/cut.py") 262] } : Obj) ::
    (⟨Value.type "function", none, .func (fnOf (Str.ofString "least") (Str.ofString "Limits.least") (parOf (sub 9 2)) (bodyOf (sub 9 2)) (scOf (sub 9 2)) (Value.none) (Value.none) (Value.none) (Value.str (Str.ofString "lua.values") 194) (none) (Value.ref 49) (Value.none)), #[]⟩ : Obj) ::
    ({ cls := Value.type "tuple", data := Data.seq #[Value.str (Str.ofString "ccalls") 264, Value.str (Str.ofString "flush") 265, Value.str (Str.ofString "frames") 266, Value.str (Str.ofString "local_names") 267, Value.str (Str.ofString "registers") 268, Value.str (Str.ofString "stack") 269, Value.str (Str.ofString "steps") 270, Value.str (Str.ofString "text") 271, Value.str (Str.ofString "upvalues") 272, Value.str (Str.ofString "width") 273] } : Obj) ::
    ({ cls := Value.type "dict", data := Data.dict #[{ hash := PyData.keyHash P (Str.ofString "__module__"), key := Value.str (Str.ofString "__module__") 218, val := Value.str (Str.ofString "lua.values") 194 }, { hash := PyData.keyHash P (Str.ofString "__firstlineno__"), key := Value.str (Str.ofString "__firstlineno__") 222, val := Value.int 12 221 }, { hash := PyData.keyHash P (Str.ofString "__init__"), key := Value.str (Str.ofString "__init__") 249, val := Value.ref 36 }, { hash := PyData.keyHash P (Str.ofString "greatest"), key := Value.str (Str.ofString "greatest") 256, val := Value.ref 43 }, { hash := PyData.keyHash P (Str.ofString "least"), key := Value.str (Str.ofString "least") 263, val := Value.ref 50 }, { hash := PyData.keyHash P (Str.ofString "__static_attributes__"), key := Value.str (Str.ofString "__static_attributes__") 274, val := Value.ref 51 }, { hash := PyData.keyHash P (Str.ofString "__dict__"), key := Value.str (Str.ofString "__dict__") 276, val := Value.ref 54 }, { hash := PyData.keyHash P (Str.ofString "__weakref__"), key := Value.str (Str.ofString "__weakref__") 278, val := Value.ref 55 }, { hash := PyData.keyHash P (Str.ofString "__doc__"), key := Value.str (Str.ofString "__doc__") 279, val := Value.none }] 4 } : Obj) ::
    ({ cls := Value.type "type", data := Data.cls { name := Str.ofString "Limits", bases := [Value.type "object"], mro := [Value.ref 53, Value.type "object"], ns := 52, qualname := Str.ofString "Limits" }, slots := #[none, none, some (Value.str (Str.ofString "Limits") 211), some (Value.str (Str.ofString "Limits") 219), some (Value.builtin "object.__new__"), some (Value.bool true)] } : Obj) ::
    ({ cls := Value.type "getset_descriptor", data := Data.fields #[Value.str (Str.ofString "__dict__") 275, Value.ref 53, Value.builtin "function.__dict__", Value.builtin "function.__dict__#set"] } : Obj) ::
    ({ cls := Value.type "getset_descriptor", data := Data.fields #[Value.str (Str.ofString "__weakref__") 277, Value.ref 53, Value.builtin "ExceptionGroup.__weakref__", Value.none] } : Obj) ::
    ({ cls := Value.type "super", data := Data.fields #[Value.ref 53, Value.ref 53, Value.ref 53] } : Obj) ::
    ({ cls := Value.type "builtin_function_or_method", data := Data.fields #[Value.builtin "object.__init_subclass__", Value.ref 53] } : Obj) ::
    ({ cls := Value.type "tuple", data := Data.seq #[] } : Obj) ::
    ({ cls := Value.type "builtin_function_or_method", data := Data.fields #[Value.builtin "type.__prepare__", Value.type "type"] } : Obj) ::
    ({ cls := Value.type "dict", data := Data.dict #[{ hash := PyData.keyHash P (Str.ofString "__module__"), key := Value.str (Str.ofString "__module__") 289, val := Value.str (Str.ofString "lua.values") 194 }, { hash := PyData.keyHash P (Str.ofString "__qualname__"), key := Value.str (Str.ofString "__qualname__") 291, val := Value.str (Str.ofString "HeapObject") 290 }, { hash := PyData.keyHash P (Str.ofString "__firstlineno__"), key := Value.str (Str.ofString "__firstlineno__") 293, val := Value.int 31 292 }, { hash := PyData.keyHash P (Str.ofString "kind"), key := Value.str (Str.ofString "kind") 294, val := Value.int (-1) 197 }, { hash := PyData.keyHash P (Str.ofString "__init__"), key := Value.str (Str.ofString "__init__") 303, val := Value.ref 71 }, { hash := PyData.keyHash P (Str.ofString "__static_attributes__"), key := Value.str (Str.ofString "__static_attributes__") 307, val := Value.ref 72 }] 6 } : Obj) ::
    ({ cls := Value.type "tuple", data := Data.seq #[] } : Obj) ::
    ({ cls := Value.none, data := Data.fields #[Value.int 34 0, Value.int 4 0, Value.ref 70] } : Obj) ::
    ({ cls := Value.type "code", data := Data.fields #[Value.str (Str.ofString "HeapObject") 284, Value.str (Str.ofString "HeapObject") 285, Value.str (Str.ofString "/claim/cut.py") 286, Value.int 31 0, Value.int 0 0, Value.int 0 0, Value.int 0 0, Value.int 0 0, Value.ref 61, Value.bool false, Value.int 181 0, Value.ref 62, Value.none, Value.none, Value.none, Value.none, Value.int 287 0, Value.int 31 0, Value.str (Str.ofString "/claim/cut.py") 288] } : Obj) ::
    ({ cls := Value.type "frame", slots := #[some (Value.ref 63), some (Value.ref 3), some (Value.ref 60), none, some (Value.str (Str.ofString "lua.values") 194), none, some (Value.ref 0)] } : Obj) ::
    ({ cls := Value.type "tuple", data := Data.seq #[] } : Obj) ::
    ({ cls := Value.none, data := Data.fields #[] } : Obj) ::
    ({ cls := Value.type "tuple", data := Data.seq #[Value.str (Str.ofString "self") 298, Value.str (Str.ofString "number") 299, Value.str (Str.ofString "size") 300] } : Obj) ::
    ({ cls := Value.type "tuple", data := Data.seq #[] } : Obj) ::
    (⟨Value.none, none, .func (fnRaw (Str.ofString "__init__") (Str.ofString "HeapObject.__init__") (sub 10 1)), #[]⟩ : Obj) ::
    ({ cls := Value.type "code", data := Data.fields #[Value.str (Str.ofString "__init__") 295, Value.str (Str.ofString "HeapObject.__init__") 296, Value.str (Str.ofString "/claim/cut.py") 297, Value.int 34 0, Value.int 3 0, Value.int 0 0, Value.int 0 0, Value.int 3 0, Value.ref 65, Value.bool true, Value.int 181 0, Value.ref 66, Value.none, Value.ref 67, Value.ref 68, Value.ref 69, Value.int 301 0, Value.int 34 0, Value.str (Str.ofString "/claim/cut.py") 302] } : Obj) ::
    (⟨Value.type "function", none, .func (fnOf (Str.ofString "__init__") (Str.ofString "HeapObject.__init__") (parOf (sub 10 1)) (bodyOf (sub 10 1)) (scOf (sub 10 1)) (Value.none) (Value.none) (Value.none) (Value.str (Str.ofString "lua.values") 194) (none) (Value.ref 70) (Value.none)), #[]⟩ : Obj) ::
    ({ cls := Value.type "tuple", data := Data.seq #[Value.str (Str.ofString "mark") 304, Value.str (Str.ofString "number") 305, Value.str (Str.ofString "size") 306] } : Obj) ::
    ({ cls := Value.type "dict", data := Data.dict #[{ hash := PyData.keyHash P (Str.ofString "__module__"), key := Value.str (Str.ofString "__module__") 289, val := Value.str (Str.ofString "lua.values") 194 }, { hash := PyData.keyHash P (Str.ofString "__firstlineno__"), key := Value.str (Str.ofString "__firstlineno__") 293, val := Value.int 31 292 }, { hash := PyData.keyHash P (Str.ofString "kind"), key := Value.str (Str.ofString "kind") 294, val := Value.int (-1) 197 }, { hash := PyData.keyHash P (Str.ofString "__init__"), key := Value.str (Str.ofString "__init__") 303, val := Value.ref 71 }, { hash := PyData.keyHash P (Str.ofString "__static_attributes__"), key := Value.str (Str.ofString "__static_attributes__") 307, val := Value.ref 72 }, { hash := PyData.keyHash P (Str.ofString "__dict__"), key := Value.str (Str.ofString "__dict__") 309, val := Value.ref 75 }, { hash := PyData.keyHash P (Str.ofString "__weakref__"), key := Value.str (Str.ofString "__weakref__") 311, val := Value.ref 76 }, { hash := PyData.keyHash P (Str.ofString "__doc__"), key := Value.str (Str.ofString "__doc__") 312, val := Value.none }] 4 } : Obj) ::
    ({ cls := Value.type "type", data := Data.cls { name := Str.ofString "HeapObject", bases := [Value.type "object"], mro := [Value.ref 74, Value.type "object"], ns := 73, qualname := Str.ofString "HeapObject" }, slots := #[none, none, some (Value.str (Str.ofString "HeapObject") 282), some (Value.str (Str.ofString "HeapObject") 290), some (Value.builtin "object.__new__"), some (Value.bool true)] } : Obj) ::
    ({ cls := Value.type "getset_descriptor", data := Data.fields #[Value.str (Str.ofString "__dict__") 308, Value.ref 74, Value.builtin "function.__dict__", Value.builtin "function.__dict__#set"] } : Obj) ::
    ({ cls := Value.type "getset_descriptor", data := Data.fields #[Value.str (Str.ofString "__weakref__") 310, Value.ref 74, Value.builtin "ExceptionGroup.__weakref__", Value.none] } : Obj) ::
    ({ cls := Value.type "super", data := Data.fields #[Value.ref 74, Value.ref 74, Value.ref 74] } : Obj) ::
    ({ cls := Value.type "builtin_function_or_method", data := Data.fields #[Value.builtin "object.__init_subclass__", Value.ref 74] } : Obj) ::
    ({ cls := Value.type "tuple", data := Data.seq #[] } : Obj) ::
    ({ cls := Value.type "builtin_function_or_method", data := Data.fields #[Value.builtin "type.__prepare__", Value.type "type"] } : Obj) ::
    ({ cls := Value.type "dict", data := Data.dict #[{ hash := PyData.keyHash P (Str.ofString "__module__"), key := Value.str (Str.ofString "__module__") 322, val := Value.str (Str.ofString "lua.values") 194 }, { hash := PyData.keyHash P (Str.ofString "__qualname__"), key := Value.str (Str.ofString "__qualname__") 324, val := Value.str (Str.ofString "LightValue") 323 }, { hash := PyData.keyHash P (Str.ofString "__firstlineno__"), key := Value.str (Str.ofString "__firstlineno__") 326, val := Value.int 38 325 }, { hash := PyData.keyHash P (Str.ofString "__init__"), key := Value.str (Str.ofString "__init__") 334, val := Value.ref 92 }, { hash := PyData.keyHash P (Str.ofString "__static_attributes__"), key := Value.str (Str.ofString "__static_attributes__") 336, val := Value.ref 93 }] 5 } : Obj) ::
    ({ cls := Value.type "tuple", data := Data.seq #[] } : Obj) ::
    ({ cls := Value.none, data := Data.fields #[Value.int 40 0, Value.int 4 0, Value.ref 91] } : Obj) ::
    ({ cls := Value.type "code", data := Data.fields #[Value.str (Str.ofString "LightValue") 317, Value.str (Str.ofString "LightValue") 318, Value.str (Str.ofString "/claim/cut.py") 319, Value.int 38 0, Value.int 0 0, Value.int 0 0, Value.int 0 0, Value.int 0 0, Value.ref 82, Value.bool false, Value.int 181 0, Value.ref 83, Value.none, Value.none, Value.none, Value.none, Value.int 320 0, Value.int 38 0, Value.str (Str.ofString "/claim/cut.py") 321] } : Obj) ::
    ({ cls := Value.type "frame", slots := #[some (Value.ref 84), some (Value.ref 3), some (Value.ref 81), none, some (Value.str (Str.ofString "lua.values") 194), none, some (Value.ref 0)] } : Obj) ::
    ({ cls := Value.type "tuple", data := Data.seq #[] } : Obj) ::
    ({ cls := Value.none, data := Data.fields #[] } : Obj) ::
    ({ cls := Value.type "tuple", data := Data.seq #[Value.str (Str.ofString "self") 330, Value.str (Str.ofString "number") 331] } : Obj) ::
    ({ cls := Value.type "tuple", data := Data.seq #[] } : Obj) ::
    (⟨Value.none, none, .func (fnRaw (Str.ofString "__init__") (Str.ofString "LightValue.__init__") (sub 11 0)), #[]⟩ : Obj) ::
    ({ cls := Value.type "code", data := Data.fields #[Value.str (Str.ofString "__init__") 327, Value.str (Str.ofString "LightValue.__init__") 328, Value.str (Str.ofString "/claim/cut.py") 329, Value.int 40 0, Value.int 2 0, Value.int 0 0, Value.int 0 0, Value.int 3 0, Value.ref 86, Value.bool true, Value.int 181 0, Value.ref 87, Value.none, Value.ref 88, Value.ref 89, Value.ref 90, Value.int 332 0, Value.int 40 0, Value.str (Str.ofString "/claim/cut.py") 333] } : Obj) ::
    (⟨Value.type "function", none, .func (fnOf (Str.ofString "__init__") (Str.ofString "LightValue.__init__") (parOf (sub 11 0)) (bodyOf (sub 11 0)) (scOf (sub 11 0)) (Value.none) (Value.none) (Value.none) (Value.str (Str.ofString "lua.values") 194) (none) (Value.ref 91) (Value.none)), #[]⟩ : Obj) ::
    ({ cls := Value.type "tuple", data := Data.seq #[Value.str (Str.ofString "number") 335] } : Obj) ::
    ({ cls := Value.type "dict", data := Data.dict #[{ hash := PyData.keyHash P (Str.ofString "__module__"), key := Value.str (Str.ofString "__module__") 322, val := Value.str (Str.ofString "lua.values") 194 }, { hash := PyData.keyHash P (Str.ofString "__firstlineno__"), key := Value.str (Str.ofString "__firstlineno__") 326, val := Value.int 38 325 }, { hash := PyData.keyHash P (Str.ofString "__init__"), key := Value.str (Str.ofString "__init__") 334, val := Value.ref 92 }, { hash := PyData.keyHash P (Str.ofString "__static_attributes__"), key := Value.str (Str.ofString "__static_attributes__") 336, val := Value.ref 93 }, { hash := PyData.keyHash P (Str.ofString "__dict__"), key := Value.str (Str.ofString "__dict__") 338, val := Value.ref 96 }, { hash := PyData.keyHash P (Str.ofString "__weakref__"), key := Value.str (Str.ofString "__weakref__") 340, val := Value.ref 97 }, { hash := PyData.keyHash P (Str.ofString "__doc__"), key := Value.str (Str.ofString "__doc__") 341, val := Value.none }] 4 } : Obj) ::
    ({ cls := Value.type "type", data := Data.cls { name := Str.ofString "LightValue", bases := [Value.type "object"], mro := [Value.ref 95, Value.type "object"], ns := 94, qualname := Str.ofString "LightValue" }, slots := #[none, none, some (Value.str (Str.ofString "LightValue") 315), some (Value.str (Str.ofString "LightValue") 323), some (Value.builtin "object.__new__"), some (Value.bool true)] } : Obj) ::
    ({ cls := Value.type "getset_descriptor", data := Data.fields #[Value.str (Str.ofString "__dict__") 337, Value.ref 95, Value.builtin "function.__dict__", Value.builtin "function.__dict__#set"] } : Obj) ::
    ({ cls := Value.type "getset_descriptor", data := Data.fields #[Value.str (Str.ofString "__weakref__") 339, Value.ref 95, Value.builtin "ExceptionGroup.__weakref__", Value.none] } : Obj) ::
    ({ cls := Value.type "super", data := Data.fields #[Value.ref 95, Value.ref 95, Value.ref 95] } : Obj) ::
    ({ cls := Value.type "builtin_function_or_method", data := Data.fields #[Value.builtin "object.__init_subclass__", Value.ref 95] } : Obj) ::
    ({ cls := Value.type "tuple", data := Data.seq #[] } : Obj) ::
    ({ cls := Value.none, data := Data.fields #[] } : Obj) ::
    ({ cls := Value.type "tuple", data := Data.seq #[Value.str (Str.ofString "value") 347] } : Obj) ::
    ({ cls := Value.type "tuple", data := Data.seq #[] } : Obj) ::
    (⟨Value.none, none, .func (fnRaw (Str.ofString "is_number") (Str.ofString "is_number") (top 12)), #[]⟩ : Obj) ::
    ({ cls := Value.type "code", data := Data.fields #[Value.str (Str.ofString "is_number") 344, Value.str (Str.ofString "is_number") 345, Value.str (Str.ofString "/claim/cut.py") 346, Value.int 42 0, Value.int 1 0, Value.int 0 0, Value.int 0 0, Value.int 3 0, Value.ref 100, Value.bool true, Value.int 181 0, Value.ref 101, Value.none, Value.ref 102, Value.ref 103, Value.ref 104, Value.int 348 0, Value.int 42 0, Value.str (Str.ofString "/claim/cut.py") 349] } : Obj) ::
    (⟨Value.type "function", none, .func (fnOf (Str.ofString "is_number") (Str.ofString "is_number") (parOf (top 12)) (bodyOf (top 12)) (scOf (top 12)) (Value.none) (Value.none) (Value.none) (Value.str (Str.ofString "lua.values") 194) (none) (Value.ref 105) (Value.none)), #[]⟩ : Obj) ::
    ({ cls := Value.type "tuple", data := Data.seq #[] } : Obj) ::
    ({ cls := Value.none, data := Data.fields #[] } : Obj) ::
    ({ cls := Value.type "tuple", data := Data.seq #[Value.str (Str.ofString "value") 354] } : Obj) ::
    ({ cls := Value.type "tuple", data := Data.seq #[] } : Obj) ::
    (⟨Value.none, none, .func (fnRaw (Str.ofString "type_of") (Str.ofString "type_of") (top 13)), #[]⟩ : Obj) ::
    ({ cls := Value.type "code", data := Data.fields #[Value.str (Str.ofString "type_of") 351, Value.str (Str.ofString "type_of") 352, Value.str (Str.ofString "/claim/cut.py") 353, Value.int 44 0, Value.int 1 0, Value.int 0 0, Value.int 0 0, Value.int 3 0, Value.ref 107, Value.bool true, Value.int 181 0, Value.ref 108, Value.none, Value.ref 109, Value.ref 110, Value.ref 111, Value.int 355 0, Value.int 44 0, Value.str (Str.ofString "/claim/cut.py") 356] } : Obj) ::
    (⟨Value.type "function", none, .func (fnOf (Str.ofString "type_of") (Str.ofString "type_of") (parOf (top 13)) (bodyOf (top 13)) (scOf (top 13)) (Value.none) (Value.none) (Value.none) (Value.str (Str.ofString "lua.values") 194) (none) (Value.ref 112) (Value.none)), #[]⟩ : Obj) ::
    ({ cls := Value.type "tuple", data := Data.seq #[] } : Obj) ::
    ({ cls := Value.none, data := Data.fields #[] } : Obj) ::
    ({ cls := Value.type "tuple", data := Data.seq #[Value.str (Str.ofString "a") 361, Value.str (Str.ofString "b") 362, Value.str (Str.ofString "tag") 363] } : Obj) ::
    ({ cls := Value.type "tuple", data := Data.seq #[] } : Obj) ::
    (⟨Value.none, none, .func (fnRaw (Str.ofString "raw_equal") (Str.ofString "raw_equal") (top 14)), #[]⟩ : Obj) ::
    ({ cls := Value.type "code", data := Data.fields #[Value.str (Str.ofString "raw_equal") 358, Value.str (Str.ofString "raw_equal") 359, Value.str (Str.ofString "/claim/cut.py") 360, Value.int 58 0, Value.int 2 0, Value.int 0 0, Value.int 0 0, Value.int 3 0, Value.ref 114, Value.bool true, Value.int 181 0, Value.ref 115, Value.none, Value.ref 116, Value.ref 117, Value.ref 118, Value.int 364 0, Value.int 58 0, Value.str (Str.ofString "/claim/cut.py") 365] } : Obj) ::
    (⟨Value.type "function", none, .func (fnOf (Str.ofString "raw_equal") (Str.ofString "raw_equal") (parOf (top 14)) (bodyOf (top 14)) (scOf (top 14)) (Value.none) (Value.none) (Value.none) (Value.str (Str.ofString "lua.values") 194) (none) (Value.ref 119) (Value.none)), #[]⟩ : Obj) ::
    ({ cls := Value.type "tuple", data := Data.seq #[] } : Obj) ::
    ({ cls := Value.none, data := Data.fields #[] } : Obj) ::
    ({ cls := Value.type "tuple", data := Data.seq #[Value.str (Str.ofString "n") 370, Value.str (Str.ofString "width") 371, Value.str (Str.ofString "low") 372] } : Obj) ::
    ({ cls := Value.type "tuple", data := Data.seq #[] } : Obj) ::
    (⟨Value.none, none, .func (fnRaw (Str.ofString "wrap") (Str.ofString "wrap") (top 15)), #[]⟩ : Obj) ::
    ({ cls := Value.type "code", data := Data.fields #[Value.str (Str.ofString "wrap") 367, Value.str (Str.ofString "wrap") 368, Value.str (Str.ofString "/claim/cut.py") 369, Value.int 67 0, Value.int 2 0, Value.int 0 0, Value.int 0 0, Value.int 3 0, Value.ref 121, Value.bool true, Value.int 181 0, Value.ref 122, Value.none, Value.ref 123, Value.ref 124, Value.ref 125, Value.int 373 0, Value.int 67 0, Value.str (Str.ofString "/claim/cut.py") 374] } : Obj) ::
    (⟨Value.type "function", none, .func (fnOf (Str.ofString "wrap") (Str.ofString "wrap") (parOf (top 15)) (bodyOf (top 15)) (scOf (top 15)) (Value.none) (Value.none) (Value.none) (Value.str (Str.ofString "lua.values") 194) (none) (Value.ref 126) (Value.none)), #[]⟩ : Obj) ::
    ({ cls := Value.type "tuple", data := Data.seq #[] } : Obj) ::
    ({ cls := Value.none, data := Data.fields #[] } : Obj) ::
    ({ cls := Value.type "tuple", data := Data.seq #[Value.str (Str.ofString "octet") 379] } : Obj) ::
    ({ cls := Value.type "tuple", data := Data.seq #[] } : Obj) ::
    (⟨Value.none, none, .func (fnRaw (Str.ofString "is_blank") (Str.ofString "is_blank") (top 16)), #[]⟩ : Obj) ::
    ({ cls := Value.type "code", data := Data.fields #[Value.str (Str.ofString "is_blank") 376, Value.str (Str.ofString "is_blank") 377, Value.str (Str.ofString "/claim/cut.py") 378, Value.int 72 0, Value.int 1 0, Value.int 0 0, Value.int 0 0, Value.int 3 0, Value.ref 128, Value.bool true, Value.int 181 0, Value.ref 129, Value.none, Value.ref 130, Value.ref 131, Value.ref 132, Value.int 380 0, Value.int 72 0, Value.str (Str.ofString "/claim/cut.py") 381] } : Obj) ::
    (⟨Value.type "function", none, .func (fnOf (Str.ofString "is_blank") (Str.ofString "is_blank") (parOf (top 16)) (bodyOf (top 16)) (scOf (top 16)) (Value.none) (Value.none) (Value.none) (Value.str (Str.ofString "lua.values") 194) (none) (Value.ref 133) (Value.none)), #[]⟩ : Obj) ::
    ({ cls := Value.type "tuple", data := Data.seq #[] } : Obj) ::
    ({ cls := Value.none, data := Data.fields #[] } : Obj) ::
    ({ cls := Value.type "tuple", data := Data.seq #[Value.str (Str.ofString "octet") 386] } : Obj) ::
    ({ cls := Value.type "tuple", data := Data.seq #[] } : Obj) ::
    (⟨Value.none, none, .func (fnRaw (Str.ofString "digit_of") (Str.ofString "digit_of") (top 17)), #[]⟩ : Obj) ::
    ({ cls := Value.type "code", data := Data.fields #[Value.str (Str.ofString "digit_of") 383, Value.str (Str.ofString "digit_of") 384, Value.str (Str.ofString "/claim/cut.py") 385, Value.int 74 0, Value.int 1 0, Value.int 0 0, Value.int 0 0, Value.int 3 0, Value.ref 135, Value.bool true, Value.int 181 0, Value.ref 136, Value.none, Value.ref 137, Value.ref 138, Value.ref 139, Value.int 387 0, Value.int 74 0, Value.str (Str.ofString "/claim/cut.py") 388] } : Obj) ::
    (⟨Value.type "function", none, .func (fnOf (Str.ofString "digit_of") (Str.ofString "digit_of") (parOf (top 17)) (bodyOf (top 17)) (scOf (top 17)) (Value.none) (Value.none) (Value.none) (Value.str (Str.ofString "lua.values") 194) (none) (Value.ref 140) (Value.none)), #[]⟩ : Obj) ::
    ({ cls := Value.type "tuple", data := Data.seq #[] } : Obj) ::
    ({ cls := Value.none, data := Data.fields #[] } : Obj) ::
    ({ cls := Value.type "tuple", data := Data.seq #[Value.str (Str.ofString "text") 393, Value.str (Str.ofString "at") 394, Value.str (Str.ofString "base") 395, Value.str (Str.ofString "found") 396, Value.str (Str.ofString "digit") 397] } : Obj) ::
    ({ cls := Value.type "tuple", data := Data.seq #[] } : Obj) ::
    (⟨Value.none, none, .func (fnRaw (Str.ofString "read_digits") (Str.ofString "read_digits") (top 18)), #[]⟩ : Obj) ::
    ({ cls := Value.type "code", data := Data.fields #[Value.str (Str.ofString "read_digits") 390, Value.str (Str.ofString "read_digits") 391, Value.str (Str.ofString "/claim/cut.py") 392, Value.int 82 0, Value.int 3 0, Value.int 0 0, Value.int 0 0, Value.int 3 0, Value.ref 142, Value.bool true, Value.int 181 0, Value.ref 143, Value.none, Value.ref 144, Value.ref 145, Value.ref 146, Value.int 398 0, Value.int 82 0, Value.str (Str.ofString "/claim/cut.py") 399] } : Obj) ::
    (⟨Value.type "function", none, .func (fnOf (Str.ofString "read_digits") (Str.ofString "read_digits") (parOf (top 18)) (bodyOf (top 18)) (scOf (top 18)) (Value.none) (Value.none) (Value.none) (Value.str (Str.ofString "lua.values") 194) (none) (Value.ref 147) (Value.none)), #[]⟩ : Obj) ::
    ({ cls := Value.type "tuple", data := Data.seq #[] } : Obj) ::
    ({ cls := Value.none, data := Data.fields #[] } : Obj) ::
    ({ cls := Value.type "tuple", data := Data.seq #[Value.str (Str.ofString "text") 404, Value.str (Str.ofString "at") 405] } : Obj) ::
    ({ cls := Value.type "tuple", data := Data.seq #[] } : Obj) ::
    (⟨Value.none, none, .func (fnRaw (Str.ofString "skip_blanks") (Str.ofString "skip_blanks") (top 19)), #[]⟩ : Obj) ::
    ({ cls := Value.type "code", data := Data.fields #[Value.str (Str.ofString "skip_blanks") 401, Value.str (Str.ofString "skip_blanks") 402, Value.str (Str.ofString "/claim/cut.py") 403, Value.int 91 0, Value.int 2 0, Value.int 0 0, Value.int 0 0, Value.int 3 0, Value.ref 149, Value.bool true, Value.int 181 0, Value.ref 150, Value.none, Value.ref 151, Value.ref 152, Value.ref 153, Value.int 406 0, Value.int 91 0, Value.str (Str.ofString "/claim/cut.py") 407] } : Obj) ::
    (⟨Value.type "function", none, .func (fnOf (Str.ofString "skip_blanks") (Str.ofString "skip_blanks") (parOf (top 19)) (bodyOf (top 19)) (scOf (top 19)) (Value.none) (Value.none) (Value.none) (Value.str (Str.ofString "lua.values") 194) (none) (Value.ref 154) (Value.none)), #[]⟩ : Obj) ::
    ({ cls := Value.type "tuple", data := Data.seq #[] } : Obj) ::
    ({ cls := Value.none, data := Data.fields #[] } : Obj) ::
    ({ cls := Value.type "tuple", data := Data.seq #[Value.str (Str.ofString "text") 412, Value.str (Str.ofString "limits") 413] } : Obj) ::
    ({ cls := Value.type "tuple", data := Data.seq #[] } : Obj) ::
    (⟨Value.none, none, .func (fnRaw (Str.ofString "str_to_number") (Str.ofString "str_to_number") (top 20)), #[]⟩ : Obj) ::
    ({ cls := Value.type "code", data := Data.fields #[Value.str (Str.ofString "str_to_number") 409, Value.str (Str.ofString "str_to_number") 410, Value.str (Str.ofString "/claim/cut.py") 411, Value.int 95 0, Value.int 2 0, Value.int 0 0, Value.int 0 0, Value.int 3 0, Value.ref 156, Value.bool true, Value.int 181 0, Value.ref 157, Value.none, Value.ref 158, Value.ref 159, Value.ref 160, Value.int 414 0, Value.int 95 0, Value.str (Str.ofString "/claim/cut.py") 415] } : Obj) ::
    (⟨Value.type "function", none, .func (fnOf (Str.ofString "str_to_number") (Str.ofString "str_to_number") (parOf (top 20)) (bodyOf (top 20)) (scOf (top 20)) (Value.none) (Value.none) (Value.none) (Value.str (Str.ofString "lua.values") 194) (none) (Value.ref 161) (Value.none)), #[]⟩ : Obj) ::
    ({ cls := Value.type "tuple", data := Data.seq #[] } : Obj) ::
    ({ cls := Value.none, data := Data.fields #[] } : Obj) ::
    ({ cls := Value.type "tuple", data := Data.seq #[Value.str (Str.ofString "text") 420, Value.str (Str.ofString "base") 421, Value.str (Str.ofString "limits") 422, Value.str (Str.ofString "at") 423, Value.str (Str.ofString "is_below") 424, Value.str (Str.ofString "is_marked") 425, Value.str (Str.ofString "found") 426, Value.str (Str.ofString "end") 427] } : Obj) ::
    ({ cls := Value.type "tuple", data := Data.seq #[] } : Obj) ::
    (⟨Value.none, none, .func (fnRaw (Str.ofString "text_in_base") (Str.ofString "text_in_base") (top 21)), #[]⟩ : Obj) ::
    ({ cls := Value.type "code", data := Data.fields #[Value.str (Str.ofString "text_in_base") 417, Value.str (Str.ofString "text_in_base") 418, Value.str (Str.ofString "/claim/cut.py") 419, Value.int 97 0, Value.int 3 0, Value.int 0 0, Value.int 0 0, Value.int 3 0, Value.ref 163, Value.bool true, Value.int 181 0, Value.ref 164, Value.none, Value.ref 165, Value.ref 166, Value.ref 167, Value.int 428 0, Value.int 97 0, Value.str (Str.ofString "/claim/cut.py") 429] } : Obj) ::
    (⟨Value.type "function", none, .func (fnOf (Str.ofString "text_in_base") (Str.ofString "text_in_base") (parOf (top 21)) (bodyOf (top 21)) (scOf (top 21)) (Value.none) (Value.none) (Value.none) (Value.str (Str.ofString "lua.values") 194) (none) (Value.ref 168) (Value.none)), #[]⟩ : Obj) ::
    ({ cls := Value.type "tuple", data := Data.seq #[] } : Obj) ::
    ({ cls := Value.none, data := Data.fields #[] } : Obj) ::
    ({ cls := Value.type "tuple", data := Data.seq #[Value.str (Str.ofString "value") 434, Value.str (Str.ofString "limits") 435] } : Obj) ::
    ({ cls := Value.type "tuple", data := Data.seq #[] } : Obj) ::
    (⟨Value.none, none, .func (fnRaw (Str.ofString "to_number") (Str.ofString "to_number") (top 22)), #[]⟩ : Obj) ::
    ({ cls := Value.type "code", data := Data.fields #[Value.str (Str.ofString "to_number") 431, Value.str (Str.ofString "to_number") 432, Value.str (Str.ofString "/claim/cut.py") 433, Value.int 109 0, Value.int 2 0, Value.int 0 0, Value.int 0 0, Value.int 3 0, Value.ref 170, Value.bool true, Value.int 181 0, Value.ref 171, Value.none, Value.ref 172, Value.ref 173, Value.ref 174, Value.int 436 0, Value.int 109 0, Value.str (Str.ofString "/claim/cut.py") 437] } : Obj) ::
    (⟨Value.type "function", none, .func (fnOf (Str.ofString "to_number") (Str.ofString "to_number") (parOf (top 22)) (bodyOf (top 22)) (scOf (top 22)) (Value.none) (Value.none) (Value.none) (Value.str (Str.ofString "lua.values") 194) (none) (Value.ref 175) (Value.none)), #[]⟩ : Obj) ::
    ({ cls := Value.type "tuple", data := Data.seq #[] } : Obj) ::
    ({ cls := Value.none, data := Data.fields #[] } : Obj) ::
    ({ cls := Value.type "tuple", data := Data.seq #[Value.str (Str.ofString "n") 442, Value.str (Str.ofString "left") 443, Value.str (Str.ofString "found") 444] } : Obj) ::
    ({ cls := Value.type "tuple", data := Data.seq #[] } : Obj) ::
    (⟨Value.none, none, .func (fnRaw (Str.ofString "number_text") (Str.ofString "number_text") (top 23)), #[]⟩ : Obj) ::
    ({ cls := Value.type "code", data := Data.fields #[Value.str (Str.ofString "number_text") 439, Value.str (Str.ofString "number_text") 440, Value.str (Str.ofString "/claim/cut.py") 441, Value.int 115 0, Value.int 1 0, Value.int 0 0, Value.int 0 0, Value.int 3 0, Value.ref 177, Value.bool true, Value.int 181 0, Value.ref 178, Value.none, Value.ref 179, Value.ref 180, Value.ref 181, Value.int 445 0, Value.int 115 0, Value.str (Str.ofString "/claim/cut.py") 446] } : Obj) ::
    (⟨Value.type "function", none, .func (fnOf (Str.ofString "number_text") (Str.ofString "number_text") (parOf (top 23)) (bodyOf (top 23)) (scOf (top 23)) (Value.none) (Value.none) (Value.none) (Value.str (Str.ofString "lua.values") 194) (none) (Value.ref 182) (Value.none)), #[]⟩ : Obj) ::
    ({ cls := Value.type "tuple", data := Data.seq #[] } : Obj) ::
    ({ cls := Value.none, data := Data.fields #[] } : Obj) ::
    ({ cls := Value.type "tuple", data := Data.seq #[Value.str (Str.ofString "value") 455] } : Obj) ::
    ({ cls := Value.type "tuple", data := Data.seq #[] } : Obj) ::
    (⟨Value.none, none, .func (fnRaw (Str.ofString "plain_text") (Str.ofString "plain_text") (top 26)), #[]⟩ : Obj) ::
    ({ cls := Value.type "code", data := Data.fields #[Value.str (Str.ofString "plain_text") 452, Value.str (Str.ofString "plain_text") 453, Value.str (Str.ofString "/claim/cut.py") 454, Value.int 127 0, Value.int 1 0, Value.int 0 0, Value.int 0 0, Value.int 3 0, Value.ref 184, Value.bool true, Value.int 181 0, Value.ref 185, Value.none, Value.ref 186, Value.ref 187, Value.ref 188, Value.int 456 0, Value.int 127 0, Value.str (Str.ofString "/claim/cut.py") 457] } : Obj) ::
    (⟨Value.type "function", none, .func (fnOf (Str.ofString "plain_text") (Str.ofString "plain_text") (parOf (top 26)) (bodyOf (top 26)) (scOf (top 26)) (Value.none) (Value.none) (Value.none) (Value.str (Str.ofString "lua.basevalues") 448) (none) (Value.ref 189) (Value.none)), #[]⟩ : Obj) ::
    ({ cls := Value.type "tuple", data := Data.seq #[] } : Obj) ::
    ({ cls := Value.none, data := Data.fields #[] } : Obj) ::
    ({ cls := Value.type "tuple", data := Data.seq #[Value.str (Str.ofString "value") 462, Value.str (Str.ofString "base") 463, Value.str (Str.ofString "limits") 464] } : Obj) ::
    ({ cls := Value.type "tuple", data := Data.seq #[] } : Obj) ::
    (⟨Value.none, none, .func (fnRaw (Str.ofString "number_told") (Str.ofString "number_told") (top 27)), #[]⟩ : Obj) ::
    ({ cls := Value.type "code", data := Data.fields #[Value.str (Str.ofString "number_told") 459, Value.str (Str.ofString "number_told") 460, Value.str (Str.ofString "/claim/cut.py") 461, Value.int 135 0, Value.int 3 0, Value.int 0 0, Value.int 0 0, Value.int 3 0, Value.ref 191, Value.bool true, Value.int 181 0, Value.ref 192, Value.none, Value.ref 193, Value.ref 194, Value.ref 195, Value.int 465 0, Value.int 135 0, Value.str (Str.ofString "/claim/cut.py") 466] } : Obj) ::
    (⟨Value.type "function", none, .func (fnOf (Str.ofString "number_told") (Str.ofString "number_told") (parOf (top 27)) (bodyOf (top 27)) (scOf (top 27)) (Value.none) (Value.none) (Value.none) (Value.str (Str.ofString "lua.basevalues") 448) (none) (Value.ref 196) (Value.none)), #[]⟩ : Obj) ::
    ({ cls := Value.type "tuple", data := Data.seq #[] } : Obj) ::
    ({ cls := Value.none, data := Data.fields #[] } : Obj) ::
    ({ cls := Value.type "tuple", data := Data.seq #[Value.str (Str.ofString "place") 471, Value.str (Str.ofString "count") 472] } : Obj) ::
    ({ cls := Value.type "tuple", data := Data.seq #[] } : Obj) ::
    (⟨Value.none, none, .func (fnRaw (Str.ofString "picked_from") (Str.ofString "picked_from") (top 28)), #[]⟩ : Obj) ::
    ({ cls := Value.type "code", data := Data.fields #[Value.str (Str.ofString "picked_from") 468, Value.str (Str.ofString "picked_from") 469, Value.str (Str.ofString "/claim/cut.py") 470, Value.int 139 0, Value.int 2 0, Value.int 0 0, Value.int 0 0, Value.int 3 0, Value.ref 198, Value.bool true, Value.int 181 0, Value.ref 199, Value.none, Value.ref 200, Value.ref 201, Value.ref 202, Value.int 473 0, Value.int 139 0, Value.str (Str.ofString "/claim/cut.py") 474] } : Obj) ::
    (⟨Value.type "function", none, .func (fnOf (Str.ofString "picked_from") (Str.ofString "picked_from") (parOf (top 28)) (bodyOf (top 28)) (scOf (top 28)) (Value.none) (Value.none) (Value.none) (Value.str (Str.ofString "lua.basevalues") 448) (none) (Value.ref 203) (Value.none)), #[]⟩ : Obj) ::
    ({ cls := Value.type "tuple", data := Data.seq #[] } : Obj) ::
    ({ cls := Value.none, data := Data.fields #[] } : Obj) ::
    ({ cls := Value.type "tuple", data := Data.seq #[Value.str (Str.ofString "first") 479, Value.str (Str.ofString "last") 480] } : Obj) ::
    ({ cls := Value.type "tuple", data := Data.seq #[] } : Obj) ::
    (⟨Value.none, none, .func (fnRaw (Str.ofString "key_count") (Str.ofString "key_count") (top 29)), #[]⟩ : Obj) ::
    ({ cls := Value.type "code", data := Data.fields #[Value.str (Str.ofString "key_count") 476, Value.str (Str.ofString "key_count") 477, Value.str (Str.ofString "/claim/cut.py") 478, Value.int 145 0, Value.int 2 0, Value.int 0 0, Value.int 0 0, Value.int 3 0, Value.ref 205, Value.bool true, Value.int 181 0, Value.ref 206, Value.none, Value.ref 207, Value.ref 208, Value.ref 209, Value.int 481 0, Value.int 145 0, Value.str (Str.ofString "/claim/cut.py") 482] } : Obj) ::
    (⟨Value.type "function", none, .func (fnOf (Str.ofString "key_count") (Str.ofString "key_count") (parOf (top 29)) (bodyOf (top 29)) (scOf (top 29)) (Value.none) (Value.none) (Value.none) (Value.str (Str.ofString "lua.basevalues") 448) (none) (Value.ref 210) (Value.none)), #[]⟩ : Obj) ::
    ({ cls := Value.type "tuple", data := Data.seq #[] } : Obj) ::
    ({ cls := Value.none, data := Data.fields #[] } : Obj) ::
    (⟨Value.none, none, .func (fnRaw (Str.ofString "_law_deal") (Str.ofString "_law_deal") (top 31)), #[]⟩ : Obj) ::
    ({ cls := Value.type "code", data := Data.fields #[Value.str (Str.ofString "_law_deal") 486, Value.str (Str.ofString "_law_deal") 487, Value.str (Str.ofString "/claim/cut.py") 488, Value.int 148 0, Value.int 1 0, Value.int 0 0, Value.int 0 0, Value.int 3 0, Value.ref 212, Value.bool true, Value.int 181 0, Value.ref 213, Value.none, Value.none, Value.none, Value.ref 214, Value.int 489 0, Value.int 148 0, Value.str (Str.ofString "/claim/cut.py") 490] } : Obj) ::
    (⟨Value.type "function", none, .func (fnOf (Str.ofString "_law_deal") (Str.ofString "_law_deal") (parOf (top 31)) (bodyOf (top 31)) (scOf (top 31)) (Value.none) (Value.none) (Value.none) (Value.str (Str.ofString "law_pc0165_01") 484) (none) (Value.ref 215) (Value.none)), #[]⟩ : Obj) ::
    ({ cls := Value.type "tuple", data := Data.seq #[] } : Obj) ::
    ({ cls := Value.none, data := Data.fields #[] } : Obj) ::
    ({ cls := Value.type "tuple", data := Data.seq #[Value.str (Str.ofString "deal") 495, Value.str (Str.ofString "many") 496] } : Obj) ::
    ({ cls := Value.type "tuple", data := Data.seq #[] } : Obj) ::
    (⟨Value.none, none, .func (fnRaw (Str.ofString "_law_take") (Str.ofString "_law_take") (top 32)), #[]⟩ : Obj) ::
    ({ cls := Value.type "code", data := Data.fields #[Value.str (Str.ofString "_law_take") 492, Value.str (Str.ofString "_law_take") 493, Value.str (Str.ofString "/claim/cut.py") 494, Value.int 154 0, Value.int 2 0, Value.int 0 0, Value.int 0 0, Value.int 3 0, Value.ref 217, Value.bool true, Value.int 181 0, Value.ref 218, Value.none, Value.ref 219, Value.ref 220, Value.ref 221, Value.int 497 0, Value.int 154 0, Value.str (Str.ofString "/claim/cut.py") 498] } : Obj) ::
    (⟨Value.type "function", none, .func (fnOf (Str.ofString "_law_take") (Str.ofString "_law_take") (parOf (top 32)) (bodyOf (top 32)) (scOf (top 32)) (Value.none) (Value.none) (Value.none) (Value.str (Str.ofString "law_pc0165_01") 484) (none) (Value.ref 222) (Value.none)), #[]⟩ : Obj) ::
    ({ cls := Value.type "tuple", data := Data.seq #[] } : Obj) ::
    ({ cls := Value.none, data := Data.fields #[] } : Obj) ::
    (⟨Value.none, none, .func (fnRaw (Str.ofString "_law_value") (Str.ofString "_law_value") (top 33)), #[]⟩ : Obj) ::
    ({ cls := Value.type "code", data := Data.fields #[Value.str (Str.ofString "_law_value") 500, Value.str (Str.ofString "_law_value") 501, Value.str (Str.ofString "/claim/cut.py") 502, Value.int 160 0, Value.int 1 0, Value.int 0 0, Value.int 0 0, Value.int 3 0, Value.ref 224, Value.bool true, Value.int 181 0, Value.ref 225, Value.none, Value.none, Value.none, Value.ref 226, Value.int 503 0, Value.int 160 0, Value.str (Str.ofString "/claim/cut.py") 504] } : Obj) ::
    (⟨Value.type "function", none, .func (fnOf (Str.ofString "_law_value") (Str.ofString "_law_value") (parOf (top 33)) (bodyOf (top 33)) (scOf (top 33)) (Value.none) (Value.none) (Value.none) (Value.str (Str.ofString "law_pc0165_01") 484) (none) (Value.ref 227) (Value.none)), #[]⟩ : Obj) ::
    ({ cls := Value.type "tuple", data := Data.seq #[] } : Obj) ::
    ({ cls := Value.none, data := Data.fields #[] } : Obj) ::
    ({ cls := Value.type "tuple", data := Data.seq #[Value.str (Str.ofString "number") 509, Value.str (Str.ofString "base") 510, Value.str (Str.ofString "found") 511] } : Obj) ::
    ({ cls := Value.type "tuple", data := Data.seq #[] } : Obj) ::
    (⟨Value.none, none, .func (fnRaw (Str.ofString "_law_digits") (Str.ofString "_law_digits") (top 34)), #[]⟩ : Obj) ::
    ({ cls := Value.type "code", data := Data.fields #[Value.str (Str.ofString "_law_digits") 506, Value.str (Str.ofString "_law_digits") 507, Value.str (Str.ofString "/claim/cut.py") 508, Value.int 168 0, Value.int 2 0, Value.int 0 0, Value.int 0 0, Value.int 3 0, Value.ref 229, Value.bool true, Value.int 181 0, Value.ref 230, Value.none, Value.ref 231, Value.ref 232, Value.ref 233, Value.int 512 0, Value.int 168 0, Value.str (Str.ofString "/claim/cut.py") 513] } : Obj) ::
    (⟨Value.type "function", none, .func (fnOf (Str.ofString "_law_digits") (Str.ofString "_law_digits") (parOf (top 34)) (bodyOf (top 34)) (scOf (top 34)) (Value.none) (Value.none) (Value.none) (Value.str (Str.ofString "law_pc0165_01") 484) (none) (Value.ref 234) (Value.none)), #[]⟩ : Obj) ::
    ({ cls := Value.type "tuple", data := Data.seq #[] } : Obj) ::
    ({ cls := Value.none, data := Data.fields #[] } : Obj) ::
    ({ cls := Value.type "tuple", data := Data.seq #[Value.str (Str.ofString "text") 518, Value.str (Str.ofString "base") 519, Value.str (Str.ofString "word") 520, Value.str (Str.ofString "is_below") 521, Value.str (Str.ofString "found") 522, Value.str (Str.ofString "sign") 523, Value.str (Str.ofString "digit") 524] } : Obj) ::
    ({ cls := Value.type "tuple", data := Data.seq #[] } : Obj) ::
    (⟨Value.none, none, .func (fnRaw (Str.ofString "_law_worth") (Str.ofString "_law_worth") (top 35)), #[]⟩ : Obj) ::
    ({ cls := Value.type "code", data := Data.fields #[Value.str (Str.ofString "_law_worth") 515, Value.str (Str.ofString "_law_worth") 516, Value.str (Str.ofString "/claim/cut.py") 517, Value.int 174 0, Value.int 2 0, Value.int 0 0, Value.int 0 0, Value.int 3 0, Value.ref 236, Value.bool true, Value.int 181 0, Value.ref 237, Value.none, Value.ref 238, Value.ref 239, Value.ref 240, Value.int 525 0, Value.int 174 0, Value.str (Str.ofString "/claim/cut.py") 526] } : Obj) ::
    (⟨Value.type "function", none, .func (fnOf (Str.ofString "_law_worth") (Str.ofString "_law_worth") (parOf (top 35)) (bodyOf (top 35)) (scOf (top 35)) (Value.none) (Value.none) (Value.none) (Value.str (Str.ofString "law_pc0165_01") 484) (none) (Value.ref 241) (Value.none)), #[]⟩ : Obj) ::
    ({ cls := Value.type "tuple", data := Data.seq #[] } : Obj) ::
    ({ cls := Value.none, data := Data.fields #[] } : Obj) ::
    ({ cls := Value.type "tuple", data := Data.seq #[Value.str (Str.ofString "value") 531] } : Obj) ::
    ({ cls := Value.type "tuple", data := Data.seq #[] } : Obj) ::
    (⟨Value.none, none, .func (fnRaw (Str.ofString "_law_shown") (Str.ofString "_law_shown") (top 36)), #[]⟩ : Obj) ::
    ({ cls := Value.type "code", data := Data.fields #[Value.str (Str.ofString "_law_shown") 528, Value.str (Str.ofString "_law_shown") 529, Value.str (Str.ofString "/claim/cut.py") 530, Value.int 186 0, Value.int 1 0, Value.int 0 0, Value.int 0 0, Value.int 3 0, Value.ref 243, Value.bool true, Value.int 181 0, Value.ref 244, Value.none, Value.ref 245, Value.ref 246, Value.ref 247, Value.int 532 0, Value.int 186 0, Value.str (Str.ofString "/claim/cut.py") 533] } : Obj) ::
    (⟨Value.type "function", none, .func (fnOf (Str.ofString "_law_shown") (Str.ofString "_law_shown") (parOf (top 36)) (bodyOf (top 36)) (scOf (top 36)) (Value.none) (Value.none) (Value.none) (Value.str (Str.ofString "law_pc0165_01") 484) (none) (Value.ref 248) (Value.none)), #[]⟩ : Obj) ::
    ({ cls := Value.type "tuple", data := Data.seq #[] } : Obj) ::
    ({ cls := Value.none, data := Data.fields #[] } : Obj) ::
    ({ cls := Value.type "tuple", data := Data.seq #[Value.str (Str.ofString "value") 538, Value.str (Str.ofString "base") 539, Value.str (Str.ofString "limits") 540, Value.str (Str.ofString "figures") 541] } : Obj) ::
    ({ cls := Value.type "tuple", data := Data.seq #[] } : Obj) ::
    (⟨Value.none, none, .func (fnRaw (Str.ofString "_law_number_right") (Str.ofString "_law_number_right") (top 37)), #[]⟩ : Obj) ::
    ({ cls := Value.type "code", data := Data.fields #[Value.str (Str.ofString "_law_number_right") 535, Value.str (Str.ofString "_law_number_right") 536, Value.str (Str.ofString "/claim/cut.py") 537, Value.int 192 0, Value.int 3 0, Value.int 0 0, Value.int 0 0, Value.int 3 0, Value.ref 250, Value.bool true, Value.int 181 0, Value.ref 251, Value.none, Value.ref 252, Value.ref 253, Value.ref 254, Value.int 542 0, Value.int 192 0, Value.str (Str.ofString "/claim/cut.py") 543] } : Obj) ::
    (⟨Value.type "function", none, .func (fnOf (Str.ofString "_law_number_right") (Str.ofString "_law_number_right") (parOf (top 37)) (bodyOf (top 37)) (scOf (top 37)) (Value.none) (Value.none) (Value.none) (Value.str (Str.ofString "law_pc0165_01") 484) (none) (Value.ref 255) (Value.none)), #[]⟩ : Obj) ::
    ({ cls := Value.type "tuple", data := Data.seq #[] } : Obj) ::
    ({ cls := Value.none, data := Data.fields #[] } : Obj) ::
    ({ cls := Value.type "tuple", data := Data.seq #[Value.str (Str.ofString "deal") 548, Value.str (Str.ofString "row") 549, Value.str (Str.ofString "place") 550, Value.str (Str.ofString "due") 551, Value.str (Str.ofString "first") 552, Value.str (Str.ofString "last") 553] } : Obj) ::
    ({ cls := Value.type "tuple", data := Data.seq #[] } : Obj) ::
    (⟨Value.none, none, .func (fnRaw (Str.ofString "_law_rows_right") (Str.ofString "_law_rows_right") (top 38)), #[]⟩ : Obj) ::
    ({ cls := Value.type "code", data := Data.fields #[Value.str (Str.ofString "_law_rows_right") 545, Value.str (Str.ofString "_law_rows_right") 546, Value.str (Str.ofString "/claim/cut.py") 547, Value.int 201 0, Value.int 1 0, Value.int 0 0, Value.int 0 0, Value.int 3 0, Value.ref 257, Value.bool true, Value.int 181 0, Value.ref 258, Value.none, Value.ref 259, Value.ref 260, Value.ref 261, Value.int 554 0, Value.int 201 0, Value.str (Str.ofString "/claim/cut.py") 555] } : Obj) ::
    (⟨Value.type "function", none, .func (fnOf (Str.ofString "_law_rows_right") (Str.ofString "_law_rows_right") (parOf (top 38)) (bodyOf (top 38)) (scOf (top 38)) (Value.none) (Value.none) (Value.none) (Value.str (Str.ofString "law_pc0165_01") 484) (none) (Value.ref 262) (Value.none)), #[]⟩ : Obj) ::
    ({ cls := Value.type "tuple", data := Data.seq #[] } : Obj) ::
    ({ cls := Value.none, data := Data.fields #[] } : Obj) ::
    ({ cls := Value.type "tuple", data := Data.seq #[Value.str (Str.ofString "script") 560, Value.str (Str.ofString "deal") 561, Value.str (Str.ofString "limits") 562, Value.str (Str.ofString "one") 563, Value.str (Str.ofString "other") 564, Value.str (Str.ofString "base") 565, Value.str (Str.ofString "value") 566] } : Obj) ::
    ({ cls := Value.type "tuple", data := Data.seq #[] } : Obj) ::
    (⟨Value.none, none, .func (fnRaw (Str.ofString "law") (Str.ofString "law") (top 39)), #[]⟩ : Obj) ::
    ({ cls := Value.type "code", data := Data.fields #[Value.str (Str.ofString "law") 557, Value.str (Str.ofString "law") 558, Value.str (Str.ofString "/claim/cut.py") 559, Value.int 210 0, Value.int 1 0, Value.int 0 0, Value.int 0 0, Value.int 3 0, Value.ref 264, Value.bool true, Value.int 181 0, Value.ref 265, Value.none, Value.ref 266, Value.ref 267, Value.ref 268, Value.int 567 0, Value.int 210 0, Value.str (Str.ofString "/claim/cut.py") 568] } : Obj) ::
    (⟨Value.type "function", none, .func (fnOf (Str.ofString "law") (Str.ofString "law") (parOf (top 39)) (bodyOf (top 39)) (scOf (top 39)) (Value.none) (Value.none) (Value.none) (Value.str (Str.ofString "law_pc0165_01") 484) (none) (Value.ref 269) (Value.none)), #[]⟩ : Obj) :: []
noncomputable def hAt (P : Params) (n : Nat) (d3 d12 : Obj) : Heap := ⟨⟨(((full P).take n).set 3 d3).set 12 d12⟩, {}⟩
noncomputable def hA : Params → Heap := fun P => hAt P 15 ({ cls := Value.type "dict", data := Data.dict #[{ hash := PyData.keyHash P (Str.ofString "__name__"), key := Value.str (Str.ofString "__name__") 165, val := Value.str (Str.ofString "__main__") 164 }, { hash := PyData.keyHash P (Str.ofString "__doc__"), key := Value.str (Str.ofString "__doc__") 166, val := Value.none }, { hash := PyData.keyHash P (Str.ofString "__package__"), key := Value.str (Str.ofString "__package__") 167, val := Value.none }, { hash := PyData.keyHash P (Str.ofString "__loader__"), key := Value.str (Str.ofString "__loader__") 168, val := Value.builtin "__main__.__loader__#opaque" }, { hash := PyData.keyHash P (Str.ofString "__spec__"), key := Value.str (Str.ofString "__spec__") 169, val := Value.none }, { hash := PyData.keyHash P (Str.ofString "__annotations__"), key := Value.str (Str.ofString "__annotations__") 170, val := Value.ref 6 }, { hash := PyData.keyHash P (Str.ofString "__builtins__"), key := Value.str (Str.ofString "__builtins__") 171, val := Value.ref 4 }, { hash := PyData.keyHash P (Str.ofString "__file__"), key := Value.str (Str.ofString "__file__") 173, val := Value.str (Str.ofString "/claim/cut.py") 172 }, { hash := PyData.keyHash P (Str.ofString "__cached__"), key := Value.str (Str.ofString "__cached__") 174, val := Value.none }] 9 }) ({ cls := Value.none, data := Data.fields #[] })
noncomputable def hB : Params → Heap := fun P => hAt P 58 ({ cls := Value.type "dict", data := Data.dict #[{ hash := PyData.keyHash P (Str.ofString "__name__"), key := Value.str (Str.ofString "__name__") 165, val := Value.str (Str.ofString "lua.values") 194 }, { hash := PyData.keyHash P (Str.ofString "__doc__"), key := Value.str (Str.ofString "__doc__") 166, val := Value.none }, { hash := PyData.keyHash P (Str.ofString "__package__"), key := Value.str (Str.ofString "__package__") 167, val := Value.none }, { hash := PyData.keyHash P (Str.ofString "__loader__"), key := Value.str (Str.ofString "__loader__") 168, val := Value.builtin "__main__.__loader__#opaque" }, { hash := PyData.keyHash P (Str.ofString "__spec__"), key := Value.str (Str.ofString "__spec__") 169, val := Value.none }, { hash := PyData.keyHash P (Str.ofString "__annotations__"), key := Value.str (Str.ofString "__annotations__") 170, val := Value.ref 6 }, { hash := PyData.keyHash P (Str.ofString "__builtins__"), key := Value.str (Str.ofString "__builtins__") 171, val := Value.ref 4 }, { hash := PyData.keyHash P (Str.ofString "__file__"), key := Value.str (Str.ofString "__file__") 173, val := Value.str (Str.ofString "/claim/cut.py") 172 }, { hash := PyData.keyHash P (Str.ofString "__cached__"), key := Value.str (Str.ofString "__cached__") 174, val := Value.none }, { hash := PyData.keyHash P (Str.ofString "_wall"), key := Value.str (Str.ofString "_wall") 193, val := Value.ref 21 }, { hash := PyData.keyHash P (Str.ofString "T_NONE"), key := Value.str (Str.ofString "T_NONE") 198, val := Value.int (-1) 197 }, { hash := PyData.keyHash P (Str.ofString "T_NIL"), key := Value.str (Str.ofString "T_NIL") 200, val := Value.int 0 199 }, { hash := PyData.keyHash P (Str.ofString "T_BOOLEAN"), key := Value.str (Str.ofString "T_BOOLEAN") 202, val := Value.int 1 201 }, { hash := PyData.keyHash P (Str.ofString "T_LIGHT"), key := Value.str (Str.ofString "T_LIGHT") 204, val := Value.int 2 203 }, { hash := PyData.keyHash P (Str.ofString "T_NUMBER"), key := Value.str (Str.ofString "T_NUMBER") 206, val := Value.int 3 205 }, { hash := PyData.keyHash P (Str.ofString "T_STRING"), key := Value.str (Str.ofString "T_STRING") 208, val := Value.int 4 207 }, { hash := PyData.keyHash P (Str.ofString "BLANKS"), key := Value.str (Str.ofString "BLANKS") 210, val := Value.bytes #[32, 9, 10, 11, 12, 13] 209 }, { hash := PyData.keyHash P (Str.ofString "Limits"), key := Value.str (Str.ofString "Limits") 281, val := Value.ref 53 }] 18 }) ({ cls := Value.none, data := Data.fields #[Value.int 1 0, Value.int 0 0, Value.ref 20, Value.int 12 0, Value.int 0 0, Value.ref 27] })
noncomputable def hC : Params → Heap := fun P => hAt P 100 ({ cls := Value.type "dict", data := Data.dict #[{ hash := PyData.keyHash P (Str.ofString "__name__"), key := Value.str (Str.ofString "__name__") 165, val := Value.str (Str.ofString "lua.values") 194 }, { hash := PyData.keyHash P (Str.ofString "__doc__"), key := Value.str (Str.ofString "__doc__") 166, val := Value.none }, { hash := PyData.keyHash P (Str.ofString "__package__"), key := Value.str (Str.ofString "__package__") 167, val := Value.none }, { hash := PyData.keyHash P (Str.ofString "__loader__"), key := Value.str (Str.ofString "__loader__") 168, val := Value.builtin "__main__.__loader__#opaque" }, { hash := PyData.keyHash P (Str.ofString "__spec__"), key := Value.str (Str.ofString "__spec__") 169, val := Value.none }, { hash := PyData.keyHash P (Str.ofString "__annotations__"), key := Value.str (Str.ofString "__annotations__") 170, val := Value.ref 6 }, { hash := PyData.keyHash P (Str.ofString "__builtins__"), key := Value.str (Str.ofString "__builtins__") 171, val := Value.ref 4 }, { hash := PyData.keyHash P (Str.ofString "__file__"), key := Value.str (Str.ofString "__file__") 173, val := Value.str (Str.ofString "/claim/cut.py") 172 }, { hash := PyData.keyHash P (Str.ofString "__cached__"), key := Value.str (Str.ofString "__cached__") 174, val := Value.none }, { hash := PyData.keyHash P (Str.ofString "_wall"), key := Value.str (Str.ofString "_wall") 193, val := Value.ref 21 }, { hash := PyData.keyHash P (Str.ofString "T_NONE"), key := Value.str (Str.ofString "T_NONE") 198, val := Value.int (-1) 197 }, { hash := PyData.keyHash P (Str.ofString "T_NIL"), key := Value.str (Str.ofString "T_NIL") 200, val := Value.int 0 199 }, { hash := PyData.keyHash P (Str.ofString "T_BOOLEAN"), key := Value.str (Str.ofString "T_BOOLEAN") 202, val := Value.int 1 201 }, { hash := PyData.keyHash P (Str.ofString "T_LIGHT"), key := Value.str (Str.ofString "T_LIGHT") 204, val := Value.int 2 203 }, { hash := PyData.keyHash P (Str.ofString "T_NUMBER"), key := Value.str (Str.ofString "T_NUMBER") 206, val := Value.int 3 205 }, { hash := PyData.keyHash P (Str.ofString "T_STRING"), key := Value.str (Str.ofString "T_STRING") 208, val := Value.int 4 207 }, { hash := PyData.keyHash P (Str.ofString "BLANKS"), key := Value.str (Str.ofString "BLANKS") 210, val := Value.bytes #[32, 9, 10, 11, 12, 13] 209 }, { hash := PyData.keyHash P (Str.ofString "Limits"), key := Value.str (Str.ofString "Limits") 281, val := Value.ref 53 }, { hash := PyData.keyHash P (Str.ofString "HeapObject"), key := Value.str (Str.ofString "HeapObject") 314, val := Value.ref 74 }, { hash := PyData.keyHash P (Str.ofString "LightValue"), key := Value.str (Str.ofString "LightValue") 343, val := Value.ref 95 }] 20 }) ({ cls := Value.none, data := Data.fields #[Value.int 1 0, Value.int 0 0, Value.ref 20, Value.int 12 0, Value.int 0 0, Value.ref 27, Value.int 31 0, Value.int 0 0, Value.ref 63, Value.int 38 0, Value.int 0 0, Value.ref 84] })
noncomputable def hD : Params → Heap := fun P => ⟨⟨full P⟩, {}⟩
def prg : Program := PySem.Challenge.rw_pc0165_01.row.prog
def bE : List Stmt := behindTheImports prg
def envE : Env := { scope := prg.main.scope, locals := mainNs, globals := mainNs, cells := [], code := Value.ref 13, frame := some 14 }
def cE : Code := Code.body bE envE
def s1 : List Stmt := bE.take 10
def s2 : List Stmt := (bE.drop 10).take 2
def s3 : List Stmt := (bE.drop 10).drop 2
theorem parts : bE = s1 ++ (s2 ++ (s3 ++ [])) := by
  unfold s1 s2 s3
  rw [List.append_nil, List.take_append_drop, List.take_append_drop]
def p0 : Pos := ⟨0, 0, 0, 0⟩
def p1 : Pos := ⟨12, 0, 30, 16⟩
def p2 : Pos := ⟨38, 0, 41, 28⟩
def p3 : Pos := ⟨210, 0, 220, 129⟩
theorem pre : ∀ (w : World) (os : OsState), topGo treeTable prg w 11 (some (.ref 6)) 12 ⟨boot_heap w.params, #[], boot_drawn, boot_toks, os⟩ (topStub prg) = some (⟨hA w.params, #[], {}, 187, os⟩, ⟨denote treeTable cE, cE, p0, [topFrame p0]⟩) := fun w os => by kernel_rfl
theorem block : ∀ (w : World) (os : OsState), segRun treeTable prg w 11 (some (.ref 6)) 1 1 ⟨hA w.params, #[], {}, 187, os⟩ (blockOf bE envE cE p0 [topFrame p0]) = some (.next, ⟨hA w.params, #[], {}, 187, os⟩, cE, p0) := fun w os => by kernel_rfl
theorem go1 : ∀ (w : World) (os : OsState), segRun treeTable prg w 11 (some (.ref 6)) 1 420 ⟨hA w.params, #[], {}, 187, os⟩ (piecesOf s1 envE cE p0 [topFrame p0]) = some (.next, ⟨hB w.params, #[], {}, 282, os⟩, cE, p1) := fun w os => by kernel_rfl
theorem go2 : ∀ (w : World) (os : OsState), segRun treeTable prg w 11 (some (.ref 6)) 1 461 ⟨hB w.params, #[], {}, 282, os⟩ (piecesOf s2 envE cE p1 [topFrame p0]) = some (.next, ⟨hC w.params, #[], {}, 344, os⟩, cE, p2) := fun w os => by kernel_rfl
theorem go3 : ∀ (w : World) (os : OsState), segRun treeTable prg w 11 (some (.ref 6)) 1 794 ⟨hC w.params, #[], {}, 344, os⟩ (piecesOf s3 envE cE p2 [topFrame p0]) = some (.next, ⟨hD w.params, #[], {}, 570, os⟩, cE, p3) := fun w os => by kernel_rfl
theorem fin : ∀ (w : World) (os : OsState), topRun treeTable prg w 11 (some (.ref 6)) 2 ⟨hD w.params, #[], {}, 570, os⟩ ⟨doneF .next, cE, p3, [topFrame p0]⟩ = some ⟨hD w.params, #[], {}, 570, os⟩ := fun w os => by kernel_rfl
theorem run : ∀ (w : World) (os : OsState), topRun treeTable prg w 11 (some (.ref 6)) (12 + (1 + (420 + (461 + (794 + 2))))) ⟨boot_heap w.params, #[], boot_drawn, boot_toks, os⟩ (topStub prg) = some ⟨hD w.params, #[], {}, 570, os⟩ := fun w os => by
  refine go_top (pre w os) (piece_block (env := envE) (block w os) ?_)
  rw [parts]
  exact piece_app (go1 w os) (piece_app (go2 w os) (piece_app (go3 w os) (piece_nil (fin w os))))
theorem size : ∀ w : World, ((boot_heap w.params).isNs mainGlobals && (#[] : Array GenState).size == 0, (boot_heap w.params).objs.size, (boot_heap w.params).nsMap mainGlobals "__annotations__") = (true, 11, some (.ref 6)) := fun w => by kernel_rfl
theorem opens : ∀ w : World, (fencedOpening treeTable prg w 3470).map (fun s => (s.heap, s.gens, s.drawn, s.toks)) = some (boot_heap w.params, Array.mk [], boot_drawn, boot_toks) := boot_open rfl (by decide) fun _ => rfl
theorem looks : ∀ w : World, (fun os => ((staticsOk (importedModules prg.main.body) (boot_heap w.params) (hD w.params) && namesBound prg (hD w.params) && gensDone ⟨hD w.params, #[], {}, 570, os⟩ && laidKept (boot_heap w.params) (hD w.params)),
        openSeen view_39 [Str.ofString "HeapObject"] (importedModules prg.main.body) (fun s => xlAt view_39 [] s && recOk (RowW.records PySem.Challenge.rw_pc0165_01.row.toRowW) s) true ⟨hD w.params, #[], {}, 570, os⟩, (kHook heap_39 addrs addrs_eq).obs ⟨hD w.params, #[], {}, 570, os⟩)) = fun _ => (true, openGood view_39 [Str.ofString "HeapObject"], (kHook heap_39 addrs addrs_eq).val w) := fun w => by kernel_rfl
theorem left : LeftO PySem.Challenge.rw_pc0165_01.row.prog view_39 [Str.ofString "HeapObject"] (fun s => xlAt view_39 [] s && recOk (RowW.records PySem.Challenge.rw_pc0165_01.row.toRowW) s) (kHook heap_39 addrs addrs_eq).obs (kHook heap_39 addrs addrs_eq).val 3470 :=
  LeftO.of_pieces (p := prg) opens size run (by decide) looks
end Mine.hd
end
section
open PySem PySem.Spec PySem.Calls PySem.W PyProof.Rows
namespace Mine
abbrev Led := List (Addr × Obj)
/-- the contract of a def at address f: called with args over the ledger news, it comes back with val x over the ledger led x, for some x with P x -/
noncomputable def Ct {ι : Type} (w : World) (p : Program) (loose : List Str) (mean : ExcName → Option Value) (mg mb : Str → Option Value) (f : Addr) (args : List Value) (news : Led) (need : Nat) (val : ι → Value) (led : ι → Led) (P : ι → Prop) : Prop :=
  ∀ (dp un : Nat) (gd : Option (List Code)) (cn : Str) (cs : Scope) (a : Addr) (ccd : Value) (cl : List (Str × Addr)) (outer : List Env) (A₀ : Around) (base h₀ : Heap) (L : Addr) (m : Str → Option Value) (s : Shared) (Q E : Value → Shared → Prop),
    Below A₀ base outer h₀ → Fr h₀ L s.heap m → (hd.heap_39 w.params).In h₀ → News h₀ L s.heap news → Top p loose mean mg mb h₀ → cs.kind = .function → dp + need < recursionLimit → un + 8 * need < cLine →
    (∀ x h' tk', P x → Fr h₀ L h' m → News h₀ L h' (led x) → Q (val x) { s with heap := h', toks := tk' }) →
    wpAny (model PySem.Challenge.rw_pc0165_01.row.prog w) (ktrTop dp un gd cn cs L a ccd cl outer) (call (.ref f) args) Q E s
theorem Ct.use {ι : Type} {w : World} {p : Program} {loose : List Str} {mean : ExcName → Option Value} {mg mb : Str → Option Value} {f : Addr} {args : List Value} {news : Led} {need : Nat} {val : ι → Value} {led : ι → Led} {P : ι → Prop}
    {dp un : Nat} {gd : Option (List Code)} {cn : Str} {cs : Scope} {a : Addr} {ccd : Value} {cl : List (Str × Addr)} {outer : List Env} {A₀ : Around} {base h₀ : Heap} {L : Addr} {m : Str → Option Value} {s : Shared} {Q E : Value → Shared → Prop}
    (C : Ct w p loose mean mg mb f args news need val led P)
    (B : Below A₀ base outer h₀) (F : Fr h₀ L s.heap m) (X : (hd.heap_39 w.params).In h₀) (N : News h₀ L s.heap news) (T : Top p loose mean mg mb h₀) (hk : cs.kind = .function) (hd : dp + need < recursionLimit) (hu : un + 8 * need < cLine)
    (ret : ∀ x h' tk', P x → Fr h₀ L h' m → News h₀ L h' (led x) → Q (val x) { s with heap := h', toks := tk' }) :
    wpAny (model PySem.Challenge.rw_pc0165_01.row.prog w) (ktrTop dp un gd cn cs L a ccd cl outer) (call (.ref f) args) Q E s :=
  C _ _ _ _ _ _ _ _ _ _ _ _ _ _ _ _ _ B F X N T hk hd hu ret
theorem Ct.fin {ι : Type} {val : ι → Value} {led : ι → Led} {P : ι → Prop} {h₀ h' : Heap} {L : Addr} {m : Str → Option Value} {s : Shared} {Q : Value → Shared → Prop} {r : Value} {l : Led} {tk' : Nat}
    (ret : ∀ x h' tk', P x → Fr h₀ L h' m → News h₀ L h' (led x) → Q (val x) { s with heap := h', toks := tk' })
    (F : Fr h₀ L h' m) (N : News h₀ L h' l) (hx : ∃ x, r = val x ∧ (∀ q ∈ led x, q ∈ l) ∧ P x) : Q r { s with heap := h', toks := tk' } := by
  obtain ⟨x, rfl, hl, hP⟩ := hx
  exact ret x h' tk' hP F fun q hq => N q (hl q hq)
noncomputable def optV : Option Int → Tok → Value
  | none, _ => .none
  | some i, t => .int i t
theorem ex_optN {o : Option Int} {led l : Led} (h : o = none) (hl : ∀ q ∈ led, q ∈ l) : ∃ x, Value.none = (fun (t : Tok) => optV o t) x ∧ (∀ q ∈ (fun (_ : Tok) => led) x, q ∈ l) ∧ (fun (_ : Tok) => True) x := ⟨0, by rw [h]; rfl, hl, trivial⟩
theorem ex_optS {o : Option Int} {i : Int} {t : Tok} {led l : Led} (h : o = some i) (hl : ∀ q ∈ led, q ∈ l) : ∃ x, Value.int i t = (fun (t : Tok) => optV o t) x ∧ (∀ q ∈ (fun (_ : Tok) => led) x, q ∈ l) ∧ (fun (_ : Tok) => True) x := ⟨t, by rw [h]; rfl, hl, trivial⟩
theorem ex_opt {o : Option Int} {t : Tok} {l : Led} : ∃ x, optV o t = (fun (t : Tok) => optV o t) x ∧ (∀ q ∈ (fun (_ : Tok) => l) x, q ∈ l) ∧ (fun (_ : Tok) => True) x := ⟨t, rfl, fun _ h => h, trivial⟩
theorem ex_none {l : Led} : ∃ x, Value.none = (fun (_ : Unit) => Value.none) x ∧ (∀ q ∈ (fun (_ : Unit) => l) x, q ∈ l) ∧ (fun (_ : Unit) => True) x := ⟨(), rfl, fun _ h => h, trivial⟩
theorem Ct.mono {ι : Type} {w : World} {p : Program} {loose : List Str} {mean : ExcName → Option Value} {mg mb : Str → Option Value} {f : Addr} {args : List Value} {news : Led} {need : Nat} {val : ι → Value} {led : ι → Led} {P P' : ι → Prop}
    (C : Ct w p loose mean mg mb f args news need val led P) (h : ∀ x, P x → P' x) : Ct w p loose mean mg mb f args news need val led P' := by
  intro dp un gd cn cs a ccd cl outer A₀ base h₀ L m s Q E B F X N T hk hd hu ret
  exact C _ _ _ _ _ _ _ _ _ _ _ _ _ _ _ _ _ B F X N T hk hd hu fun x h' tk' hp => ret x h' tk' (h x hp)
theorem ex_int {a b : Int} {t : Tok} {l : Led} (h : a = b) : ∃ x, Value.int a t = (fun (t : Tok) => Value.int b t) x ∧ (∀ q ∈ (fun (_ : Tok) => l) x, q ∈ l) ∧ (fun (_ : Tok) => True) x := ⟨t, by rw [h], fun _ h => h, trivial⟩
theorem ex_bool {a b : Bool} {l : Led} (h : a = b) : ∃ x, Value.bool a = (fun (_ : Unit) => Value.bool b) x ∧ (∀ q ∈ (fun (_ : Unit) => l) x, q ∈ l) ∧ (fun (_ : Unit) => True) x := ⟨(), by rw [h], fun _ h => h, trivial⟩
noncomputable def CutPost (g : Heap) (L : Addr) (m : Str → Option Value) (news : Led) (s : Shared) (J : (Str → Option Value) → (Str → Option Value) → Prop) (f : Flow) (s' : Shared) : Prop :=
  ∃ m' h tk, f = .next ∧ s' = { s with heap := h, toks := tk } ∧ J m m' ∧ Fr g L h m' ∧ News g L h news
theorem cut {prog : Program} {w : World} {A : Around} {env : Env} {s1 : Stmt} {rest : List Stmt} {g : Heap} {L : Addr} {m : Str → Option Value} {news : Led} {s : Shared} {Q : Flow → Shared → Prop} {E : Value → Shared → Prop}
    (J : (Str → Option Value) → (Str → Option Value) → Prop) (_F : Fr g L s.heap m) (_N : News g L s.heap news)
    (h1 : wpAny (model prog w) A (exec s1 env) (CutPost g L m news s J) E s)
    (h2 : ∀ m' h tk, J m m' → Fr g L h m' → News g L h news → wpAny (model prog w) A (execs rest env) Q E { s with heap := h, toks := tk }) :
    wpAny (model prog w) A (execs (s1 :: rest) env) Q E s := by
  show wpAny _ _ (do match ← exec s1 env with | .next => execs rest env | f => pure f) Q E s
  refine wpAny_bind (wpAny_mono h1 (fun f s' h => ?_) fun _ _ x => x)
  obtain ⟨m', h', tk, rfl, rfl, hJ, F', N'⟩ := h
  exact h2 m' h' tk hJ F' N'
theorem cut_end {g : Heap} {L : Addr} {m m' : Str → Option Value} {news l : Led} {s : Shared} {h' : Heap} {tk' : Nat} {J : (Str → Option Value) → (Str → Option Value) → Prop} (F : Fr g L h' m') (N : News g L h' l) (hl : ∀ q ∈ news, q ∈ l) (hJ : J m m') :
    CutPost g L m news s J .next { s with heap := h', toks := tk' } :=
  ⟨m', h', tk', rfl, rfl, hJ, F, fun q hq => N q (hl q hq)⟩
noncomputable def CutPost2 (g : Heap) (L : Addr) (s : Shared) (J : (Str → Option Value) → Led → Prop) (f : Flow) (s' : Shared) : Prop :=
  ∃ m' l' h tk, f = .next ∧ s' = { s with heap := h, toks := tk } ∧ J m' l' ∧ Fr g L h m' ∧ News g L h l'
theorem cut2 {prog : Program} {w : World} {A : Around} {env : Env} {s1 : Stmt} {rest : List Stmt} {g : Heap} {L : Addr} {m : Str → Option Value} {news : Led} {s : Shared} {Q : Flow → Shared → Prop} {E : Value → Shared → Prop}
    (J : (Str → Option Value) → (Str → Option Value) → Led → Prop) (_F : Fr g L s.heap m) (_N : News g L s.heap news)
    (h1 : wpAny (model prog w) A (exec s1 env) (CutPost2 g L s (J m)) E s)
    (h2 : ∀ m' l' h tk, J m m' l' → Fr g L h m' → News g L h l' → wpAny (model prog w) A (execs rest env) Q E { s with heap := h, toks := tk }) :
    wpAny (model prog w) A (execs (s1 :: rest) env) Q E s := by
  show wpAny _ _ (do match ← exec s1 env with | .next => execs rest env | f => pure f) Q E s
  refine wpAny_bind (wpAny_mono h1 (fun f s' h => ?_) fun _ _ x => x)
  obtain ⟨m', l', h', tk, rfl, rfl, hJ, F', N'⟩ := h
  exact h2 m' l' h' tk hJ F' N'
theorem cut2_end {g : Heap} {L : Addr} {m' : Str → Option Value} {l : Led} {s : Shared} {h' : Heap} {tk' : Nat} {J : (Str → Option Value) → Led → Prop} (F : Fr g L h' m') (N : News g L h' l) (l' : Led) (hl : ∀ q ∈ l', q ∈ l) (hJ : J m' l') :
    CutPost2 g L s J .next { s with heap := h', toks := tk' } :=
  ⟨m', l', h', tk', rfl, rfl, hJ, F, fun q hq => N q (hl q hq)⟩
noncomputable def LoopDone (g : Heap) (L : Addr) (s : Shared) (D : (Str → Option Value) → Led → Prop) (s' : Shared) : Prop :=
  ∃ m' l' h tk, s' = { s with heap := h, toks := tk } ∧ D m' l' ∧ Fr g L h m' ∧ News g L h l'
noncomputable def TurnPost (g : Heap) (L : Addr) (s : Shared) (I : (Str → Option Value) → Led → Nat → Prop) (D : (Str → Option Value) → Led → Prop) (n : Nat) (f : Flow) (s' : Shared) : Prop :=
  match f with
  | .next | .cont => ∃ m' l' h tk n', s' = { s with heap := h, toks := tk } ∧ n' < n ∧ I m' l' n' ∧ Fr g L h m' ∧ News g L h l'
  | .brk => LoopDone g L s D s'
  | .ret _ => False
theorem turn_end {g : Heap} {L : Addr} {s : Shared} {I : (Str → Option Value) → Led → Nat → Prop} {D : (Str → Option Value) → Led → Prop} {n : Nat} {m' : Str → Option Value} {l : Led} {h' : Heap} {tk' : Nat} (F : Fr g L h' m') (N : News g L h' l) (l' : Led) (hl : ∀ q ∈ l', q ∈ l) (n' : Nat) (hn : n' < n) (hI : I m' l' n') :
    TurnPost g L s I D n .next { s with heap := h', toks := tk' } := ⟨m', l', h', tk', n', rfl, hn, hI, F, fun q hq => N q (hl q hq)⟩
theorem turn_brk {g : Heap} {L : Addr} {s : Shared} {I : (Str → Option Value) → Led → Nat → Prop} {D : (Str → Option Value) → Led → Prop} {n : Nat} {m' : Str → Option Value} {l : Led} {h' : Heap} {tk' : Nat} (F : Fr g L h' m') (N : News g L h' l) (l' : Led) (hl : ∀ q ∈ l', q ∈ l) (hD : D m' l') :
    TurnPost g L s I D n .brk { s with heap := h', toks := tk' } := ⟨m', l', h', tk', rfl, hD, F, fun q hq => N q (hl q hq)⟩
theorem done_end {g : Heap} {L : Addr} {s : Shared} {D : (Str → Option Value) → Led → Prop} {m' : Str → Option Value} {l : Led} {h' : Heap} {tk' : Nat} (F : Fr g L h' m') (N : News g L h' l) (l' : Led) (hl : ∀ q ∈ l', q ∈ l) (hD : D m' l') :
    LoopDone g L s D { s with heap := h', toks := tk' } := ⟨m', l', h', tk', rfl, hD, F, fun q hq => N q (hl q hq)⟩
theorem loopW {prog : Program} {w : World} {A : Around} {env : Env} {test : Expr} {body rest : List Stmt} {pos : Pos} {g : Heap} {L : Addr} {m : Str → Option Value} {l : Led} {s : Shared} {Q : Flow → Shared → Prop} {E : Value → Shared → Prop} {n₀ : Nat}
    (I : (Str → Option Value) → (Str → Option Value) → Led → Nat → Prop) (D : (Str → Option Value) → (Str → Option Value) → Led → Prop) (F : Fr g L s.heap m) (N : News g L s.heap l) (h0 : I m m l n₀)
    (turn : ∀ n m₁ l₁ h₁ tk₁, I m m₁ l₁ n → Fr g L h₁ m₁ → News g L h₁ l₁ → wpAny (model prog w) A (isTrue test env (eval test env)) (fun b s₂ => if b = true then wpAny (model prog w) A (execs body env) (TurnPost g L s (I m) (D m) n) E s₂ else LoopDone g L s (D m) s₂) E { s with heap := h₁, toks := tk₁ })
    (h2 : ∀ m' l' h tk, D m m' l' → Fr g L h m' → News g L h l' → wpAny (model prog w) A (execs rest env) Q E { s with heap := h, toks := tk })
    (hE : PassesOwn (model prog w) A env E := by passes_own) :
    wpAny (model prog w) A (execs (.While test body [] pos :: rest) env) Q E s := by
  refine cut2 D F N ?_ (fun m' l' h tk hD F' N' => h2 m' l' h tk hD F' N')
  refine While_inv2 (fun n m' l => I m m' l n) F N h0 ?_ hE
  intro n m₁ l₁ h₁ tk₁ F₁ N₁ hI
  refine wpAny_mono (turn n m₁ l₁ h₁ tk₁ hI F₁ N₁) (fun b s₂ hb => ?_) fun _ _ x => x
  cases b with
  | false =>
    simp only [Bool.false_eq_true, if_false] at hb ⊢
    obtain ⟨m', l', h, tk, rfl, hD, F', N'⟩ := hb
    exact ⟨m', l', h, tk, rfl, rfl, hD, F', N'⟩
  | true =>
    simp only [if_true] at hb ⊢
    refine wpAny_mono hb (fun f s₃ hf => ?_) fun _ _ x => x
    cases f with
    | next => obtain ⟨m', l', h, tk, n', rfl, hn, hI', F', N'⟩ := hf; exact ⟨h, tk, m', l', n', rfl, F', N', hn, hI'⟩
    | cont => obtain ⟨m', l', h, tk, n', rfl, hn, hI', F', N'⟩ := hf; exact ⟨h, tk, m', l', n', rfl, F', N', hn, hI'⟩
    | brk => obtain ⟨m', l', h, tk, rfl, hD, F', N'⟩ := hf; exact ⟨m', l', h, tk, rfl, rfl, hD, F', N'⟩
    | ret v => exact hf.elim
theorem at_int {o : Option Value} {X Y : Int} {t : Tok} (h : o = some (.int X t)) (e : X = Y) : ∃ t, o = some (.int Y t) := ⟨t, by rw [h, e]⟩
theorem at_bool {o : Option Value} {X Y : Bool} (h : o = some (.bool X)) (e : X = Y) : o = some (.bool Y) := by rw [h, e]
theorem norm1 {m m' : Str → Option Value} {a : Str} {v : Value} (h1 : m' a = some v) (h : ∀ y, y ≠ a → m' y = m y) : m' = fun y => if y = a then some v else m y := by
  funext y
  by_cases ha : y = a
  · rw [if_pos ha, ha, h1]
  · rw [if_neg ha, h y ha]
theorem norm2 {m m' : Str → Option Value} {a b : Str} {v u : Value} (h1 : m' a = some v) (h2 : m' b = some u) (h : ∀ y, y ≠ a → y ≠ b → m' y = m y) : m' = fun y => if y = a then some v else if y = b then some u else m y := by
  funext y
  by_cases ha : y = a
  · rw [if_pos ha, ha, h1]
  · rw [if_neg ha]
    by_cases hb : y = b
    · rw [if_pos hb, hb, h2]
    · rw [if_neg hb, h y ha hb]
theorem ite_T {P Q : Prop} {d : Decidable True} (h : P) : @ite Prop True d P Q := by rw [if_pos trivial]; exact h
theorem ite_F {P Q : Prop} {d : Decidable False} (h : Q) : @ite Prop False d P Q := by rw [if_neg not_false]; exact h
theorem code_defP {prog : Program} {w : World} {A A₀ : Around} {s : Shared} {K : Frag} {L : Addr} {h₀ base : Heap} {m mg mb : Str → Option Value} {news : List (Addr × Obj)} {p : Program} {loose : List Str} {mean : ExcName → Option Value} {env : Env} {outer : List Env} {R : Result → Shared → Prop} {name qual : Str} {params params' : Arguments} {body body' : List Stmt} {scope scope' : Scope} {dV kV doc pm cdv ct oc : Value} {an od : Option Addr} {osl : Array (Option Value)} {f : Addr} {args : Args} {binds : List (Str × Value)}
    (B : Below A₀ base outer h₀) (F : Fr h₀ L s.heap m) (X₀ : K.In h₀) (N : News h₀ L s.heap news) (T : Top p loose mean mg mb h₀) (hA : A.frames = some (env :: outer)) (hf : env.frame = some L) (hke : env.scope.kind = .function)
    (ho : K.lookup f = some ⟨oc, od, .func (fnOf name qual params body scope dV kV doc pm an cdv ct), osl⟩) (e1 : params = params') (e2 : body = body') (e3 : scope = scope') (hcd : codeIn K cdv qual = true) (hroom : A.depth < recursionLimit)
    (hbind : BindsTo s (fnOf name qual params' body' scope' dV kV doc pm an cdv ct) args binds) (hloc : ∀ y ∈ binds, scope'.names.lookup y.1 = some .local)
    (h : ∀ g L' h₁, Fr h₀ L g m → Fr g L' h₁ (fun y => binds.reverse.lookup y) → News g L' h₁ news → Below A base (env :: outer) g → K.In g → Top p loose mean mg mb g →
      wpAny (model prog w) (A.deeper (envOf qual scope' L' f cdv)) (execs body' (envOf qual scope' L' f cdv))
        (fun fl s' => LeaveK h₀ L m g R (match fl with | .ret v => v | _ => .none) s')
        (fun e s' => wpAny (model prog w) (A.deeper (envOf qual scope' L' f cdv)) (leaving (envOf qual scope' L' f cdv) e) (fun _ s'' => R (.error e) s'') (fun e' s'' => R (.error e') s'') s')
        { s with heap := h₁, toks := s.toks + binds.length })
    (hco : scope'.isCoroutine = false) (hgen : scope'.isGenerator = false) (hk : scope'.kind = .function)
    (hcell : ∀ x ∈ scope'.names, x.2 ≠ .cell) : codeAny (model prog w) A (.call (.ref f) args) R s := by
  subst e1 e2 e3
  exact code_def B F X₀ N T hA hf hke ho hcd hroom hbind hloc h hco hgen hk hcell
theorem code_defCP {prog : Program} {w : World} {A A₀ : Around} {s : Shared} {K : Frag} {L : Addr} {h₀ base : Heap} {m mg mb : Str → Option Value} {news : List (Addr × Obj)} {p : Program} {loose : List Str} {mean : ExcName → Option Value} {env : Env} {outer : List Env} {R : Result → Shared → Prop} {name qual : Str} {params params' : Arguments} {body body' : List Stmt} {scope scope' : Scope} {dV kV doc pm cdv ct oc : Value} {an od : Option Addr} {osl : Array (Option Value)} {f : Addr} {args : Args} {binds : List (Str × Value)}
    (B : Below A₀ base outer h₀) (F : Fr h₀ L s.heap m) (X₀ : K.In h₀) (N : News h₀ L s.heap news) (T : Top p loose mean mg mb h₀) (hA : A.frames = some (env :: outer)) (hf : env.frame = some L) (hke : env.scope.kind = .function)
    (ho : K.lookup f = some ⟨oc, od, .func (fnOf name qual params body scope dV kV doc pm an cdv ct), osl⟩) (e1 : params = params') (e2 : body = body') (e3 : scope = scope') (hcd : codeIn K cdv qual = true) (hroom : A.depth < recursionLimit)
    (hbind : BindsTo s (fnOf name qual params' body' scope' dV kV doc pm an cdv ct) args binds) (hkind : (binds.all fun y => scope'.names.lookup y.1 == some .local || scope'.names.lookup y.1 == some .cell) = true)
    (hnd : ((cellsFrom 0 scope'.names []).map (·.1)).Nodup)
    (h : ∀ g L' h₁ tk cells, Fr h₀ L g m → Fr g L' h₁ (bindL (envOfC qual scope' L' f cdv).kindOf binds fun _ => none) → News g L' h₁ (cells ++ news) →
      CellsAre (bindC (envOfC qual scope' L' f cdv).kindOf binds fun _ => none) (cellsFrom (L' + 1) scope'.names []) cells → Below A base (env :: outer) g → K.In g → Top p loose mean mg mb g → (∀ p ∈ news, p.1 < L') →
      wpAny (model prog w) (A.deeper (envOfC qual scope' L' f cdv)) (execs body' (envOfC qual scope' L' f cdv))
        (fun fl s' => LeaveK h₀ L m g R (match fl with | .ret v => v | _ => .none) s')
        (fun e s' => wpAny (model prog w) (A.deeper (envOfC qual scope' L' f cdv)) (leaving (envOfC qual scope' L' f cdv) e) (fun _ s'' => R (.error e) s'') (fun e' s'' => R (.error e') s'') s')
        { s with heap := h₁, toks := tk })
    (hco : scope'.isCoroutine = false) (hgen : scope'.isGenerator = false) (hk : scope'.kind = .function) : codeAny (model prog w) A (.call (.ref f) args) R s := by
  subst e1 e2 e3
  exact code_defC B F X₀ N T hA hf hke ho hcd hroom hbind hkind hnd h hco hgen hk
end Mine
end
section
open PySem PySem.Spec PySem.Calls PySem.W PyProof.Rows
namespace Mine
set_option maxRecDepth 100000
theorem in_bytes_gives (b : Array UInt8) (i : Int) (t u : Tok) (h : 0 ≤ i ∧ i < 256) : Gives (Builtin.«bytes.__contains__» ⟨[.bytes b t, .int i u], []⟩) (.val (.bool (b.contains i.toNat.toUInt8))) := by
  refine .of_wp fun M A E s Q hq => ?_
  show wpAny M A (Builtin.Bytes.containsIn "bytes.__contains__" (.bytes b t) (.int i u) >>= fun r => ret (.bool r)) _ E s
  refine wpAny_bind ?_
  unfold Builtin.Bytes.containsIn
  refine wpAny_bind (wpAny_attempt ?_)
  refine wpAny_pure ?_
  dsimp only
  refine wpAny_bind (wpAny_of_eq KBy.buffer_eq ?_)
  dsimp only
  have h2 : (i < 0 || i ≥ 256) = false := by simp; omega
  rw [h2]
  exact wpAny_pure (wpAny_pure ⟨_, rfl, hq⟩)
theorem in_bytes {prog : Program} {w : World} {A : Around} {E : Value → Shared → Prop} {s : Shared} {b : Array UInt8} {i : Int} {t u : Tok} {Q : Value → Shared → Prop} (h : 0 ≤ i ∧ i < 256) (hq : Q (.bool (b.contains i.toNat.toUInt8)) s) :
    wpAny (model prog w) A (compareOp .In (.int i u) (.bytes b t)) Q E s :=
  in_gives (typeIs_bytes s b t) FB.slot_bytes_contains FB.entry_bytes_contains (FB.args_bytes_contains_2 _ _) (in_bytes_gives b i t u h) hq
theorem u8_back (b : UInt8) : (b.toNat : Int).toNat.toUInt8 = b := by
  rw [Int.toNat_natCast]; exact UInt8.ofNat_toNat
theorem in_bytes_u8 {prog : Program} {w : World} {A : Around} {E : Value → Shared → Prop} {s : Shared} {b : Array UInt8} {c : UInt8} {t u : Tok} {Q : Value → Shared → Prop} (hq : Q (.bool (b.contains c)) s) :
    wpAny (model prog w) A (compareOp .In (.int (c.toNat : Int) u) (.bytes b t)) Q E s :=
  in_bytes ⟨by omega, by have := c.toNat_lt; omega⟩ (by rw [u8_back]; exact hq)
end Mine
end
section
open PySem PySem.Spec PySem.Calls PySem.W PyProof.Rows
namespace Mine
noncomputable def decRev (n : Nat) : List Int := if h : n ≤ 9 then [48 + (n : Int)] else (48 + ((n % 10 : Nat) : Int)) :: decRev (n / 10)
termination_by n
decreasing_by omega
structure Small (i : Int) : Prop where
  lo : -100000000000 < i
  hi : i < 100000000000
noncomputable def decText (i : Int) : List UInt8 := ((decRev i.natAbs ++ (if i < 0 then [45] else [])).reverse).map fun (n : Int) => n.toNat.toUInt8
inductive V where
  | none
  | bool (b : Bool)
  | int (i : Int)
  | bytes (l : List UInt8)
noncomputable def V.val : V → Tok → Value
  | .none, _ => .none
  | .bool b, _ => .bool b
  | .int i, t => .int i t
  | .bytes l, t => .bytes l.toArray t
noncomputable def V.ok : V → Prop
  | .int i => Small i
  | .bytes l => l.length ≤ 12
  | _ => True
noncomputable def V.text : V → List UInt8
  | .none => [110, 105, 108]
  | .bool true => [116, 114, 117, 101]
  | .bool false => [102, 97, 108, 115, 101]
  | .int i => decText i
  | .bytes l => l
noncomputable def V.tag : V → Int
  | .none => 0
  | .bool _ => 1
  | .int _ => 3
  | .bytes _ => 4
noncomputable def V.eqv : V → V → Bool
  | .none, .none => true
  | .bool a, .bool b => a == b
  | .int a, .int b => a == b
  | .bytes a, .bytes b => a == b
  | _, _ => false
noncomputable def SgB (b : UInt8) : Prop := b ∈ ([48, 49, 55, 57, 97, 70, 122, 32, 10, 45, 43, 120, 88] : List UInt8)
noncomputable def V.good : V → Prop
  | .int i => Small i
  | .bytes l => l.length ≤ 10 ∧ ∀ b ∈ l, SgB b
  | _ => True
theorem V.good.ok {v : V} (h : v.good) : v.ok := by
  cases v with
  | bytes l => exact Nat.le_trans h.1 (by decide)
  | int i => exact h
  | _ => trivial
end Mine
end
section
open PySem PySem.Spec PySem.Calls PySem.W PyProof.Rows
namespace Mine
open Builtin
set_option maxRecDepth 100000
theorem slot_bytes_join : Slot "bytes" "join" "bytes.join" :=
  .of (owner := "bytes") (n := "join") (by rw [typeLookup_type, builtinLookup_eq_fast]; kernel_rfl) (by decide +kernel) (by decide +kernel) (by decide +kernel)
    (by first | exact .inl (by decide +kernel) | exact .inr (by decide +kernel)) (by rw [isSubtype_type]; kernel_rfl)
theorem type_bytes_join : typeOf (.builtin "bytes.join") = pure (.type "method_descriptor") := by show builtinType _ = _; rw [builtinType_eq_fast]; kernel_rfl
theorem entry_bytes_join : entryFor table "bytes.join" = some Builtin.«bytes.join» := entryFor_of_tree (by kernel_rfl)
theorem args_bytes_join (a b : Value) : argsOk "bytes.join" ⟨[a, b], []⟩ := by
  unfold argsOk; rw [signature?_of (id := "bytes.join") (n := ['n', 'i', 'o', 'j']) (o := ['s', 'e', 't', 'y', 'b']) (by kernel_rfl) FB.owner_bytes]; kernel_rfl
theorem wpAny_forIn_list {M : Model} {A : Around} {E : Value → Shared → Prop} {α β : Type} (f : α → β → Sem (ForInStep β)) (I : List α → β → Shared → Prop) (Q : β → Shared → Prop)
    (done : ∀ b s, I [] b s → Q b s) (step : ∀ x l b s, I (x :: l) b s → wpAny M A (f x b) (fun r s' => match r with | .yield b' => I l b' s' | .done _ => False) E s) :
    ∀ (l : List α) (b : β) (s : Shared), I l b s → wpAny M A (forIn l b f) Q E s
  | [], b, s, h => by
    rw [List.forIn_nil]; exact wpAny_pure (done b s h)
  | x :: l, b, s, h => by
    rw [List.forIn_cons]
    refine wpAny_bind (wpAny_mono (step x l b s h) (fun r s' hr => ?_) fun _ _ x => x)
    cases r with
    | yield b' => exact wpAny_forIn_list f I Q done step l b' s' hr
    | done b' => exact hr.elim
theorem special_buffer {b : Array UInt8} {t : Tok} : specialOf (.bytes b t) "__buffer__" = pure (some (.builtin "bytes.__buffer__")) := KBy.special_eq KBy.look_buffer
theorem take_quiet {id : String} {b : Array UInt8} {t : Tok} : Bytes.takeBufferQuiet? id (.bytes b t) 0 = pure (some (b, none)) := by
  unfold Bytes.takeBufferQuiet? Bytes.takeBuffer?
  have e : ((0 : Int) == Bytes.fullReadOnly) = false := by decide
  rw [special_buffer, KBy.own_buffer, e, KBy.buffer_eq]
  kernel_rfl
theorem letGo_one {M : Model} {A : Around} {E : Value → Shared → Prop} {s : Shared} {Q : Unit → Shared → Prop} : ∀ (vs keep : List Value), Q () s → wpAny M A (letGo vs keep) Q E s
  | [], _, h => wpAny_pure h
  | _ :: r, keep, h => by
    unfold letGo
    exact wpAny_bind (wpAny_holding (wpAny_point (letGo_one r keep h)))
theorem joinLetGo_any {M : Model} {A : Around} {E : Value → Shared → Prop} {s : Shared} {Q : Unit → Shared → Prop} : ∀ (tk : List (Value × Option Value)) (keep : List Value), (∀ p ∈ tk, p.2 = none) → Q () s → wpAny M A (Bytes.joinLetGo tk keep) Q E s
  | [], _, _, h => wpAny_pure h
  | (x, w) :: r, keep, hn, h => by
    obtain rfl : w = none := hn _ List.mem_cons_self
    unfold Bytes.joinLetGo
    refine wpAny_bind (letGo_one _ _ ?_)
    exact joinLetGo_any r keep (fun p hp => hn p (List.mem_cons_of_mem _ hp)) h
abbrev bval (p : List UInt8 × Tok) : Value := .bytes p.1.toArray p.2
theorem joined_nil : ∀ (l : List (List UInt8)) (k : Nat) (acc : Array UInt8), ((l.map List.toArray).zipIdx k).foldl (fun out (x : Array UInt8 × Nat) => (if x.2 > 0 then out ++ #[] else out) ++ x.1) acc = acc ++ l.flatten.toArray
  | [], k, acc => by simp
  | x :: l, k, acc => by
    rw [List.map_cons, List.zipIdx_cons, List.foldl_cons, joined_nil l]
    simp
theorem joined_eq (l : List (List UInt8)) : Bytes.joined #[] (l.map List.toArray) = l.flatten.toArray := by
  unfold Bytes.joined
  have := joined_nil l 0 #[]
  simpa using this
theorem parts_size : ∀ (l : List (List UInt8)) (a : Nat), (l.map List.toArray).foldl (fun x1 x2 => x1 + x2.size) a = a + l.flatten.length
  | [], a => by simp
  | x :: l, a => by
    rw [List.map_cons, List.foldl_cons, parts_size l]
    simp; omega
theorem seq_items {M : Model} {A : Around} {E : Value → Shared → Prop} {s : Shared} {D : Addr} {its : Array Value} {Q : Option (Array Value) → Shared → Prop} (hl : s.heap.IsList D its) (h : Q (some its) s) : wpAny M A (seqItems? (.ref D)) Q E s := by
  obtain ⟨o, e, hc, n, hd⟩ := hl
  unfold seqItems?
  refine wpAny_bind (wpAny_load e ?_)
  rw [hd]
  exact wpAny_pure h
theorem any_heap : ∀ (l : List (List UInt8 × Tok)), ((l.map fun p => (bval p, (none : Option Value))).any fun x => x.fst.onHeap) = false
  | [] => rfl
  | x :: l => by rw [List.map_cons, List.any_cons, any_heap l]; rfl
theorem joinItems_list {M : Model} {A : Around} {E : Value → Shared → Prop} {s : Shared} {D : Addr} {its : Array Value} {Q : Value → Shared → Prop} (hl : s.heap.IsList D its) (h : Q (.ref D) s) : wpAny M A (Bytes.joinItems (.ref D)) Q E s := by
  unfold Bytes.joinItems
  refine wpAny_bind (wpAny_typeOf hl.typeIs ?_)
  simp only [beq_self_eq_true, Bool.true_or, if_true]
  exact wpAny_pure h
theorem meets_join {D : Addr} {bs : List (List UInt8 × Tok)} {t : Tok} :
    Meets («bytes.join» ⟨[.bytes #[] t, .ref D], []⟩) (fun _ R s => s.heap.IsList D (bs.map bval).toArray ∧ (bs.map (·.1)).flatten.length ≤ 16777216 ∧ ∀ t' k, R (.ok (.ret (.bytes ((bs.map (·.1)).flatten).toArray t'))) { s with toks := k }) := by
  refine .of_wp fun prog w A R s hS => ?_
  obtain ⟨hl, hsz, h⟩ := hS
  show wpAny _ _ (Bytes.joinM .bytes _) _ _ s
  have rest : ∀ (bs : List (List UInt8 × Tok)) (hl : s.heap.IsList D (bs.map bval).toArray) (hsz : (bs.map (·.1)).flatten.length ≤ 16777216) (h : ∀ t' k, R (.ok (.ret (.bytes ((bs.map (·.1)).flatten).toArray t'))) { s with toks := k }),
      (bs = [] ∨ ∃ p q r, bs = p :: q :: r) → wpAny (model prog w) A.in1 (Bytes.joinM .bytes ⟨[.bytes #[] t, .ref D], []⟩) (fun fin s' => ∃ v, fin = Fin.done (Flow.ret v) ∧ R (Except.ok (Flow.ret v)) s') (fun e s' => R (Except.error e) s') s := by
    intro bs hl hsz h hb
    unfold Bytes.joinM
    refine wpAny_bind (wpAny_pure ?_)
    with_unfolding_all refine wpAny_bind (m := Bytes.joinItems (.ref D)) ?_
    refine joinItems_list hl ?_
    refine wpAny_bind (seq_items hl ?_)
    rcases hb with hb | ⟨p, q, r, hb⟩
    all_goals
      rw [hb]
      with_unfolding_all refine wpAny_bind ?_
      rw [← hb]
      rw [Std.Legacy.Range.forIn_eq_forIn_range']
      refine wpAny_forIn_list _ (fun l b s' => ∃ i, i ≤ bs.length ∧ l = List.range' i (bs.length - i) ∧ b = (((bs.take i).map (fun p => p.1.toArray)).toArray, (bs.take i).map (fun p => (bval p, (none : Option Value)))) ∧ s' = s) _ ?_ ?_ _ _ _ ?_
      · rintro b s' ⟨i, hi, hl', rfl, rfl⟩
        have hi' : i = bs.length := by
          have := congrArg List.length hl'
          simp at this; omega
        subst hi'
        rw [List.take_length]
        (try dsimp only)
        refine wpAny_bind (wpAny_bind (wpAny_pure (wpAny_pure ?_)))
        have eq1 : (bs.map fun p => p.1.toArray) = (bs.map (·.1)).map List.toArray := by rw [List.map_map]; rfl
        (try dsimp only)
        rw [eq1, joined_eq]
        have eq2 : Bytes.tooLong (Array.foldl (fun x1 x2 => x1 + Array.size x2) (Array.size (#[] : Array UInt8) * (((bs.map (·.1)).map List.toArray).toArray.size - 1)) ((bs.map (·.1)).map List.toArray).toArray) = false := by
          refine KBy.tooLong_not ?_
          rw [← Array.foldl_toList, parts_size]
          simpa using hsz
        rw [eq2]
        rw [if_neg Bool.false_ne_true]
        refine wpAny_bind (wpAny_mkBytes ?_ (by rw [sizeLine_eq]; simpa using hsz))
        refine wpAny_bind (wpAny_holding (wpAny_point ?_))
        refine wpAny_bind (joinLetGo_any _ _ (by intro p hp; obtain ⟨x, _, rfl⟩ := List.mem_map.mp hp; rfl) ?_)
        exact wpAny_pure ⟨_, rfl, h _ _⟩
      · rintro x l b s' ⟨i, hi, hl', rfl, rfl⟩
        have hlt : i < bs.length := by
          have := congrArg List.length hl'
          simp at this; omega
        have e0 : bs.length - i = (bs.length - (i + 1)) + 1 := by omega
        rw [e0, List.range'_succ] at hl'
        injection hl' with ex el
        subst ex el
        refine wpAny_bind (seq_items hl ?_)
        dsimp only
        have e1 : (bs.map bval).toArray.getD x .none = bval bs[x] := by simp [hlt]
        rw [e1, any_heap, if_neg (by decide)]
        refine wpAny_bind (wpAny_holding ?_)
        rw [take_quiet]
        refine wpAny_pure ?_
        dsimp only
        refine wpAny_bind (seq_items hl ?_)
        dsimp only
        rw [if_neg (by simp)]
        refine wpAny_pure ?_
        refine ⟨x + 1, hlt, rfl, ?_, rfl⟩
        rw [List.take_succ_eq_append_getElem hlt, List.map_append, List.map_append]
        simp only [List.map_cons, List.map_nil, List.push_toArray]
      · exact ⟨0, by omega, by simp, by simp, rfl⟩
  match bs, hl, hsz, h with
  | [p], hl, hsz, h =>
    unfold Bytes.joinM
    refine wpAny_bind (wpAny_pure ?_)
    with_unfolding_all refine wpAny_bind (m := Bytes.joinItems (.ref D)) ?_
    refine joinItems_list hl ?_
    refine wpAny_bind (seq_items hl ?_)
    with_unfolding_all refine wpAny_bind (m := typeOf (bval p)) ?_
    refine wpAny_typeOf (typeIs_bytes _ _ _) ?_
    rw [if_pos (by decide +kernel)]
    refine wpAny_bind (wpAny_rule (wpAny_pure ⟨_, rfl, ?_⟩))
    have := h p.2 s.toks
    simp only [List.map_cons, List.map_nil, List.flatten_cons, List.flatten_nil, List.append_nil] at this
    exact this
  | [], hl, hsz, h => exact rest [] hl hsz h (.inl rfl)
  | p :: q :: r, hl, hsz, h => exact rest (p :: q :: r) hl hsz h (.inr ⟨_, _, _, rfl⟩)
end Mine
end
section
open PySem PySem.Spec PySem.Calls PySem.W PyProof.Rows
namespace Mine
open Builtin
set_option maxRecDepth 100000
theorem wpAny_forIn_brk {M : Model} {A : Around} {E : Value → Shared → Prop} {α β : Type} (f : α → β → Sem (ForInStep β)) (I : List α → β → Shared → Prop) (Q : β → Shared → Prop)
    (done : ∀ b s, I [] b s → Q b s) (step : ∀ x l b s, I (x :: l) b s → wpAny M A (f x b) (fun r s' => match r with | .yield b' => I l b' s' | .done b' => Q b' s') E s) :
    ∀ (l : List α) (b : β) (s : Shared), I l b s → wpAny M A (forIn l b f) Q E s
  | [], b, s, h => by
    rw [List.forIn_nil]; exact wpAny_pure (done b s h)
  | x :: l, b, s, h => by
    rw [List.forIn_cons]
    refine wpAny_bind (wpAny_mono (step x l b s h) (fun r s' hr => ?_) fun _ _ x => x)
    cases r with
    | yield b' => exact wpAny_forIn_brk f I Q done step l b' s' hr
    | done b' => exact wpAny_pure hr
noncomputable def asc (l : List UInt8) : PySem.Str := ⟨(l.map UInt8.toNat).toArray⟩
noncomputable def Asc (l : List UInt8) : Prop := ∀ b ∈ l, b.toNat < 128
theorem asc_len (l : List UInt8) : (asc l).length = l.length := by simp [asc, PySem.Str.length]
theorem run_ascii {M : Model} {A : Around} {E : Value → Shared → Prop} {s : Shared} {id : String} {l : List UInt8} {Q : Array Nat × Nat → Shared → Prop} (ha : Asc l) (hsz : l.length ≤ 16777216) (h : Q ((asc l).cps, l.length) s) :
    wpAny M A (_codecs.runDecoder id _codecs.asciiDecoder none true l.toArray 0 []) Q E s := by
  unfold _codecs.runDecoder
  refine wpAny_bind ?_
  rw [Std.Legacy.Range.forIn_eq_forIn_range']
  refine wpAny_forIn_brk _ (fun r b s' => ∃ i, i ≤ l.length ∧ r = List.range' i (l.length - i) ∧ b = (i, (((l.take i).map UInt8.toNat).toArray), ({ } : _codecs.Faults)) ∧ s' = s) _ ?_ ?_ _ _ _ ?_
  · rintro b s' ⟨i, hi, hl', rfl, rfl⟩
    have hi' : i = l.length := by
      have := congrArg List.length hl'
      simp at this; omega
    subst hi'
    rw [List.take_length]
    exact wpAny_pure h
  · rintro x r b s' ⟨i, hi, hl', rfl, rfl⟩
    have hlt : i < l.length := by
      have := congrArg List.length hl'
      simp at this; omega
    have e0 : l.length - i = (l.length - (i + 1)) + 1 := by omega
    rw [e0, List.range'_succ] at hl'
    injection hl' with ex el
    subst ex el
    dsimp only
    rw [if_neg (by rw [sizeLine_eq]; simp; omega), if_neg (by simp; omega)]
    have ef : _codecs.asciiDecoder.find true l.toArray x = _codecs.Found.text [l[x].toNat] (x + 1) := by
      show (if (l.toArray.getD x 0).toNat < 128 then _ else _) = _
      have eg : l.toArray.getD x 0 = l[x] := by simp [hlt]
      rw [eg, if_pos (ha _ (List.getElem_mem hlt))]
      rfl
    rw [ef]
    dsimp only
    refine wpAny_pure ?_
    refine ⟨x + 1, hlt, rfl, ?_, rfl⟩
    rw [List.take_succ_eq_append_getElem hlt, List.map_append]
    simp
  · exact ⟨0, by omega, by simp, by simp, rfl⟩
noncomputable def ascii : PySem.Str := PySem.Str.ofString "ascii"
theorem road_ascii {id : String} {b : Array UInt8} : _codecs.decodeRoad id b ascii none [] = (_codecs.runDecoder id _codecs.asciiDecoder none true b 0 [] >>= fun r => mkStr ⟨r.1⟩) := by kernel_rfl
theorem entry_ascii {c : UInt8} {cs : List UInt8} {t t1 : Tok} : «bytes.decode» ⟨[.bytes (c :: cs).toArray t, .str ascii t1], []⟩ = (mkStr (PySem.Str.ofString "utf-8") >>= fun _ => mkStr ascii >>= fun e => mkStr (PySem.Str.ofString "bytes.decode") >>= fun d =>
    call (.builtin "_codecs.decode.text") [.bytes (c :: cs).toArray t, e, .none, d] >>= fun v => ret v) := by kernel_rfl
theorem entry_ascii0 {t t1 : Tok} : «bytes.decode» ⟨[.bytes (#[] : Array UInt8) t, .str ascii t1], []⟩ = (rule "bytes.decode.empty" >>= fun _ => retStr PySem.Str.empty) := by kernel_rfl
theorem args_bytes_decode_2 (a b : Value) : argsOk "bytes.decode" ⟨[a, b], []⟩ := by
  unfold argsOk; rw [signature?_of (id := "bytes.decode") (n := ['e', 'd', 'o', 'c', 'e', 'd']) (o := ['s', 'e', 't', 'y', 'b']) (by kernel_rfl) FB.owner_bytes]; kernel_rfl
theorem meets_text_ascii {l : List UInt8} {t t1 t2 : Tok} {d : PySem.Str} (ha : Asc l) (hsz : l.length ≤ 16777216) :
    Meets («_codecs.decode.text» ⟨[.bytes l.toArray t, .str ascii t1, .none, .str d t2], []⟩) (fun _ R s => R (.ok (.ret (.str (asc l) s.toks))) { s with toks := s.toks + 1 }) := by
  refine .of_wp fun prog w A R s h => ?_
  show wpAny _ _ (Bytes.bytesLike _ (.bytes l.toArray t) >>= fun r => _) _ _ s
  refine wpAny_bind (wpAny_of_eq KBd.like_eq ?_)
  refine wpAny_bind (wpAny_of_eq KBd.held_eq ?_)
  show wpAny _ _ (_codecs.decodeRoad _ l.toArray ascii none [] >>= fun v => _) _ _ s
  rw [road_ascii]
  refine wpAny_bind (wpAny_bind (run_ascii ha hsz ?_))
  exact wpAny_mkStr (wpAny_pure ⟨_, rfl, h⟩) (by rw [sizeLine_eq]; show (asc l).length ≤ _; rw [asc_len]; exact hsz)
theorem meets_decode_ascii {l : List UInt8} {t t1 : Tok} (ha : Asc l) (hsz : l.length ≤ 16777216) :
    Meets («bytes.decode» ⟨[.bytes l.toArray t, .str ascii t1], []⟩) (fun _ R s => ∀ t' k, R (.ok (.ret (.str (asc l) t'))) { s with toks := k }) := by
  refine .of_wp fun prog w A R s h => ?_
  cases l with
  | nil =>
    show wpAny _ _ («bytes.decode» ⟨[.bytes (#[] : Array UInt8) t, .str ascii t1], []⟩) _ _ _
    rw [entry_ascii0]
    refine wpAny_bind (wpAny_rule ?_)
    unfold retStr
    exact wpAny_bind (wpAny_mkStr (wpAny_pure ⟨_, rfl, h _ _⟩) (by decide))
  | cons c cs =>
    rw [entry_ascii]
    refine wpAny_bind (wpAny_mkStr ?_ (by decide))
    refine wpAny_bind (wpAny_mkStr ?_ (by decide))
    refine wpAny_bind (wpAny_mkStr ?_ (by decide))
    exact wpAny_bind (call_function_meets KBd.kind_text KBd.plain_text KBd.entry_text (KBd.args_text _ _ _ _) (meets_text_ascii ha hsz) (wpAny_pure ⟨_, rfl, h _ _⟩))
theorem decode_ascii {prog : Program} {w : World} {A : Around} {E : Value → Shared → Prop} {s : Shared} {l : List UInt8} {t t1 : Tok} {Q : Value → Shared → Prop} (ha : Asc l) (hsz : l.length ≤ 16777216) (h : ∀ t' k, Q (.str (asc l) t') { s with toks := k }) :
    wpAny (model prog w) A (call (.builtin "bytes.decode") [.bytes l.toArray t, .str ascii t1]) Q E s :=
  call_meets FB.slot_bytes_decode (typeIs_bytes _ _ _) FB.entry_bytes_decode (args_bytes_decode_2 _ _) (meets_decode_ascii ha hsz) h
theorem bytes_join {prog : Program} {w : World} {A : Around} {E : Value → Shared → Prop} {s : Shared} {D : Addr} {bs : List (List UInt8 × Tok)} {t : Tok} {Q : Value → Shared → Prop} (hl : s.heap.IsList D (bs.map bval).toArray) (hsz : (bs.map (·.1)).flatten.length ≤ 16777216) (h : ∀ t' k, Q (.bytes ((bs.map (·.1)).flatten).toArray t') { s with toks := k }) :
    wpAny (model prog w) A (call (.builtin "bytes.join") [.bytes #[] t, .ref D]) Q E s :=
  call_meets slot_bytes_join (typeIs_bytes _ _ _) entry_bytes_join (args_bytes_join _ _) meets_join ⟨hl, hsz, h⟩
theorem getMethod_join {M : Model} {A : Around} {E : Value → Shared → Prop} {s : Shared} {b : Array UInt8} {t : Tok} {pl : Sem Bool} {Q : Value × List Value → Shared → Prop} (h : Q (.builtin "bytes.join", [.bytes b t]) s) : wpAny M A (getMethod (.bytes b t) "join" pl) Q E s :=
  KBd.method_of (.bytes b t) (typeIs_bytes _ _ _) slot_bytes_join type_bytes_join KBd.noRef h
theorem enc_entry {x : PySem.Str} {t t1 : Tok} : «str.encode» ⟨[.str x t, .str ascii t1], []⟩ = (_codecs.encodeRoad "str.encode" (.str x t) x ascii none >>= fun v => ret v) := by kernel_rfl
theorem enc_road {id : String} {v : Value} {x : PySem.Str} : _codecs.encodeRoad id v x ascii none = (_codecs.encodeNarrow id _codecs.asciiCodec none v x >>= fun b => mkBytes b) := by kernel_rfl
theorem not_bad {l : List UInt8} (ha : Asc l) : ∀ c ∈ l.map UInt8.toNat, _codecs.asciiCodec.bad c = false := by
  intro c hc
  obtain ⟨b, hb, rfl⟩ := List.mem_map.mp hc
  have := ha b hb
  show decide (b.toNat ≥ 128) = false
  exact decide_eq_false (by omega)
theorem enc_fold : ∀ (l : List UInt8) (acc : Array UInt8), (l.map UInt8.toNat).foldl (fun acc y => acc ++ (_codecs.asciiCodec.bytesOf y).toArray) acc = acc ++ l.toArray
  | [], acc => by simp
  | b :: l, acc => by
    rw [List.map_cons, List.foldl_cons, enc_fold l]
    have : (_codecs.asciiCodec.bytesOf b.toNat) = [b] := congrArg (fun z => [z]) UInt8.ofNat_toNat
    rw [this]; simp
theorem run_enc {M : Model} {A : Around} {E : Value → Shared → Prop} {s : Shared} {id : String} {v : Value} {l : List UInt8} {Q : Array UInt8 → Shared → Prop} (ha : Asc l) (hsz : l.length ≤ 16777216) (h : Q l.toArray s) :
    wpAny M A (_codecs.encodeNarrow id _codecs.asciiCodec none v (asc l)) Q E s := by
  unfold _codecs.encodeNarrow
  refine wpAny_bind ?_
  rw [Std.Legacy.Range.forIn_eq_forIn_range', asc_len]
  refine wpAny_forIn_brk _ (fun r b s' => s' = s ∧ ((b = (0, #[], ({ } : _codecs.Faults)) ∧ (r = [] → l = [])) ∨ b = (l.length, l.toArray, ({ } : _codecs.Faults)))) _ ?_ ?_ _ _ _ ?_
  · rintro b s' ⟨rfl, ⟨rfl, hl⟩ | rfl⟩
    · have := hl rfl
      subst this
      exact wpAny_pure h
    · exact wpAny_pure h
  · rintro x r b s' ⟨rfl, ⟨rfl, hl⟩ | rfl⟩
    · dsimp only
      rw [if_neg (by rw [sizeLine_eq]; simp)]
      cases l with
      | nil => exact wpAny_pure (wpAny_pure h)
      | cons c cs =>
        have e1 : (asc (c :: cs)).cps[0]? = some c.toNat := by simp [asc]
        rw [e1]
        dsimp only
        have nb := not_bad ha c.toNat (by simp)
        rw [nb]
        have e2 : (asc (c :: cs)).cps.extract 0 (asc (c :: cs)).cps.size = ((c :: cs).map UInt8.toNat).toArray := Array.extract_size
        have e3 : Array.findIdx? _codecs.asciiCodec.bad ((c :: cs).map UInt8.toNat).toArray = none := by
          rw [Array.findIdx?_eq_none_iff]
          intro y hy
          exact not_bad ha y (by simpa using hy)
        have e4 : ((c :: cs).map UInt8.toNat).toArray.extract 0 ((c :: cs).map UInt8.toNat).toArray.size = ((c :: cs).map UInt8.toNat).toArray := Array.extract_size
        rw [e2, e3]
        dsimp only [Option.getD_none]
        rw [e4]
        refine wpAny_pure ?_
        refine ⟨rfl, .inr ?_⟩
        rw [← Array.foldl_toList, enc_fold]
        simp
    · dsimp only
      rw [if_neg (by rw [sizeLine_eq]; simp; omega)]
      have e1 : (asc l).cps[l.length]? = none := by simp [asc]
      rw [e1]
      exact wpAny_pure (wpAny_pure h)
  · refine ⟨rfl, .inl ⟨rfl, fun hr => ?_⟩⟩
    have := congrArg List.length hr
    simp at this
    exact this
theorem slot_str_encode : Slot "str" "encode" "str.encode" :=
  .of (owner := "str") (n := "encode") (by rw [typeLookup_type, builtinLookup_eq_fast]; kernel_rfl) (by decide +kernel) (by decide +kernel) (by decide +kernel)
    (by first | exact .inl (by decide +kernel) | exact .inr (by decide +kernel)) (by rw [isSubtype_type]; kernel_rfl)
theorem type_str_encode : typeOf (.builtin "str.encode") = pure (.type "method_descriptor") := by show builtinType _ = _; rw [builtinType_eq_fast]; kernel_rfl
theorem entry_str_encode : entryFor table "str.encode" = some Builtin.«str.encode» := entryFor_of_tree (by kernel_rfl)
theorem args_str_encode (a b : Value) : argsOk "str.encode" ⟨[a, b], []⟩ := by
  unfold argsOk; rw [signature?_of (id := "str.encode") (n := ['e', 'd', 'o', 'c', 'n', 'e']) (o := ['r', 't', 's']) (by kernel_rfl) F.owner_str]; kernel_rfl
theorem meets_encode {l : List UInt8} {t t1 : Tok} (ha : Asc l) (hsz : l.length ≤ 16777216) :
    Meets («str.encode» ⟨[.str (asc l) t, .str ascii t1], []⟩) (fun _ R s => ∀ t' k, R (.ok (.ret (.bytes l.toArray t'))) { s with toks := k }) := by
  refine .of_wp fun prog w A R s h => ?_
  rw [enc_entry, enc_road]
  refine wpAny_bind (wpAny_bind (run_enc ha hsz ?_))
  exact wpAny_mkBytes (wpAny_pure ⟨_, rfl, h _ _⟩) (by rw [sizeLine_eq]; simpa using hsz)
theorem encode_ascii {prog : Program} {w : World} {A : Around} {E : Value → Shared → Prop} {s : Shared} {l : List UInt8} {t t1 : Tok} {Q : Value → Shared → Prop} (ha : Asc l) (hsz : l.length ≤ 16777216) (h : ∀ t' k, Q (.bytes l.toArray t') { s with toks := k }) :
    wpAny (model prog w) A (call (.builtin "str.encode") [.str (asc l) t, .str ascii t1]) Q E s :=
  call_meets slot_str_encode (typeIs_str _ _ _) entry_str_encode (args_str_encode _ _) (meets_encode ha hsz) h
theorem getMethod_encode {M : Model} {A : Around} {E : Value → Shared → Prop} {s : Shared} {x : PySem.Str} {t : Tok} {pl : Sem Bool} {Q : Value × List Value → Shared → Prop} (h : Q (.builtin "str.encode", [.str x t]) s) : wpAny M A (getMethod (.str x t) "encode" pl) Q E s :=
  GM.of (.str x t) (typeIs_str _ _ _) slot_str_encode type_str_encode GM.noRef h
end Mine
end
section
open PySem PySem.Spec PySem.Calls PySem.W PyProof.Rows
namespace Mine
open Builtin Builtin.Str
set_option maxRecDepth 100000
theorem asc_app (a b : List UInt8) : asc (a ++ b) = asc a ++ asc b := by
  apply Str.ext'
  show _ = (asc a).cps ++ (asc b).cps
  simp [asc]
theorem asc_inj {a b : List UInt8} (h : asc a = asc b) : a = b := by
  have h1 : (asc a).cps.toList = (asc b).cps.toList := by rw [h]
  simp only [asc] at h1
  have inj : ∀ (a b : List UInt8), a.map UInt8.toNat = b.map UInt8.toNat → a = b := by
    intro a
    induction a with
    | nil => intro b h; cases b with
      | nil => rfl
      | cons _ _ => cases h
    | cons x a ih => intro b h; cases b with
      | nil => cases h
      | cons y b =>
        rw [List.map_cons, List.map_cons] at h
        injection h with h1 h2
        rw [UInt8.toNat_inj.mp h1, ih b h2]
  exact inj a b h1
theorem asc_beq (a b : List UInt8) : (asc a == asc b) = (a == b) := by
  by_cases h : a = b
  · subst h; simp
  · have : asc a ≠ asc b := fun q => h (asc_inj q)
    rw [beq_false_of_ne this, beq_false_of_ne h]
theorem idx_clip (a b n : Nat) : strSliceIndices (some (a : Int)) (some (b : Int)) 1 n = strSliceIndices (some ((min a n : Nat) : Int)) (some ((min b n : Nat) : Int)) 1 n := by
  unfold strSliceIndices
  have e1 : ¬ ((a : Int) < 0) := by omega
  have e2 : ¬ ((b : Int) < 0) := by omega
  have e3 : ¬ (((min a n : Nat) : Int) < 0) := by omega
  have e4 : ¬ (((min b n : Nat) : Int) < 0) := by omega
  have h1 : max (0 : Int) (min (a : Int) (n : Int)) = max 0 (min ((min a n : Nat) : Int) (n : Int)) := by omega
  have h2 : max (0 : Int) (min (b : Int) (n : Int)) = max 0 (min ((min b n : Nat) : Int) (n : Int)) := by omega
  have e5 : (1 : Int) > 0 := by decide
  simp only [e1, e2, e3, e4, e5, if_false, if_true, h1, h2]
theorem slice_nat (l : List UInt8) (a b : Nat) (hab : a ≤ b) : Txt.slice (asc l) (some (a : Int)) (some (b : Int)) = asc ((l.drop a).take (b - a)) := by
  have e : Txt.slice (asc l) (some (a : Int)) (some (b : Int)) = StrLaws.sliceText (asc l) (some ((min a l.length : Nat) : Int)) (some ((min b l.length : Nat) : Int)) := by
    unfold Txt.slice StrLaws.sliceText
    rw [asc_len, idx_clip]
  rw [e, StrLaws.sliceText_nat (asc l) (by omega) (by rw [asc_len]; omega)]
  apply Str.ext'
  simp only [asc, List.map_take, List.map_drop]
  congr 1
  have hn : (l.map UInt8.toNat).length = l.length := List.length_map _
  by_cases ha : a ≤ l.length
  · rw [Nat.min_eq_left ha]
    by_cases hb : b ≤ l.length
    · rw [Nat.min_eq_left hb]
    · rw [Nat.min_eq_right (by omega)]
      rw [List.take_of_length_le (by simp), List.take_of_length_le (by simp; omega)]
  · rw [List.drop_eq_nil_of_le (by simp; omega), List.drop_eq_nil_of_le (by simp; omega)]
    simp
theorem slice_ns (l : List UInt8) (b : Nat) : Txt.slice (asc l) none (some (b : Int)) = asc (l.take b) := by
  have e : Txt.slice (asc l) none (some (b : Int)) = Txt.slice (asc l) (some ((0 : Nat) : Int)) (some (b : Int)) := by
    unfold Txt.slice; rw [StrLaws.sliceIdx_none_lo]; rfl
  rw [e, slice_nat l 0 b (by omega)]; simp
theorem slice_sn (l : List UInt8) (a : Nat) (ha : a ≤ l.length) : Txt.slice (asc l) (some (a : Int)) none = asc (l.drop a) := by
  have e : Txt.slice (asc l) (some (a : Int)) none = Txt.slice (asc l) (some (a : Int)) (some (l.length : Int)) := by
    unfold Txt.slice; rw [StrLaws.sliceIdx_none_hi, asc_len]
  rw [e, slice_nat l a l.length ha]
  congr 1
  exact List.take_of_length_le (by simp)
noncomputable def ws (b : UInt8) : Bool := b == 32 || b == 10
noncomputable def stripW (l : List UInt8) : List UInt8 := ((l.dropWhile ws).reverse.dropWhile ws).reverse
noncomputable def blanksT : PySem.Str := PySem.Str.ofString " \n"
theorem goes_ws (b : UInt8) : blanksT.cps.contains b.toNat = ws b := by
  have : ∀ i : _root_.Fin 256, blanksT.cps.contains (UInt8.ofNat i.val).toNat = ws (UInt8.ofNat i.val) := by decide +kernel
  have h := this ⟨b.toNat, b.toNat_lt⟩
  rw [UInt8.ofNat_toNat] at h
  exact h
theorem tw_map (l : List UInt8) : ((l.map UInt8.toNat).takeWhile blanksT.cps.contains) = (l.takeWhile ws).map UInt8.toNat := by
  induction l with
  | nil => rfl
  | cons b l ih =>
    rw [List.map_cons, List.takeWhile_cons, List.takeWhile_cons, goes_ws]
    cases ws b with
    | true => simp only [if_true, List.map_cons, ih]
    | false => rfl
theorem drop_tw {α : Type} (q : α → Bool) : ∀ l : List α, l.drop (l.takeWhile q).length = l.dropWhile q
  | [] => rfl
  | x :: l => by
    rw [List.takeWhile_cons, List.dropWhile_cons]
    cases q x with
    | true => simp only [if_true, List.length_cons, List.drop_succ_cons]; exact drop_tw q l
    | false => rfl
theorem tw_le {α : Type} (q : α → Bool) (l : List α) : (l.takeWhile q).length ≤ l.length := (List.takeWhile_sublist q).length_le
theorem strip_asc (l : List UInt8) : Txt.stripChars (asc l) blanksT = asc (stripW l) := by
  unfold Txt.stripChars
  rw [PyProof.Rows.stripBy_eq]
  have lo : stripLo blanksT.cps.contains true (asc l) = (l.takeWhile ws).length := by
    unfold stripLo
    rw [if_pos rfl]
    show ((l.map UInt8.toNat).takeWhile _).length = _
    rw [tw_map, List.length_map]
  have hi : stripHi blanksT.cps.contains true (asc l) (l.takeWhile ws).length = l.length - ((l.dropWhile ws).reverse.takeWhile ws).length := by
    unfold stripHi
    rw [if_pos rfl, asc_len]
    show l.length - (((l.map UInt8.toNat).drop (l.takeWhile ws).length).reverse.takeWhile _).length = _
    rw [← List.map_drop, drop_tw, ← List.map_reverse, tw_map, List.length_map]
  rw [lo, hi]
  apply Str.ext'
  show ((l.map UInt8.toNat).toArray.extract _ _) = ((stripW l).map UInt8.toNat).toArray
  rw [List.extract_toArray]
  congr 1
  rw [List.extract_eq_take_drop, ← List.map_drop, drop_tw, ← List.map_take]
  congr 1
  have h1 : (l.takeWhile ws).length + (l.dropWhile ws).length = l.length := by
    have := congrArg List.length (List.takeWhile_append_dropWhile (p := ws) (l := l))
    rw [List.length_append] at this; exact this
  have h2 := tw_le ws (l.dropWhile ws).reverse
  rw [List.length_reverse] at h2
  have h3 : l.length - ((l.dropWhile ws).reverse.takeWhile ws).length - (l.takeWhile ws).length = (l.dropWhile ws).length - ((l.dropWhile ws).reverse.takeWhile ws).length := by omega
  rw [h3]
  unfold stripW
  rw [← drop_tw ws (l.dropWhile ws).reverse, List.reverse_drop, List.reverse_reverse, List.length_reverse]
noncomputable def low (b : UInt8) : UInt8 := if 65 ≤ b.toNat ∧ b.toNat ≤ 90 then b + 32 else b
theorem low_one (b : UInt8) (hb : b.toNat < 128) : (b.toNat == 0x3A3) = false ∧ Unicode.lowerOf b.toNat = [(low b).toNat] := by
  have : ∀ i : _root_.Fin 128, ((UInt8.ofNat i.val).toNat == 0x3A3) = false ∧ Unicode.lowerOf (UInt8.ofNat i.val).toNat = [(low (UInt8.ofNat i.val)).toNat] := by decide +kernel
  have h := this ⟨b.toNat, hb⟩
  rw [UInt8.ofNat_toNat] at h
  exact h
theorem lower_asc (l : List UInt8) (ha : Asc l) : Txt.lower (asc l) = asc (l.map low) := by
  apply Str.ext'
  show ((l.map UInt8.toNat).toArray.mapIdx fun i c => (Unicode.lowerAt (l.map UInt8.toNat).toArray i).toArray).flatten = ((l.map low).map UInt8.toNat).toArray
  have e : ((l.map UInt8.toNat).toArray.mapIdx fun i c => (Unicode.lowerAt (l.map UInt8.toNat).toArray i).toArray) = (l.map fun b => #[(low b).toNat]).toArray := by
    apply Array.ext
    · simp
    · intro i h1 h2
      have hi : i < l.length := by simpa using h2
      have hl := low_one l[i] (ha _ (List.getElem_mem hi))
      simp only [Array.getElem_mapIdx, List.getElem_toArray, List.getElem_map]
      unfold Unicode.lowerAt
      have eg : (l.map UInt8.toNat).toArray[i]? = some l[i].toNat := by simp [hi]
      rw [eg]
      dsimp only
      rw [hl.1, hl.2]
      rfl
  rw [e]
  apply Array.ext'
  rw [Array.toList_flatten]
  have : ∀ l : List UInt8, (List.map Array.toList (l.map fun b => #[(low b).toNat])).flatten = (l.map low).map UInt8.toNat := by
    intro l
    induction l with
    | nil => rfl
    | cons b l ih => simp only [List.map_cons, List.flatten_cons, ih]; rfl
  exact this l
noncomputable def d36 : PySem.Str := PySem.Str.ofString "0123456789abcdefghijklmnopqrstuvwxyz"
noncomputable def digC (d : Nat) : UInt8 := if d < 10 then (48 + d).toUInt8 else (87 + d).toUInt8
theorem item36 {i : Int} (h : 0 ≤ i ∧ i < 36) : Txt.item d36 i = asc [digC i.toNat] := by
  have : ∀ i : _root_.Fin 36, Txt.item d36 (i.val : Int) = asc [digC i.val] := by decide +kernel
  obtain ⟨n, rfl⟩ := Int.eq_ofNat_of_zero_le h.1
  exact this ⟨n, by omega⟩
theorem find36 (b : UInt8) (hb : b.toNat < 128) : Txt.find d36 (asc [low b]) = (if 48 ≤ b.toNat ∧ b.toNat ≤ 57 then (b.toNat : Int) - 48 else if 97 ≤ b.toNat ∧ b.toNat ≤ 122 then (b.toNat : Int) - 87 else if 65 ≤ b.toNat ∧ b.toNat ≤ 90 then (b.toNat : Int) - 55 else -1) := by
  have : ∀ i : _root_.Fin 128, Txt.find d36 (asc [low (UInt8.ofNat i.val)]) = (if 48 ≤ (UInt8.ofNat i.val).toNat ∧ (UInt8.ofNat i.val).toNat ≤ 57 then ((UInt8.ofNat i.val).toNat : Int) - 48 else if 97 ≤ (UInt8.ofNat i.val).toNat ∧ (UInt8.ofNat i.val).toNat ≤ 122 then ((UInt8.ofNat i.val).toNat : Int) - 87 else if 65 ≤ (UInt8.ofNat i.val).toNat ∧ (UInt8.ofNat i.val).toNat ≤ 90 then ((UInt8.ofNat i.val).toNat : Int) - 55 else -1) := by decide +kernel
  have h := this ⟨b.toNat, hb⟩
  simp only [UInt8.ofNat_toNat] at h
  exact h
end Mine
end
section
open PySem PySem.Spec PySem.Calls PySem.W PyProof.Rows
namespace Mine
set_option maxRecDepth 100000
section
variable {prog : Program} {w : World} {A : Around} {E : Value → Shared → Prop} {s : Shared} {value slice : Expr} {t u : Tok} {Q : Value → Shared → Prop}
theorem item_d36 {i : Int} (h0 : 0 ≤ i) (h1 : i < 36) (h : ∀ t' k, Q (.str (asc [digC i.toNat]) t') { s with toks := k })
    (hs : subscripted slice false (.str d36 t) (.int i u) = operate [.str d36 t, .int i u] (getItem (.str d36 t) (.int i u)) := by with_unfolding_all rfl)
    (ht : ∀ r, letTemporaryGo value (.str d36 t) r = pure () := by intro _; with_unfolding_all rfl) :
    wpAny (model prog w) A (subscriptTail value slice (.str d36 t) (.int i u)) Q E s := by
  have e := item36 ⟨h0, h1⟩
  have hl : d36.length = 36 := by decide
  refine item_str (by unfold fitsSsize; simp; omega) (by rw [hl]; omega) (by rw [hl]; omega) (fun _ => ?_) hs ht
  rw [e]
  exact h _ _
theorem add_asc {a b : List UInt8} (hsz : a.length + b.length ≤ 16777216) (h : ∀ t' k, Q (.str (asc (a ++ b)) t') { s with toks := k }) : wpAny (model prog w) A (binaryOp .Add (.str (asc a) t) (.str (asc b) u)) Q E s :=
  PyProof.Rows.add_str (fun t' k => by rw [← asc_app]; exact h t' k) (by rw [asc_len, asc_len, sizeLine_eq]; exact hsz)
theorem eq_asc {a b : List UInt8} (h : Q (.bool (a == b)) s) : wpAny (model prog w) A (compareOp .Eq (.str (asc a) t) (.str (asc b) u)) Q E s :=
  PyProof.Rows.eq_str (by rw [asc_beq]; exact h)
theorem ne_asc {a b : List UInt8} (h : Q (.bool (a != b)) s) : wpAny (model prog w) A (compareOp .NotEq (.str (asc a) t) (.str (asc b) u)) Q E s :=
  PyProof.Rows.ne_str (by show Q (.bool (!(asc a == asc b))) s; rw [asc_beq]; exact h)
end
theorem lit_nil : PySem.Str.ofString "" = asc [] := by decide +kernel
theorem lit_minus : PySem.Str.ofString "-" = asc [45] := by decide +kernel
theorem lit_plus : PySem.Str.ofString "+" = asc [43] := by decide +kernel
theorem lit_sp : PySem.Str.ofString " " = asc [32] := by decide +kernel
theorem lit_0x : PySem.Str.ofString "0x" = asc [48, 120] := by decide +kernel
theorem eq_nil {prog : Program} {w : World} {A : Around} {E : Value → Shared → Prop} {s : Shared} {t u : Tok} {Q : Value → Shared → Prop} {a : List UInt8} (h : Q (.bool (a == [])) s) : wpAny (model prog w) A (compareOp .Eq (.str (asc a) t) (.str (PySem.Str.ofString "") u)) Q E s := by
  rw [lit_nil]; exact eq_asc h
noncomputable def digs (b n : Nat) : List UInt8 := if h : 2 ≤ b ∧ b ≤ n then digs b (n / b) ++ [digC (n % b)] else [digC (n % b)]
termination_by n
decreasing_by exact Nat.div_lt_self (by omega) (by omega)
theorem digs_ne (b n : Nat) : digs b n ≠ [] := by
  unfold digs; split <;> simp
theorem digs_len (b : Nat) : ∀ (k n : Nat), n < 2 ^ k → (digs b n).length ≤ k + 1
  | k, n, h => by
    unfold digs
    split
    · rename_i hb
      cases k with
      | zero => simp at h; omega
      | succ k =>
        have h2 : n / b < 2 ^ k := by
          refine Nat.lt_of_le_of_lt (Nat.div_le_div_left hb.1 (by omega)) ?_
          rw [Nat.pow_succ] at h
          omega
        have := digs_len b k (n / b) h2
        simp only [List.length_append, List.length_singleton]; omega
    · simp
structure DgI (b n : Nat) (x : Int) (f : List UInt8) : Prop where
  nn : 0 ≤ x
  lt : x < 100000000000
  eq : (if x = 0 ∧ f ≠ [] then [] else digs b x.toNat) ++ f = digs b n
  len : f.length ≤ 38
theorem dg_start {b n : Nat} (hn : n < 100000000000) : DgI b n (n : Int) [] := by
  refine ⟨by omega, by omega, ?_, by simp⟩
  rw [if_neg (by simp), Int.toNat_natCast, List.append_nil]
theorem dg_end {b n : Nat} {x : Int} {f : List UInt8} (h : DgI b n x f) (hx : ¬ 0 < x) (hf : ¬ (f == []) = true) : f = digs b n := by
  have hx0 : x = 0 := by have := h.nn; omega
  have hf' : f ≠ [] := fun q => hf (by simp [q])
  have := h.eq
  rw [if_pos ⟨hx0, hf'⟩, List.nil_append] at this
  exact this
theorem lt_cast {z : Nat} (h : z < 100000000000) : (z : Int) < 100000000000 := by omega
theorem dg_turn {b n : Nat} {x : Int} {f : List UInt8} (hb : 2 ≤ b ∧ b ≤ 36) (hn : n < 100000000000) (h : DgI b n x f) (hx : 0 < x ∨ f = []) : DgI b n (x.fdiv (b : Int)) ([digC (x.fmod (b : Int)).toNat] ++ f) := by
  obtain ⟨h0, hlt, he, hl⟩ := h
  obtain ⟨y, rfl⟩ := Int.eq_ofNat_of_zero_le h0
  have e1 : (y : Int).fdiv (b : Int) = ((y / b : Nat) : Int) := by rw [Int.fdiv_eq_ediv_of_nonneg _ (by omega)]; rfl
  have e2 : ((y : Int).fmod (b : Int)).toNat = y % b := by rw [Int.fmod_eq_emod_of_nonneg _ (by omega)]; omega
  rw [e1, e2]
  have he' : digs b y ++ f = digs b n := by
    rw [if_neg (by rintro ⟨q, r⟩; rcases hx with hx | hx; omega; exact r hx), Int.toNat_natCast] at he
    exact he
  have hll : (digs b n).length ≤ 38 := digs_len b 37 n (by omega)
  have hd : y / b < 100000000000 := Nat.lt_of_le_of_lt (Nat.div_le_self _ _) (by omega)
  have key : (if ((y / b : Nat) : Int) = 0 ∧ ([digC (y % b)] ++ f) ≠ [] then [] else digs b (((y / b : Nat) : Int)).toNat) ++ [digC (y % b)] = digs b y := by
    rw [Int.toNat_natCast]
    conv => rhs; unfold digs
    by_cases hc : b ≤ y
    · have : 0 < y / b := Nat.div_pos hc (by omega)
      rw [if_neg (by omega), dif_pos ⟨hb.1, hc⟩]
    · have : y / b = 0 := Nat.div_eq_of_lt (by omega)
      rw [if_pos ⟨by omega, by simp⟩, dif_neg (by omega)]
      rfl
  refine ⟨Int.natCast_nonneg _, lt_cast hd, ?_, ?_⟩
  · rw [← List.append_assoc, key, he']
  · have := congrArg List.length he'
    have hp := digs_ne b y
    have : 0 < (digs b y).length := List.length_pos_iff.mpr hp
    simp only [List.length_append, List.length_singleton] at *
    omega
end Mine
end
section
open PySem PySem.Spec PySem.Calls PySem.W PyProof.Rows
namespace Mine
set_option maxRecDepth 100000
theorem add_l {prog : Program} {w : World} {A : Around} {E : Value → Shared → Prop} {s : Shared} {t u : Tok} {Q : Value → Shared → Prop} {x : PySem.Str} {a b : List UInt8} (e : x = asc a) (hsz : a.length + b.length ≤ 16777216) (h : ∀ t' k, Q (.str (asc (a ++ b)) t') { s with toks := k }) : wpAny (model prog w) A (binaryOp .Add (.str x t) (.str (asc b) u)) Q E s := by
  rw [e]; exact add_asc hsz h
theorem add_r {prog : Program} {w : World} {A : Around} {E : Value → Shared → Prop} {s : Shared} {t u : Tok} {Q : Value → Shared → Prop} {y : PySem.Str} {a b : List UInt8} (e : y = asc b) (hsz : a.length + b.length ≤ 16777216) (h : ∀ t' k, Q (.str (asc (a ++ b)) t') { s with toks := k }) : wpAny (model prog w) A (binaryOp .Add (.str (asc a) t) (.str y u)) Q E s := by
  rw [e]; exact add_asc hsz h
theorem digC_lt {d : Nat} (h : d < 36) : (digC d).toNat < 128 := by
  have : ∀ i : _root_.Fin 36, (digC i.val).toNat < 128 := by decide
  exact this ⟨d, h⟩
theorem digs_asc {b : Nat} (hb : 2 ≤ b ∧ b ≤ 36) : ∀ (k n : Nat), n ≤ k → Asc (digs b n)
  | k, n, h, c, hc => by
    unfold digs at hc
    have hm : n % b < 36 := Nat.lt_of_lt_of_le (Nat.mod_lt _ (by omega)) hb.2
    split at hc
    · rename_i hbn
      rcases List.mem_append.mp hc with hc | hc
      · cases k with
        | zero => omega
        | succ k => exact digs_asc hb k (n / b) (by have := Nat.div_lt_self (n := n) (k := b) (by omega) (by omega); omega) c hc
      · rw [List.mem_singleton.mp hc]; exact digC_lt hm
    · rw [List.mem_singleton.mp hc]; exact digC_lt hm
theorem asc_append {a b : List UInt8} (ha : Asc a) (hb : Asc b) : Asc (a ++ b) := fun c hc => (List.mem_append.mp hc).elim (ha c) (hb c)
theorem digC_ten {d : Nat} (h : d ≤ 9) : digC d = (48 + (d : Int)).toNat.toUInt8 := by
  unfold digC
  rw [if_pos (by omega)]
  congr 1
theorem digs_dec : ∀ (k n : Nat), n ≤ k → digs 10 n = (decRev n).reverse.map fun (n : Int) => n.toNat.toUInt8
  | k, n, h => by
    unfold digs decRev
    by_cases h9 : n ≤ 9
    · rw [dif_neg (by omega), dif_pos h9, Nat.mod_eq_of_lt (by omega), digC_ten h9]; rfl
    · rw [dif_pos (by omega), dif_neg h9]
      cases k with
      | zero => omega
      | succ k =>
        rw [digs_dec k (n / 10) (by omega), List.reverse_cons, List.map_append, digC_ten (by omega)]; rfl
theorem shown_int (i : Int) : (if i < 0 then [45] else []) ++ digs 10 i.natAbs = decText i := by
  unfold decText
  rw [digs_dec _ _ (Nat.le_refl _), List.reverse_append, List.map_append]
  congr 1
  split <;> rfl
theorem digs_small (i : Int) (hi : Small i) : (digs 10 i.natAbs).length ≤ 38 := digs_len 10 37 _ (by have := hi.lo; have := hi.hi; omega)
end Mine
end
section
open PySem PySem.Spec PySem.Calls PySem.W PyProof.Rows
namespace Mine
structure Hid (p : Prop) : Prop where
  out : p
theorem small_ok {a b : Int} (ha : -1000000 ≤ a ∧ a ≤ 1000000) (hb : -1000000 ≤ b ∧ b ≤ 1000000) : Builtin.Range.small a b 1 = true := by
  have h := rangeSize_nat a b
  unfold Builtin.Range.small Builtin.Range.rangeFitsLong
  simp only [h, Bool.and_eq_true, decide_eq_true_eq]
  have e : (2 : Int) ^ 63 = 9223372036854775808 := by decide
  simp only [e]
  refine ⟨by omega, ?_⟩
  rw [if_pos (by decide), Bool.or_eq_true, Bool.and_eq_true, decide_eq_true_eq, decide_eq_true_eq]
  omega
theorem comp_end_mono {h₀ : Heap} {L I C D : Addr} {m : Str → Option Value} {s₁ s₂ : Shared} {oI oC oD : Obj} {S : Led → Prop} {r r' : Value → Led → Prop} {y : Value}
    (h : LCg.CompEnd h₀ L m s₁ I oI C oC D oD S r y s₂) (hr : ∀ y n, r y n → r' y n) : LCg.CompEnd h₀ L m s₁ I oI C oC D oD S r' y s₂ := by
  obtain ⟨h', tk, news', rfl, F, N, off, hS, hx⟩ := h
  exact ⟨h', tk, news', rfl, F, N, off, hS, hr _ _ hx⟩
theorem comp_ind {prog : Program} {w : World} {A : Around} {h₀ : Heap} {L : Addr} {m : Str → Option Value} {env : Env} {elt : Expr} {x : Str} {scope : Scope} {cl : List (Str × Addr)} {s : Shared} {S : Led → Prop} {P : Nat → Value → Prop} {Fin : List Value → Led → Prop}
    (Inv : List Value → Led → Prop) (n : Nat) (fin : ∀ ys news, ys.length = n → Inv ys news → Fin ys news)
    (step : ∀ ys news, ys.length < n → Inv ys news → ∀ v I oI C oC D m₂ h tk (E' : Value → Shared → Prop), P ys.length v → LCg.NsObj oC m₂ → m₂ x = some v → Fr h₀ L h m → News h₀ L h ((I, oI) :: (C, oC) :: (D, LCg.lst ys) :: news) → LCg.Off3 I C D news → ((@Ne Nat I C) ∧ (@Ne Nat I D) ∧ (@Ne Nat C D)) →
      wpAny (model prog w) A (eval elt (compEnvC scope cl C env)) (LCg.CompEnd h₀ L m { s with heap := h, toks := tk } I oI C oC D (LCg.lst ys) S (fun y news' => Inv (ys ++ [y]) news')) E' { s with heap := h, toks := tk }) :
    ∀ (k i : Nat) (ys : List Value) (news : Led), i + k = n → ys.length = i → Inv ys news → LCg.CompRest prog w A h₀ L m env elt x scope cl s S P Fin k i ys news
  | 0, i, ys, news, hn, hy, hI => LCg.CompRest.zero (fin ys news (by omega) hI)
  | k + 1, i, ys, news, hn, hy, hI => by
    refine LCg.CompRest.succ ?_
    intro v I oI C oC D m₂ h tk E' hP hC hx F N off ne
    subst hy
    refine wpAny_mono (step ys news (by omega) hI v I oI C oC D m₂ h tk E' hP hC hx F N off ne) (fun y s₂ hE => ?_) fun _ _ e => e
    refine comp_end_mono hE fun y n' hI' => ?_
    exact comp_ind Inv n fin step k (ys.length + 1) (ys ++ [y]) n' (by omega) (by simp) hI'
theorem item_any {prog : Program} {w : World} {A : Around} {E : Value → Shared → Prop} {s : Shared} {value slice : Expr} {l : Addr} {vs : List Value} {k : Int} {u : Tok} {Q : Value → Shared → Prop}
    (hl : s.heap.IsList l vs.toArray) (h0 : 0 ≤ k) (hhi : k < vs.length) (hb : k < 1000000) (h : ∀ v, vs[k.toNat]? = some v → v ∈ vs → Q v s)
    (hs : subscripted slice false (.ref l) (.int k u) = operate [.ref l, .int k u] (getItem (.ref l) (.int k u)) := by with_unfolding_all rfl) :
    wpAny (model prog w) A (subscriptTail value slice (.ref l) (.int k u)) Q E s := by
  have hx : vs[k.toNat]? = some vs[k.toNat] := List.getElem?_eq_getElem (by omega)
  exact tail_any hl.typeIs slot_list_getitem.lookup (wpAny_getItem_list hl h0 (by omega) (by simpa using hx) (h _ hx (List.getElem_mem _))) hs
end Mine
end
section
open PySem PySem.Spec PySem.Calls PySem.W PyProof.Rows
namespace Mine
set_option maxRecDepth 100000
noncomputable def nbIs : Option Bool → Value → Bool
  | none, .none => true
  | some b, .bool c => b == c
  | _, _ => false
theorem nb_shape {k : Option Bool} {v : Value} (h : nbIs k v = true) : (k = none ∧ v = .none) ∨ (∃ b, k = some b ∧ v = .bool b) := by
  cases k with
  | none => cases v <;> first | exact .inl ⟨rfl, rfl⟩ | cases h
  | some b =>
    cases v with
    | bool c => have : b = c := by simpa [nbIs] using h
                exact .inr ⟨b, rfl, by rw [this]⟩
    | _ => cases h
noncomputable def nbHash (w : World) : Option Bool → Int
  | none => hashW w.params .none
  | some b => hashW w.params (.bool b)
theorem eqB_nn {prog : Program} {w : World} {A : Around} {E : Value → Shared → Prop} {s : Shared} {Q : Bool → Shared → Prop} (hq : Q true s) : wpAny (model prog w) A (eqBool .none .none) Q E s := by
  unfold eqBool
  refine wpAny_holding ?_
  rw [if_pos (beq_self_eq_true _)]
  exact wpAny_bind (wpAny_rule (wpAny_pure hq))
theorem eqB_nb {prog : Program} {w : World} {A : Around} {E : Value → Shared → Prop} {s : Shared} {y : Bool} {Q : Bool → Shared → Prop} (hq : Q false s) : wpAny (model prog w) A (eqBool Value.none (Value.bool y)) Q E s := by
  unfold eqBool
  refine wpAny_holding ?_
  by_cases he : (Value.none == (Value.bool y)) = true
  · rw [if_pos he]
    have e := eq_of_beq he
    cases e
  · rw [if_neg he]
    show wpAny _ _ (richCompare .Eq Value.none (Value.bool y) >>= fun r => truthOfDropped r) Q E s
    refine wpAny_bind ?_
    exact (show wpAny _ _ (compareOp .Eq Value.none (Value.bool y)) _ E s from EqNone.eq_none_bool (wpAny_truthy_bool hq))
theorem eqB_bn {prog : Program} {w : World} {A : Around} {E : Value → Shared → Prop} {s : Shared} {x : Bool} {Q : Bool → Shared → Prop} (hq : Q false s) : wpAny (model prog w) A (eqBool (Value.bool x) Value.none) Q E s := by
  unfold eqBool
  refine wpAny_holding ?_
  by_cases he : ((Value.bool x) == Value.none) = true
  · rw [if_pos he]
    have e := eq_of_beq he
    cases e
  · rw [if_neg he]
    show wpAny _ _ (richCompare .Eq (Value.bool x) Value.none >>= fun r => truthOfDropped r) Q E s
    refine wpAny_bind ?_
    exact (show wpAny _ _ (compareOp .Eq (Value.bool x) Value.none) _ E s from EqNone.eq_bool_none (wpAny_truthy_bool hq))
theorem eqB_bb {prog : Program} {w : World} {A : Around} {E : Value → Shared → Prop} {s : Shared} {x y : Bool} {Q : Bool → Shared → Prop} (hq : Q (x == y) s) : wpAny (model prog w) A (eqBool (Value.bool x) (Value.bool y)) Q E s := by
  unfold eqBool
  refine wpAny_holding ?_
  by_cases he : ((Value.bool x) == (Value.bool y)) = true
  · rw [if_pos he]
    have e := eq_of_beq he
    injection e with e; subst e; refine wpAny_bind (wpAny_rule (wpAny_pure ?_)); rw [beq_self_eq_true] at hq; exact hq
  · rw [if_neg he]
    show wpAny _ _ (richCompare .Eq (Value.bool x) (Value.bool y) >>= fun r => truthOfDropped r) Q E s
    refine wpAny_bind ?_
    exact (show wpAny _ _ (compareOp .Eq (Value.bool x) (Value.bool y)) _ E s from eq_bool (wpAny_truthy_bool hq))
noncomputable def nbKind (prog : Program) (w : World) : KeyKind prog w (Option Bool) where
  is := nbIs
  hash := nbHash w
  inj := fun v a b ha hb => by
    rcases nb_shape ha with ⟨rfl, rfl⟩ | ⟨x, rfl, rfl⟩ <;> rcases nb_shape hb with ⟨rfl, h⟩ | ⟨y, rfl, h⟩
    · rfl
    · cases h
    · cases h
    · injection h with h; rw [h]
  byValue := fun k v h => by rcases nb_shape h with ⟨rfl, rfl⟩ | ⟨x, rfl, rfl⟩ <;> rfl
  pyHash := fun {A E s k v Q} hv h => by
    rcases nb_shape hv with ⟨rfl, rfl⟩ | ⟨b, rfl, rfl⟩
    · exact pyHash_slot (T := "NoneType") rfl F.slot_NoneType_hash F.entry_NoneType_hash (F.args_NoneType_hash_1 _) (beq_builtin_none _) (.inl rfl) (wpAny_bind (wpAny_pure (wpAny_bind (wpAny_mkInt (wpAny_pure ⟨_, _, rfl, h⟩)))))
    · refine pyHash_slot (T := "bool") rfl F.slot_bool_hash entry_int_hash (args_int_hash _) (beq_builtin_none _) (.inl rfl) ?_
      cases b
      · exact (show wpAny _ _ (do ret (← mkInt 0)) _ _ s from wpAny_bind (wpAny_mkInt (wpAny_pure ⟨_, _, rfl, h⟩)))
      · exact (show wpAny _ _ (do ret (← mkInt 1)) _ _ s from wpAny_bind (wpAny_mkInt (wpAny_pure ⟨_, _, rfl, h⟩)))
  eqBool := fun {A E s a b u v Q} hu hv h => by
    rcases nb_shape hu with ⟨rfl, rfl⟩ | ⟨x, rfl, rfl⟩ <;> rcases nb_shape hv with ⟨rfl, rfl⟩ | ⟨y, rfl, rfl⟩
    · exact eqB_nn h
    · exact eqB_nb h
    · exact eqB_bn h
    · have e : (decide (some x = some y)) = (x == y) := by cases x <;> cases y <;> rfl
      rw [e] at h
      exact eqB_bb h
  «strs» := fun k x t v h => by rcases nb_shape h with ⟨_, h⟩ | ⟨_, _, h⟩ <;> cases h
section
variable {prog : Program} {w : World} {A : Around} {E : Value → Shared → Prop} {s : Shared} {env : Env} {h₀ : Heap} {L d : Addr} {m : Str → Option Value} {news : List (Addr × Obj)} {g : Obj → List (Addr × Obj)} {o : Obj} {Q : Value → Shared → Prop}
theorem made_nb {vs : List (Value × Value)} {kvs : List (Option Bool × Value)} (F : Fr h₀ L s.heap m) (N : News h₀ L s.heap news) (U : UpdF d o news g) (hd : o.IsDictOf (nbKind prog w) []) (hc : Carries (nbKind prog w) vs kvs) (hm : merged [] kvs = kvs)
    (h : ∀ h' o', Fr h₀ L h' m → News h₀ L h' (g o') → o'.IsDictOf (nbKind prog w) kvs → Q (.ref d) { s with heap := h', toks := s.toks + vs.length }) : KdnMade prog w (nbKind prog w) d Q vs s := by
  obtain ⟨pre, post, rfl, hg, a, b⟩ := U.split
  have hm' := N (d, o) (List.mem_append_right _ (.head _))
  refine ⟨kvs, hc, Heap.dictOf_iff.mpr ⟨o, hm'.1, hd⟩, fun h' hmm hs => ?_⟩
  rw [hm] at hmm
  obtain ⟨o', ho', hd'⟩ := Heap.dictOf_iff.mp hmm
  exact h h' o' (F.change hs hm'.2.1 hm'.2.2) (hg o' ▸ N.setIn a b hs ho') hd'
theorem made_nb3 {v1 v2 v3 : Value} (F : Fr h₀ L s.heap m) (N : News h₀ L s.heap news) (U : UpdF d o news g) (hd : o.IsDictOf (nbKind prog w) [])
    (h : ∀ h' o', Fr h₀ L h' m → News h₀ L h' (g o') → o'.IsDictOf (nbKind prog w) [(none, v1), (some true, v2), (some false, v3)] → Q (.ref d) { s with heap := h', toks := s.toks + 3 }) : KdnMade prog w (nbKind prog w) d Q [(.none, v1), (.bool true, v2), (.bool false, v3)] s :=
  made_nb (kvs := [(none, v1), (some true, v2), (some false, v3)]) F N U hd ⟨rfl, rfl, rfl, rfl, rfl, rfl, trivial⟩ rfl h
theorem item_nb {value slice : Expr} {kvs : List (Option Bool × Value)} {k : Option Bool} {key v : Value} (N : News h₀ L s.heap news) (hm : (d, o) ∈ news) (hd : o.IsDictOf (nbKind prog w) kvs) (hk : nbIs k key = true) (hv : valueAt kvs k = some v)
    (h : Q v { s with toks := s.toks + 1 })
    (hs : subscripted slice false (.ref d) key = operate [.ref d, key] (getItem (.ref d) key) := by with_unfolding_all rfl) :
    wpAny (model prog w) A (subscriptTail value slice (.ref d) key) Q E s := by
  have hD : s.heap.DictOf (nbKind prog w) d kvs := Heap.dictOf_iff.mpr ⟨o, (N _ hm).1, hd⟩
  exact tail_any hD.mapOf.typeIs slot_dict_getitem.lookup (wpAny_getItem_of (knd := nbKind prog w) hk hD.mapOf hv h) hs
end
end Mine
end
section
open PySem PySem.Spec PySem.Calls PySem.W PyProof.Rows
namespace Mine
set_option maxRecDepth 100000
noncomputable def hexD (v : List UInt8) : Bool := [[48], [49], [50], [51], [52], [53], [54], [55], [56], [57], [97], [98], [99], [100], [101], [102]].any fun x => x == v
section
variable {prog : Program} {w : World} {A : Around} {E : Value → Shared → Prop} {s : Shared} {t u : Tok} {Q : Value → Shared → Prop}
theorem strip_len (l : List UInt8) : (stripW l).length ≤ l.length := by
  unfold stripW
  rw [List.length_reverse]
  have h1 : ∀ l : List UInt8, (l.dropWhile ws).length ≤ l.length := fun l => (List.dropWhile_sublist ws).length_le
  have := h1 (l.dropWhile ws).reverse
  have := h1 l
  simp only [List.length_reverse] at *
  omega
theorem strip_asc_ok (l : List UInt8) (ha : Asc l) : Asc (stripW l) := by
  intro c hc
  unfold stripW at hc
  rw [List.mem_reverse] at hc
  have := (List.dropWhile_sublist ws).subset hc
  rw [List.mem_reverse] at this
  exact ha c ((List.dropWhile_sublist ws).subset this)
theorem strip_rule {a : List UInt8} (hsz : a.length ≤ 16777216) (h : ∀ t' k, Q (.str (asc (stripW a)) t') { s with toks := k }) :
    wpAny (model prog w) A (call (.builtin "str.strip") [.str (asc a) t, .str blanksT u]) Q E s :=
  SCL.stripChars (fun t' k _ => by rw [strip_asc]; exact h t' k) (by rw [asc_len, sizeLine_eq]; exact hsz)
theorem lower_rule {a : List UInt8} (ha : Asc a) (hsz : a.length ≤ 5592405) (h : ∀ t' k, Q (.str (asc (a.map low)) t') { s with toks := k }) :
    wpAny (model prog w) A (call (.builtin "str.lower") [.str (asc a) t]) Q E s :=
  SCL.lower (by rw [asc_len]; exact hsz) (fun _ => by rw [lower_asc a ha]; exact h _ _)
theorem sl_1 (l : List UInt8) : Txt.slice (asc l) none (some 1) = asc (l.take 1) := slice_ns l 1
theorem sl_2 (l : List UInt8) : Txt.slice (asc l) none (some 2) = asc (l.take 2) := slice_ns l 2
theorem sl_d1 (l : List UInt8) (h : 1 ≤ l.length) : Txt.slice (asc l) (some 1) none = asc (l.drop 1) := slice_sn l 1 h
theorem sl_d2 (l : List UInt8) (h : 2 ≤ l.length) : Txt.slice (asc l) (some 2) none = asc (l.drop 2) := slice_sn l 2 h
theorem sl_23 (l : List UInt8) : Txt.slice (asc l) (some 2) (some 3) = asc ((l.drop 2).take 1) := slice_nat l 2 3 (by omega)
theorem cut_1 {value slice : Expr} {h₀ : Heap} {L : Addr} {m : Str → Option Value} {news : Led} {a : List UInt8} {ui : Tok} (hF : Fr h₀ L s.heap m) (hN : News h₀ L s.heap news) (hsz : a.length ≤ 1000) (h : ∀ h' t' k, Fr h₀ L h' m → News h₀ L h' news → Q (.str (asc (a.take 1)) t') { s with heap := h', toks := k })
    (hs : subscripted slice false (.str (asc a) t) (.ref s.heap.objs.size) = operate [.ref s.heap.objs.size, .str (asc a) t] (getItem (.str (asc a) t) (.ref s.heap.objs.size)) := by with_unfolding_all rfl)
    (ht : ∀ r, letTemporaryGo value (.str (asc a) t) r = pure () := by intro _; with_unfolding_all rfl) :
    wpAny (model prog w) A (subscriptTail value slice (.str (asc a) t) (.ref s.heap.objs.size)) Q E { s with heap := s.heap.push { cls := .type "slice", data := .fields #[.none, .int 1 ui, .none] } } :=
  slice_strN_ns hF hN (fun h' t' k hf hn => by rw [sl_1]; exact h h' t' k hf hn) hs ht (by rw [asc_len, sizeLine_eq]; omega)
theorem cut_2 {value slice : Expr} {h₀ : Heap} {L : Addr} {m : Str → Option Value} {news : Led} {a : List UInt8} {ui : Tok} (hF : Fr h₀ L s.heap m) (hN : News h₀ L s.heap news) (hsz : a.length ≤ 1000) (h : ∀ h' t' k, Fr h₀ L h' m → News h₀ L h' news → Q (.str (asc (a.take 2)) t') { s with heap := h', toks := k })
    (hs : subscripted slice false (.str (asc a) t) (.ref s.heap.objs.size) = operate [.ref s.heap.objs.size, .str (asc a) t] (getItem (.str (asc a) t) (.ref s.heap.objs.size)) := by with_unfolding_all rfl)
    (ht : ∀ r, letTemporaryGo value (.str (asc a) t) r = pure () := by intro _; with_unfolding_all rfl) :
    wpAny (model prog w) A (subscriptTail value slice (.str (asc a) t) (.ref s.heap.objs.size)) Q E { s with heap := s.heap.push { cls := .type "slice", data := .fields #[.none, .int 2 ui, .none] } } :=
  slice_strN_ns hF hN (fun h' t' k hf hn => by rw [sl_2]; exact h h' t' k hf hn) hs ht (by rw [asc_len, sizeLine_eq]; omega)
theorem cut_d1 {value slice : Expr} {h₀ : Heap} {L : Addr} {m : Str → Option Value} {news : Led} {a : List UInt8} {ui : Tok} (hF : Fr h₀ L s.heap m) (hN : News h₀ L s.heap news) (hsz : a.length ≤ 1000) (hl : 1 ≤ a.length) (h : ∀ h' t' k, Fr h₀ L h' m → News h₀ L h' news → Q (.str (asc (a.drop 1)) t') { s with heap := h', toks := k })
    (hs : subscripted slice false (.str (asc a) t) (.ref s.heap.objs.size) = operate [.ref s.heap.objs.size, .str (asc a) t] (getItem (.str (asc a) t) (.ref s.heap.objs.size)) := by with_unfolding_all rfl)
    (ht : ∀ r, letTemporaryGo value (.str (asc a) t) r = pure () := by intro _; with_unfolding_all rfl) :
    wpAny (model prog w) A (subscriptTail value slice (.str (asc a) t) (.ref s.heap.objs.size)) Q E { s with heap := s.heap.push { cls := .type "slice", data := .fields #[.int 1 ui, .none, .none] } } :=
  slice_strN_sn hF hN (fun h' t' k hf hn => by rw [sl_d1 _ hl]; exact h h' t' k hf hn) hs ht (by rw [asc_len, sizeLine_eq]; omega)
theorem cut_d2 {value slice : Expr} {h₀ : Heap} {L : Addr} {m : Str → Option Value} {news : Led} {a : List UInt8} {ui : Tok} (hF : Fr h₀ L s.heap m) (hN : News h₀ L s.heap news) (hsz : a.length ≤ 1000) (hl : 2 ≤ a.length) (h : ∀ h' t' k, Fr h₀ L h' m → News h₀ L h' news → Q (.str (asc (a.drop 2)) t') { s with heap := h', toks := k })
    (hs : subscripted slice false (.str (asc a) t) (.ref s.heap.objs.size) = operate [.ref s.heap.objs.size, .str (asc a) t] (getItem (.str (asc a) t) (.ref s.heap.objs.size)) := by with_unfolding_all rfl)
    (ht : ∀ r, letTemporaryGo value (.str (asc a) t) r = pure () := by intro _; with_unfolding_all rfl) :
    wpAny (model prog w) A (subscriptTail value slice (.str (asc a) t) (.ref s.heap.objs.size)) Q E { s with heap := s.heap.push { cls := .type "slice", data := .fields #[.int 2 ui, .none, .none] } } :=
  slice_strN_sn hF hN (fun h' t' k hf hn => by rw [sl_d2 _ hl]; exact h h' t' k hf hn) hs ht (by rw [asc_len, sizeLine_eq]; omega)
theorem cut_23 {value slice : Expr} {h₀ : Heap} {L : Addr} {m : Str → Option Value} {news : Led} {a : List UInt8} {ui uj : Tok} (hF : Fr h₀ L s.heap m) (hN : News h₀ L s.heap news) (hsz : a.length ≤ 1000) (h : ∀ h' t' k, Fr h₀ L h' m → News h₀ L h' news → Q (.str (asc ((a.drop 2).take 1)) t') { s with heap := h', toks := k })
    (hs : subscripted slice false (.str (asc a) t) (.ref s.heap.objs.size) = operate [.ref s.heap.objs.size, .str (asc a) t] (getItem (.str (asc a) t) (.ref s.heap.objs.size)) := by with_unfolding_all rfl)
    (ht : ∀ r, letTemporaryGo value (.str (asc a) t) r = pure () := by intro _; with_unfolding_all rfl) :
    wpAny (model prog w) A (subscriptTail value slice (.str (asc a) t) (.ref s.heap.objs.size)) Q E { s with heap := s.heap.push { cls := .type "slice", data := .fields #[.int 2 ui, .int 3 uj, .none] } } :=
  slice_strN_ss hF hN (fun h' t' k hf hn => by rw [sl_23]; exact h h' t' k hf hn) hs ht (by rw [asc_len, sizeLine_eq]; omega)
theorem eq_lit {x : PySem.Str} {a b : List UInt8} (e : x = asc b) (h : Q (.bool (a == b)) s) : wpAny (model prog w) A (compareOp .Eq (.str (asc a) t) (.str x u)) Q E s := by
  rw [e]; exact eq_asc h
theorem ne_lit {x : PySem.Str} {a b : List UInt8} (e : x = asc b) (h : Q (.bool (a != b)) s) : wpAny (model prog w) A (compareOp .NotEq (.str (asc a) t) (.str x u)) Q E s := by
  rw [e]; exact ne_asc h
theorem in_pm {r : Addr} {x1 x2 : PySem.Str} {a b1 b2 : List UInt8} {t1 t2 : Tok} (ht : IsTup s.heap r #[.str x1 t1, .str x2 t2]) (e1 : x1 = asc b1) (e2 : x2 = asc b2) (h : Q (.bool (b1 == a || b2 == a)) s) : wpAny (model prog w) A (compareOp .In (.str (asc a) t) (.ref r)) Q E s := by
  refine in_tuple_strs (ys := [x1, x2]) ht (.cons _ _ (.cons _ _ .nil)) ?_
  rw [e1, e2]
  simp only [List.any_cons, List.any_nil, Bool.or_false, asc_beq]
  exact h
theorem in_hex {r : Addr} {ys : List Value} {a : List UInt8} (ht : IsTup s.heap r ys.toArray) (hc : CarriedAll ys ((signs (PySem.Str.ofString "0123456789abcdef")).map PyData.str)) (h : Q (.bool (hexD a)) s) : wpAny (model prog w) A (compareOp .In (.str (asc a) t) (.ref r)) Q E s := by
  refine in_tuple_strs (ys := signs (PySem.Str.ofString "0123456789abcdef")) ht (StrsAre.of_carried hc) ?_
  have e : signs (PySem.Str.ofString "0123456789abcdef") = ([[48], [49], [50], [51], [52], [53], [54], [55], [56], [57], [97], [98], [99], [100], [101], [102]] : List (List UInt8)).map asc := by decide +kernel
  rw [e, List.any_map]
  have e2 : ((fun x => x == asc a) ∘ asc) = (fun x : List UInt8 => x == a) := by funext x; exact asc_beq x a
  rw [e2]
  exact h
end
theorem len_pos {a : List UInt8} (h : (a != []) = true) : 1 ≤ a.length := by
  cases a with
  | nil => cases h
  | cons x a => simp
theorem len_two {a : List UInt8} (h : (a.take 2 == [48, 120]) = true) : 2 ≤ a.length := by
  have := congrArg List.length (eq_of_beq h)
  rw [List.length_take] at this
  simp only [List.length_cons, List.length_nil] at this
  omega
noncomputable def take1 (w : List UInt8) : List UInt8 := w.take 1
noncomputable def wSign (w : List UInt8) : List UInt8 := if w.take 1 = [45] ∨ w.take 1 = [43] then w.drop 1 else w
noncomputable def wBelow (w : List UInt8) : Bool := w.take 1 == [45]
noncomputable def wMark (w : List UInt8) (base : Int) : Bool := (decide (base = 0 ∨ base = 16)) && (w.take 2 == [48, 120]) && hexD ((w.drop 2).take 1)
noncomputable def findI (c : Int) : Int := Txt.find d36 ⟨#[c.toNat]⟩
noncomputable def wFold (b : Int) : List Int → Int → Option Int
  | [], f => some f
  | c :: cs, f => if findI c < 0 ∨ b ≤ findI c then none else wFold b cs (f * b + findI c)
noncomputable def codesU (w : List UInt8) : List Int := w.map fun b => (b.toNat : Int)
structure WfI (b : Int) (pre : List Int) (f : Int) : Prop where
  eq : wFold b pre 0 = some f
  lt : f < 36 ^ pre.length
abbrev WfP (b : Int) (pre : List Int) (f : Int) : Prop := WfI b pre f ∧ 0 ≤ f ∧ f < 4738381338321616896
noncomputable def wWord (l : List UInt8) (base : Int) : List UInt8 := if wMark (wSign l) base then (wSign l).drop 2 else wSign l
noncomputable def wBase (l : List UInt8) (base : Int) : Int := if wMark (wSign l) base then 16 else if base = 0 then 10 else base
noncomputable def worthW (w : List UInt8) (base : Int) : Option Int :=
  match wFold (wBase w base) (codesU (wWord w base)) 0 with
  | none => none
  | some f => if wWord w base = [] then none else some (if wBelow w = true then -f else f)
noncomputable def worth (l : List UInt8) (base : Int) : Option Int := worthW ((stripW l).map low) base
theorem pm_yes {w0 : List UInt8} (h : ([45] == w0.take 1 || [43] == w0.take 1) = true) : w0.drop 1 = wSign w0 := by
  unfold wSign
  rw [Bool.or_eq_true, beq_iff_eq, beq_iff_eq] at h
  rw [if_pos (by rcases h with h | h; exact .inl h.symm; exact .inr h.symm)]
theorem pm_no {w0 : List UInt8} (h : ([45] == w0.take 1 || [43] == w0.take 1) = false) : w0 = wSign w0 := by
  unfold wSign
  rw [Bool.or_eq_false_iff, beq_eq_false_iff_ne, beq_eq_false_iff_ne] at h
  rw [if_neg (by rintro (q | q); exact h.1 q.symm; exact h.2 q.symm)]
theorem pm_nil {w0 : List UInt8} (h : (w0 != []) = false) : w0 = wSign w0 := by
  have : w0 = [] := by simpa using h
  subst this; rfl
theorem wSign_len (w0 : List UInt8) : (wSign w0).length ≤ w0.length := by
  unfold wSign
  split
  · simp
  · exact Nat.le_refl _
theorem mk_yes {w : List UInt8} {base : Int} (h1 : ([0, 16].any fun x => x == base) = true) (h2 : (w.take 2 == [48, 120]) = true) (h3 : hexD ((w.drop 2).take 1) = true) : wMark w base = true := by
  have hb : base = 0 ∨ base = 16 := by
    simp only [List.any_cons, List.any_nil, Bool.or_false, Bool.or_eq_true, beq_iff_eq] at h1
    omega
  unfold wMark
  rw [decide_eq_true hb, h2, h3]; rfl
theorem mk_no1 {w : List UInt8} {base : Int} (h1 : ([0, 16].any fun x => x == base) = false) : wMark w base = false := by
  have hb : ¬ (base = 0 ∨ base = 16) := by
    simp only [List.any_cons, List.any_nil, Bool.or_false, Bool.or_eq_false_iff, beq_eq_false_iff_ne] at h1
    omega
  unfold wMark
  rw [decide_eq_false hb]; rfl
theorem mk_no2 {w : List UInt8} {base : Int} (h2 : (w.take 2 == [48, 120]) = false) : wMark w base = false := by
  unfold wMark
  rw [h2]; simp
theorem mk_no3 {w : List UInt8} {base : Int} (h3 : hexD ((w.drop 2).take 1) = false) : wMark w base = false := by
  unfold wMark
  rw [h3]; simp
noncomputable def wB1 (w : List UInt8) (base : Int) : Int := if wMark (wSign w) base then 16 else base
theorem wWord_yes {w : List UInt8} {base : Int} (h : wMark (wSign w) base = true) : (wSign w).drop 2 = wWord w base ∧ 16 = wB1 w base := by
  unfold wWord wB1; rw [if_pos h, if_pos h]; exact ⟨rfl, rfl⟩
theorem wWord_no {w : List UInt8} {base : Int} (h : wMark (wSign w) base = false) : wSign w = wWord w base ∧ base = wB1 w base := by
  have h' : ¬ wMark (wSign w) base = true := by rw [h]; exact Bool.false_ne_true
  unfold wWord wB1; rw [if_neg h', if_neg h']; exact ⟨rfl, rfl⟩
theorem wBase_eq (w : List UInt8) (base : Int) : wBase w base = if wB1 w base = 0 then 10 else wB1 w base := by
  unfold wBase wB1
  split
  · rfl
  · rfl
theorem wWord_len (w : List UInt8) (base : Int) : (wWord w base).length ≤ w.length := by
  have := wSign_len w
  unfold wWord
  split
  · rw [List.length_drop]; omega
  · exact this
theorem wB1_rng {w : List UInt8} {base : Int} (hb : base = 0 ∨ (2 ≤ base ∧ base ≤ 36)) : wB1 w base = 0 ∨ (2 ≤ wB1 w base ∧ wB1 w base ≤ 36) := by
  unfold wB1; split <;> omega
theorem str_map {m' : PySem.Str → Option Value} {x : PySem.Str} {a b : List UInt8} {t : Tok} (h : m' x = some (.str (asc a) t)) (e : a = b) : m' x = some (.str (asc b) t) := by rw [h, e]
theorem int_map {m' : PySem.Str → Option Value} {x : PySem.Str} {a b : Int} {t : Tok} (h : m' x = some (.int a t)) (e : a = b) : m' x = some (.int b t) := by rw [h, e]
theorem wFold_snoc (b : Int) (c : Int) (post : List Int) : ∀ (pre : List Int) (f0 f : Int), wFold b pre f0 = some f → wFold b (pre ++ c :: post) f0 = wFold b (c :: post) f
  | [], f0, f, h => by
    have : f0 = f := by simpa [wFold] using h
    rw [this]; rfl
  | x :: pre, f0, f, h => by
    rw [wFold] at h
    rw [List.cons_append, wFold]
    split
    · rename_i hb; rw [if_pos hb] at h; cases h
    · rename_i hb; rw [if_neg hb] at h; exact wFold_snoc b c post pre _ _ h
theorem codes_asc (w : List UInt8) : KStt.codes (asc w) = codesU w := by
  unfold KStt.codes codesU asc
  simp only [List.map_map]
  rfl
theorem wf_start {b : Int} : WfP b [] 0 := ⟨⟨rfl, by decide⟩, by omega, by omega⟩
theorem wpow36 {n : Nat} (h : n ≤ 12) : (36 : Int) ^ n ≤ 4738381338321616896 := by
  have : ∀ n : _root_.Fin 13, (36 : Int) ^ n.val ≤ 4738381338321616896 := by decide +kernel
  exact this ⟨n, by omega⟩
theorem wf_turn {L w0 : List UInt8} {base f : Int} {pre post : List Int} {n : Nat} (hw : w0 = L) (hI : WfI (wBase L base) pre f) (h0 : 0 ≤ f) (hW : (wWord w0 base).length ≤ 12) (hb2 : 2 ≤ wBase w0 base ∧ wBase w0 base ≤ 36)
    (kEq : KStt.codes (asc (wWord w0 base)) = pre ++ (n : Int) :: post) (h1 : ¬ Txt.find d36 ⟨#[n]⟩ < 0) (h2 : ¬ wBase w0 base ≤ Txt.find d36 ⟨#[n]⟩) : WfP (wBase L base) (pre ++ [(n : Int)]) (f * wBase w0 base + Txt.find d36 ⟨#[n]⟩) := by
  subst hw
  have hl := congrArg List.length kEq
  rw [codes_asc] at hl
  unfold codesU at hl
  rw [List.length_map, List.length_append, List.length_cons] at hl
  have e : findI (n : Int) = Txt.find d36 ⟨#[n]⟩ := rfl
  generalize wBase w0 base = b at *
  generalize Txt.find d36 ⟨#[n]⟩ = d at *
  have m0 : 0 ≤ f * b := Int.mul_nonneg h0 (by omega)
  have m1 : f * b ≤ (36 ^ pre.length - 1) * 36 := Int.mul_le_mul (by have := hI.lt; omega) hb2.2 (by omega) (by have := hI.lt; omega)
  have g : f * b + d < 36 ^ (pre.length + 1) := by rw [Int.pow_succ]; omega
  have p := wpow36 (n := pre.length + 1) (by omega)
  refine ⟨⟨?_, ?_⟩, by omega, by omega⟩
  · rw [wFold_snoc b (n : Int) [] pre 0 f hI.eq, wFold, if_neg (by rw [e]; omega), wFold, e]
  · rw [List.length_append, List.length_singleton]; exact g
theorem worth_bad {l w0 : List UInt8} {base f : Int} {pre post : List Int} {n : Nat} (hw : w0 = (stripW l).map low) (hI : WfI (wBase ((stripW l).map low) base) pre f)
    (kEq : KStt.codes (asc (wWord w0 base)) = pre ++ (n : Int) :: post) (h : Txt.find d36 ⟨#[n]⟩ < 0 ∨ wBase w0 base ≤ Txt.find d36 ⟨#[n]⟩) : worth l base = none := by
  unfold worth worthW
  rw [← hw] at hI ⊢
  have h' : findI (n : Int) < 0 ∨ wBase w0 base ≤ findI (n : Int) := h
  rw [← codes_asc, kEq, wFold_snoc _ _ _ _ _ _ hI.eq, wFold, if_pos h']
theorem worth_nil {l w0 : List UInt8} {base f : Int} (hw : w0 = (stripW l).map low) (hI : WfI (wBase ((stripW l).map low) base) (KStt.codes (asc (wWord w0 base))) f)
    (h : (wWord w0 base == []) = true) : worth l base = none := by
  unfold worth worthW
  rw [← hw] at hI ⊢
  rw [← codes_asc, hI.eq]
  exact if_pos (eq_of_beq h)
theorem worth_some {l w0 : List UInt8} {base f : Int} (hw : w0 = (stripW l).map low) (hI : WfI (wBase ((stripW l).map low) base) (KStt.codes (asc (wWord w0 base))) f)
    (h : (wWord w0 base == []) = false) : worth l base = some (if wBelow w0 = true then -f else f) := by
  unfold worth worthW
  rw [← hw] at hI ⊢
  rw [← codes_asc, hI.eq]
  exact if_neg (fun q => by rw [q] at h; cases h)
theorem worth_neg {l w0 : List UInt8} {base f : Int} (hw : w0 = (stripW l).map low) (hI : WfI (wBase ((stripW l).map low) base) (KStt.codes (asc (wWord w0 base))) f)
    (h : (wWord w0 base == []) = false) (hb : wBelow w0 = true) : worth l base = some (-f) := by rw [worth_some hw hI h, if_pos hb]
theorem worth_pos {l w0 : List UInt8} {base f : Int} (hw : w0 = (stripW l).map low) (hI : WfI (wBase ((stripW l).map low) base) (KStt.codes (asc (wWord w0 base))) f)
    (h : (wWord w0 base == []) = false) (hb : wBelow w0 = false) : worth l base = some f := by rw [worth_some hw hI h, if_neg (by rw [hb]; exact Bool.false_ne_true)]
end Mine
end
open PySem PySem.Spec PySem.Calls PySem.W PyProof.Rows
namespace Mine
local macro_rules | `(tactic| walk_at $s:str) => `(tactic| k_extra $s)
local macro_rules | `(tactic| k_enter) => `(tactic| k_extra "kenter")
local macro_rules | `(tactic| k_mem) => `(tactic| k_extra "mem")
local macro_rules | `(tactic| k_all) => `(tactic| k_extra "all")
local macro_rules | `(tactic| k_ne) => `(tactic| k_extra "ne")
local macro_rules | `(tactic| k_get) => `(tactic| k_extra "get")
section
set_option maxRecDepth 100000
set_option maxHeartbeats 8000000
variable {w : World} {p : Program} {loose : List Str} {mean : ExcName → Option Value} {mg mb : Str → Option Value}
theorem rows_C1_0 : True := by
  k_with_none
  k_with "enter" => (refine' code_defP ?k1Zq ?k2Zq ?k3Zq ?k4Zq ?k5Zq ?kAZq ?kFZq ?kKZq ?k6Zq ?p1Zq ?p2Zq ?p3Zq ?k7Zq ?k8Zq ?k9Zq ?kBZq ?_ ?c2Zq ?c3Zq ?c4Zq ?c5Zq; (case kAZq => exact rfl); (case kFZq => exact rfl); (case kKZq => assumption); (case k1Zq => k_asm); (case k2Zq => k_asm); (case k3Zq => k_asm); (case k4Zq => k_asm); (case k5Zq => k_asm); (case k6Zq => k_is); (case p1Zq => conv => lhs; whnf); (case p2Zq => conv => lhs; whnf); (case p3Zq => conv => lhs; whnf); (case k7Zq => k_is); (case k8Zq => ktr_room); (case k9Zq => exact BindsTo.of_eq rfl); (case c5Zq => decide); (case kBZq => exact locs rfl); (case c2Zq => exact rfl); (case c3Zq => exact rfl); (case c4Zq => exact rfl); k_whole; intro g' L' h' FG' F' N' B' X' T'; (try dsimp only); (try k_lift B'); (try k_fold))
  k_with "kenter" => (refine' code_defP ?k1Zq ?k2Zq ?k3Zq ?k4Zq ?k5Zq ?kAZq ?kFZq ?kKZq ?k6Zq ?p1Zq ?p2Zq ?p3Zq ?k7Zq ?k8Zq ?k9Zq ?kBZq ?_ ?c2Zq ?c3Zq ?c4Zq ?c5Zq; (case kAZq => exact rfl); (case kFZq => exact rfl); (case kKZq => exact rfl); (case k1Zq => k_asm); (case k2Zq => k_asm); (case k3Zq => k_asm); (case k4Zq => k_asm); (case k5Zq => k_asm); (case k6Zq => k_is); (case p1Zq => conv => lhs; whnf); (case p2Zq => conv => lhs; whnf); (case p3Zq => conv => lhs; whnf); (case k7Zq => k_is); (case k8Zq => k_room); (case k9Zq => first | exact BindsTo.of_eq rfl | exact binds_K (by k_in) rfl (by k_is) rfl rfl rfl); (case c5Zq => decide); (case kBZq => exact locs rfl); (case c2Zq => exact rfl); (case c3Zq => exact rfl); (case c4Zq => exact rfl); k_whole; intro g' L' h' FG' F' N' B' X' T'; (try dsimp only); (try k_lift B'); (try k_fold))
  k_with "compareOp In int bytes" => (k_here; k_dflt (first | refine in_bytes_u8 ?_ | refine in_bytes (by omega) ?_))
  k_with "mem" => (assumption)
  k_with "ite" => (first | with_reducible refine ite_tt ?_ | with_reducible refine ite_ff ?_ | with_reducible refine ite_T ?_ | with_reducible refine ite_F ?_ | with_reducible refine split_not ?_)
  trivial
noncomputable def blank (o : Int) : Bool := o == 32 || o == 9 || o == 10 || o == 11 || o == 12 || o == 13
noncomputable def digitOf (o : Int) : Int := if 48 ≤ o ∧ o ≤ 57 then o - 48 else if 97 ≤ o ∧ o ≤ 122 then o - 87 else if 65 ≤ o ∧ o ≤ 90 then o - 55 else -1
theorem digit_of_ct (o : Int) (t : Tok) (news : Led) :
    Ct w p loose mean mg mb 141 [.int o t] news 1 (fun t => .int (digitOf o) t) (fun _ => news) (fun _ => True) := by
  (unfold Ct; k_fill; intro dpZ unZ gdZ cnZ csZ aZ ccdZ clZ outerZ AZ baseZ hZ LZ mZ sZ QZ EZ BZ FZ XZ NZ TZ hkZ hdZ huZ hret; refine wpAny_call ?_; k_dflt k_extra "enter"; k_steps)
  all_goals (refine Ct.fin hret (by k_asm) (by k_asm) ?_; exact ex_int (by unfold digitOf; (repeat' split) <;> omega))
theorem blank_u8 (b : UInt8) : (#[32, 9, 10, 11, 12, 13] : Array UInt8).contains b = blank b.toNat := by
  have : ∀ n : _root_.Fin 256, (#[32, 9, 10, 11, 12, 13] : Array UInt8).contains (UInt8.ofNat n.val) = blank (UInt8.ofNat n.val).toNat := by decide +kernel
  have h := this ⟨b.toNat, b.toNat_lt⟩
  rw [UInt8.ofNat_toNat] at h
  exact h
theorem is_blank_u8 (b : UInt8) (t : Tok) (news : Led) :
    Ct w p loose mean mg mb 134 [.int (b.toNat : Int) t] news 1 (fun (_ : Unit) => .bool (blank b.toNat)) (fun _ => news) (fun _ => True) := by
  (unfold Ct; k_fill; intro dpZ unZ gdZ cnZ csZ aZ ccdZ clZ outerZ AZ baseZ hZ LZ mZ sZ QZ EZ BZ FZ XZ NZ TZ hkZ hdZ huZ hret; refine wpAny_call ?_; k_dflt k_extra "enter"; k_steps)
  all_goals (refine Ct.fin hret (by k_asm) (by k_asm) ?_; exact ex_bool (blank_u8 b))
theorem wrap_mask (o : Int) : Builtin.bitAnd o (1 * 2 ^ Int.toNat 64 - 1) = o % 18446744073709551616 := by
  have := kbt_mask o 64
  have e : (1 * 2 ^ Int.toNat 64 - 1 : Int) = 2 ^ 64 - 1 := by decide
  have e2 : (2 ^ 64 : Int) = 18446744073709551616 := by decide
  rw [e, this, e2]
theorem wrap_ct (o : Int) (t t' : Tok) (news : Led) (ho : -9223372036854775808 ≤ o ∧ o < 9223372036854775808) :
    Ct w p loose mean mg mb 127 [.int o t, .int 64 t'] news 1 (fun t => .int o t) (fun _ => news) (fun _ => True) := by
  (unfold Ct; k_fill; intro dpZ unZ gdZ cnZ csZ aZ ccdZ clZ outerZ AZ baseZ hZ LZ mZ sZ QZ EZ BZ FZ XZ NZ TZ hkZ hdZ huZ hret; refine wpAny_call ?_; k_dflt k_extra "enter"; k_steps)
  all_goals (refine Ct.fin hret (by k_asm) (by k_asm) ?_; refine ex_int ?_)
  all_goals (
    have e64 : (1 * 2 ^ Int.toNat 64 : Int) = 18446744073709551616 := by decide
    have e63 : (1 * 2 ^ (64 - 1 : Int).toNat : Int) = 9223372036854775808 := by decide
    simp only [wrap_mask, e63] at *
    (try simp only [e64])
    omega)
theorem is_number_int (i : Int) (t : Tok) (news : Led) :
    Ct w p loose mean mg mb 106 [.int i t] news 1 (fun (_ : Unit) => .bool true) (fun _ => news) (fun _ => True) := by
  (unfold Ct; k_fill; intro dpZ unZ gdZ cnZ csZ aZ ccdZ clZ outerZ AZ baseZ hZ LZ mZ sZ QZ EZ BZ FZ XZ NZ TZ hkZ hdZ huZ hret; refine wpAny_call ?_; k_dflt k_extra "enter"; k_steps)
  all_goals (refine Ct.fin hret (by k_asm) (by k_asm) ?_; exact ex_bool rfl)
theorem is_number_bool (i : Bool) (news : Led) :
    Ct w p loose mean mg mb 106 [.bool i] news 1 (fun (_ : Unit) => .bool false) (fun _ => news) (fun _ => True) := by
  (unfold Ct; k_fill; intro dpZ unZ gdZ cnZ csZ aZ ccdZ clZ outerZ AZ baseZ hZ LZ mZ sZ QZ EZ BZ FZ XZ NZ TZ hkZ hdZ huZ hret; refine wpAny_call ?_; k_dflt k_extra "enter"; k_steps)
  all_goals (refine Ct.fin hret (by k_asm) (by k_asm) ?_; exact ex_bool rfl)
theorem is_number_bytes (i : Array UInt8) (t : Tok) (news : Led) :
    Ct w p loose mean mg mb 106 [.bytes i t] news 1 (fun (_ : Unit) => .bool false) (fun _ => news) (fun _ => True) := by
  (unfold Ct; k_fill; intro dpZ unZ gdZ cnZ csZ aZ ccdZ clZ outerZ AZ baseZ hZ LZ mZ sZ QZ EZ BZ FZ XZ NZ TZ hkZ hdZ huZ hret; refine wpAny_call ?_; k_dflt k_extra "enter"; k_steps)
  all_goals (refine Ct.fin hret (by k_asm) (by k_asm) ?_; exact ex_bool rfl)
theorem is_number_none (news : Led) :
    Ct w p loose mean mg mb 106 [.none] news 1 (fun (_ : Unit) => .bool false) (fun _ => news) (fun _ => True) := by
  (unfold Ct; k_fill; intro dpZ unZ gdZ cnZ csZ aZ ccdZ clZ outerZ AZ baseZ hZ LZ mZ sZ QZ EZ BZ FZ XZ NZ TZ hkZ hdZ huZ hret; refine wpAny_call ?_; k_dflt k_extra "enter"; k_steps)
  all_goals (refine Ct.fin hret (by k_asm) (by k_asm) ?_; exact ex_bool rfl)
theorem key_count_ct (i j : Int) (t t' : Tok) (news : Led) :
    Ct w p loose mean mg mb 211 [.int i t, .int j t'] news 1 (fun t => .int (max 0 (j - i + 1)) t) (fun _ => news) (fun _ => True) := by
  (unfold Ct; k_fill; intro dpZ unZ gdZ cnZ csZ aZ ccdZ clZ outerZ AZ baseZ hZ LZ mZ sZ QZ EZ BZ FZ XZ NZ TZ hkZ hdZ huZ hret; refine wpAny_call ?_; k_dflt k_extra "enter"; k_steps)
  all_goals (refine Ct.fin hret (by k_asm) (by k_asm) ?_; refine ex_int ?_; omega)
end
section
set_option maxRecDepth 100000
set_option maxHeartbeats 8000000
variable {w : World} {p : Program} {loose : List Str} {mean : ExcName → Option Value} {mg mb : Str → Option Value}
theorem rows_C2_0 : True := by
  k_with_none
  k_with "enter" => (refine' code_defP ?k1Zq ?k2Zq ?k3Zq ?k4Zq ?k5Zq ?kAZq ?kFZq ?kKZq ?k6Zq ?p1Zq ?p2Zq ?p3Zq ?k7Zq ?k8Zq ?k9Zq ?kBZq ?_ ?c2Zq ?c3Zq ?c4Zq ?c5Zq; (case kAZq => exact rfl); (case kFZq => exact rfl); (case kKZq => assumption); (case k1Zq => k_asm); (case k2Zq => k_asm); (case k3Zq => k_asm); (case k4Zq => k_asm); (case k5Zq => k_asm); (case k6Zq => k_is); (case p1Zq => conv => lhs; whnf); (case p2Zq => conv => lhs; whnf); (case p3Zq => conv => lhs; whnf); (case k7Zq => k_is); (case k8Zq => ktr_room); (case k9Zq => exact BindsTo.of_eq rfl); (case c5Zq => decide); (case kBZq => exact locs rfl); (case c2Zq => exact rfl); (case c3Zq => exact rfl); (case c4Zq => exact rfl); k_whole; intro g' L' h' FG' F' N' B' X' T'; (try dsimp only); (try k_lift B'); (try k_fold))
  k_with "kenter" => (refine' code_defP ?k1Zq ?k2Zq ?k3Zq ?k4Zq ?k5Zq ?kAZq ?kFZq ?kKZq ?k6Zq ?p1Zq ?p2Zq ?p3Zq ?k7Zq ?k8Zq ?k9Zq ?kBZq ?_ ?c2Zq ?c3Zq ?c4Zq ?c5Zq; (case kAZq => exact rfl); (case kFZq => exact rfl); (case kKZq => exact rfl); (case k1Zq => k_asm); (case k2Zq => k_asm); (case k3Zq => k_asm); (case k4Zq => k_asm); (case k5Zq => k_asm); (case k6Zq => k_is); (case p1Zq => conv => lhs; whnf); (case p2Zq => conv => lhs; whnf); (case p3Zq => conv => lhs; whnf); (case k7Zq => k_is); (case k8Zq => k_room); (case k9Zq => first | exact BindsTo.of_eq rfl | exact binds_K (by k_in) rfl (by k_is) rfl rfl rfl); (case c5Zq => decide); (case kBZq => exact locs rfl); (case c2Zq => exact rfl); (case c3Zq => exact rfl); (case c4Zq => exact rfl); k_whole; intro g' L' h' FG' F' N' B' X' T'; (try dsimp only); (try k_lift B'); (try k_fold))
  k_with "compareOp In int bytes" => (k_here; k_dflt (first | refine in_bytes_u8 ?_ | refine in_bytes (by omega) ?_))
  k_with "mem" => (assumption)
  k_with "ite" => (first | with_reducible refine ite_tt ?_ | with_reducible refine ite_ff ?_ | with_reducible refine ite_T ?_ | with_reducible refine ite_F ?_ | with_reducible refine split_not ?_)
  trivial
noncomputable def skipB (l : List UInt8) (i : Nat) : Nat := i + ((l.drop i).takeWhile (fun b => blank b.toNat)).length
theorem drop_get (l : List UInt8) (i : Nat) (h : i < l.length) : l.drop i = l.getD i 0 :: l.drop (i + 1) := by
  rw [List.drop_eq_getElem_cons h, List.getD_eq_getElem?_getD, List.getElem?_eq_getElem h]; rfl
theorem skipB_stop1 {l : List UInt8} {i : Nat} (h : l.length ≤ i) : skipB l i = i := by
  unfold skipB; rw [List.drop_eq_nil_of_le h]; rfl
theorem skipB_stop2 {l : List UInt8} {i : Nat} (h : i < l.length) (hb : blank (l.getD i 0).toNat = false) : skipB l i = i := by
  unfold skipB; rw [drop_get l i h, List.takeWhile_cons, hb]; rfl
theorem skipB_go {l : List UInt8} {i : Nat} (h : i < l.length) (hb : blank (l.getD i 0).toNat = true) : skipB l (i + 1) = skipB l i := by
  unfold skipB; rw [drop_get l i h, List.takeWhile_cons, hb]; simp only [if_true, List.length_cons]; omega
theorem skip_turn {l : List UInt8} {i : Nat} {x : Int} (h0 : 0 ≤ x) (hx : x < (l.toArray.size : Int)) (hb : blank (l.getD x.toNat 0).toNat = true) (hs : skipB l x.toNat = skipB l i) :
    0 ≤ x + 1 ∧ x + 1 ≤ (l.length : Int) ∧ skipB l (x + 1).toNat = skipB l i := by
  have h1 : x < (l.length : Int) := by simpa using hx
  have e : (x + 1).toNat = x.toNat + 1 := by omega
  exact ⟨by omega, by omega, by rw [e, skipB_go (by omega) hb, hs]⟩
theorem skip_end1 {l : List UInt8} {i : Nat} {x : Int} (h0 : 0 ≤ x) (hx : ¬ x < (l.toArray.size : Int)) (hs : skipB l x.toNat = skipB l i) : x = (skipB l i : Int) := by
  have h1 : ¬ x < (l.length : Int) := by simpa using hx
  rw [← hs, skipB_stop1 (by omega)]; omega
theorem skip_end2 {l : List UInt8} {i : Nat} {x : Int} (h0 : 0 ≤ x) (hx : x < (l.toArray.size : Int)) (hb : ¬ blank (l.getD x.toNat 0).toNat = true) (hs : skipB l x.toNat = skipB l i) : x = (skipB l i : Int) := by
  have h1 : x < (l.length : Int) := by simpa using hx
  rw [← hs, skipB_stop2 (by omega) (by simpa using hb)]; omega
theorem rows_C2_1 : True := by
  k_with "call ref" => (
        k_here
        (with_reducible show wpAny _ _ (call (Value.ref 134) _) _ _ _)
        k_dflt (refine' Ct.use (is_blank_u8 _ _ _) ?k1Zq ?k2Zq ?k3Zq ?k4Zq ?k5Zq ?kKZq ?kdZq ?kuZq ?_; (case k1Zq => k_asm); (case k2Zq => k_asm); (case k3Zq => k_asm); (case k4Zq => k_asm); (case k5Zq => k_asm); (case kKZq => first | exact rfl | assumption); (case kdZq => ktr_room); (case kuZq => ktr_units))
        intro x9 h9 tk9 P9 F9 N9; (first | (have q9 : True := P9; clear q9 P9) | skip); (try dsimp only at P9); (try dsimp only at N9); (try dsimp only); (try k_sweep); (try k_fold))
  trivial
theorem skip_blanks_ct (l : List UInt8) (i : Nat) (t t' : Tok) (news : Led) (hl : l.length ≤ 1000) (hi : i ≤ l.length) :
    Ct w p loose mean mg mb 155 [.bytes l.toArray t, .int i t'] news 2 (fun t => .int (skipB l i) t) (fun _ => news) (fun _ => True) := by
  k_with "exec While BoolOp cons nil" => k_while (fun _ x => 0 ≤ x ∧ x ≤ (l.length : Int) ∧ skipB l x.toNat = skipB l i) (fun _ x => l.length - x.toNat) "at"
  k_with "state" => exact skip_turn (by assumption) (by assumption) (by assumption) (by assumption)
  (unfold Ct; k_fill; intro dpZ unZ gdZ cnZ csZ aZ ccdZ clZ outerZ AZ baseZ hZ LZ mZ sZ QZ EZ BZ FZ XZ NZ TZ hkZ hdZ huZ hret; refine wpAny_call ?_; k_dflt k_extra "enter"; k_steps)
  all_goals refine Ct.fin hret (by k_asm) (by k_asm) ?_
  all_goals first | exact ex_int (skip_end1 (by assumption) (by assumption) (by assumption)) | exact ex_int (skip_end2 (by assumption) (by assumption) (by simp_all) (by assumption))
theorem skipB_le {l : List UInt8} {i : Nat} (h : i ≤ l.length) : skipB l i ≤ l.length := by
  unfold skipB
  have := (List.takeWhile_sublist (fun b : UInt8 => blank b.toNat) (l := l.drop i)).length_le
  rw [List.length_drop] at this
  omega
theorem skipB_ge {l : List UInt8} {i : Nat} : i ≤ skipB l i := by unfold skipB; omega
theorem skip_blanks_i (l : List UInt8) (x : Int) (t t' : Tok) (news : Led) (hl : l.length ≤ 1000) (hx : 0 ≤ x ∧ x ≤ l.length) :
    Ct w p loose mean mg mb 155 [.bytes l.toArray t, .int x t'] news 2 (fun t => .int (skipB l x.toNat) t) (fun _ => news) (fun _ => x ≤ (skipB l x.toNat : Int) ∧ (skipB l x.toNat : Int) ≤ l.length) := by
  obtain ⟨n, rfl⟩ := Int.eq_ofNat_of_zero_le hx.1
  have f1 := skipB_le (l := l) (i := n) (by omega)
  have f2 := skipB_ge (l := l) (i := n)
  refine (skip_blanks_ct l n t t' news hl (by omega)).mono (fun x _ => ⟨?_, ?_⟩) <;> simp only [Int.toNat_natCast] <;> omega
end
section
set_option maxRecDepth 100000
set_option maxHeartbeats 8000000
variable {w : World} {p : Program} {loose : List Str} {mean : ExcName → Option Value} {mg mb : Str → Option Value}
theorem rows_C3_0 : True := by
  k_with_none
  k_with "enter" => (refine' code_defP ?k1Zq ?k2Zq ?k3Zq ?k4Zq ?k5Zq ?kAZq ?kFZq ?kKZq ?k6Zq ?p1Zq ?p2Zq ?p3Zq ?k7Zq ?k8Zq ?k9Zq ?kBZq ?_ ?c2Zq ?c3Zq ?c4Zq ?c5Zq; (case kAZq => exact rfl); (case kFZq => exact rfl); (case kKZq => assumption); (case k1Zq => k_asm); (case k2Zq => k_asm); (case k3Zq => k_asm); (case k4Zq => k_asm); (case k5Zq => k_asm); (case k6Zq => k_is); (case p1Zq => conv => lhs; whnf); (case p2Zq => conv => lhs; whnf); (case p3Zq => conv => lhs; whnf); (case k7Zq => k_is); (case k8Zq => ktr_room); (case k9Zq => exact BindsTo.of_eq rfl); (case c5Zq => decide); (case kBZq => exact locs rfl); (case c2Zq => exact rfl); (case c3Zq => exact rfl); (case c4Zq => exact rfl); k_whole; intro g' L' h' FG' F' N' B' X' T'; (try dsimp only); (try k_lift B'); (try k_fold))
  k_with "kenter" => (refine' code_defP ?k1Zq ?k2Zq ?k3Zq ?k4Zq ?k5Zq ?kAZq ?kFZq ?kKZq ?k6Zq ?p1Zq ?p2Zq ?p3Zq ?k7Zq ?k8Zq ?k9Zq ?kBZq ?_ ?c2Zq ?c3Zq ?c4Zq ?c5Zq; (case kAZq => exact rfl); (case kFZq => exact rfl); (case kKZq => exact rfl); (case k1Zq => k_asm); (case k2Zq => k_asm); (case k3Zq => k_asm); (case k4Zq => k_asm); (case k5Zq => k_asm); (case k6Zq => k_is); (case p1Zq => conv => lhs; whnf); (case p2Zq => conv => lhs; whnf); (case p3Zq => conv => lhs; whnf); (case k7Zq => k_is); (case k8Zq => k_room); (case k9Zq => first | exact BindsTo.of_eq rfl | exact binds_K (by k_in) rfl (by k_is) rfl rfl rfl); (case c5Zq => decide); (case kBZq => exact locs rfl); (case c2Zq => exact rfl); (case c3Zq => exact rfl); (case c4Zq => exact rfl); k_whole; intro g' L' h' FG' F' N' B' X' T'; (try dsimp only); (try k_lift B'); (try k_fold))
  k_with "compareOp In int bytes" => (k_here; k_dflt (first | refine in_bytes_u8 ?_ | refine in_bytes (by omega) ?_))
  k_with "mem" => (assumption)
  k_with "ite" => (first | with_reducible refine ite_tt ?_ | with_reducible refine ite_ff ?_ | with_reducible refine ite_T ?_ | with_reducible refine ite_F ?_ | with_reducible refine split_not ?_)
  trivial
theorem digit_of_u8 (b : UInt8) (t : Tok) (news : Led) :
    Ct w p loose mean mg mb 141 [.int (b.toNat : Int) t] news 1 (fun t => .int (digitOf b.toNat) t) (fun _ => news) (fun _ => True) := digit_of_ct _ _ _
noncomputable def digB (base : Int) (b : UInt8) : Bool := decide (0 ≤ digitOf b.toNat) && decide (digitOf b.toNat < base)
noncomputable def runD (l : List UInt8) (base : Int) (i : Nat) : List UInt8 := (l.drop i).takeWhile (digB base)
noncomputable def foldD (base : Int) (f : Int) (ds : List UInt8) : Int := ds.foldl (fun f b => f * base + digitOf b.toNat) f
theorem runD_stop1 {l : List UInt8} {base : Int} {i : Nat} (h : l.length ≤ i) : runD l base i = [] := by
  unfold runD; rw [List.drop_eq_nil_of_le h]; rfl
theorem runD_stop2 {l : List UInt8} {base : Int} {i : Nat} (h : i < l.length) (hb : digB base (l.getD i 0) = false) : runD l base i = [] := by
  unfold runD; rw [drop_get l i h, List.takeWhile_cons, hb]; rfl
theorem runD_go {l : List UInt8} {base : Int} {i : Nat} (h : i < l.length) (hb : digB base (l.getD i 0) = true) : runD l base i = l.getD i 0 :: runD l base (i + 1) := by
  unfold runD; rw [drop_get l i h, List.takeWhile_cons, hb]; rfl
noncomputable def RdI (l : List UInt8) (base : Int) (i : Nat) (x f : Int) : Prop :=
  x + (runD l base x.toNat).length = i + (runD l base i).length ∧ foldD base f (runD l base x.toNat) = foldD base 0 (runD l base i) ∧ f < 36 ^ x.toNat
theorem pow36 {n : Nat} (h : n ≤ 40) : (36 : Int) ^ n ≤ 178689910246017054531432477289437798228285773001601743140683776 := by
  have : ∀ n : _root_.Fin 41, (36 : Int) ^ n.val ≤ 178689910246017054531432477289437798228285773001601743140683776 := by decide +kernel
  exact this ⟨n, by omega⟩
abbrev RdP (l : List UInt8) (base : Int) (i : Nat) (x f : Int) : Prop := 0 ≤ x ∧ x ≤ (l.length : Int) ∧ RdI l base i x f ∧ 0 ≤ f ∧ f < 178689910246017054531432477289437798228285773001601743140683776
theorem rd_start {l : List UInt8} {base : Int} {i : Nat} (hi : i ≤ l.length) : RdP l base i (i : Int) 0 :=
  ⟨by omega, by omega, ⟨by simp, by simp, Int.pow_pos (by omega)⟩, by omega, by omega⟩
theorem rd_turn {l : List UInt8} {base : Int} {i : Nat} {x f : Int} (hl : l.length ≤ 40) (hb : 2 ≤ base ∧ base ≤ 36) (h0 : 0 ≤ x) (hI : RdI l base i x f) (hf : 0 ≤ f) (hx : x < (l.toArray.size : Int)) (h1 : ¬ digitOf (l.getD x.toNat 0).toNat < 0) (h2 : ¬ base ≤ digitOf (l.getD x.toNat 0).toNat) :
    RdP l base i (x + 1) (f * base + digitOf (l.getD x.toNat 0).toNat) := by
  obtain ⟨c, d, g⟩ := hI
  have hx : x < (l.length : Int) := by simpa using hx
  have ex : (x + 1).toNat = x.toNat + 1 := by omega
  have hd : digB base (l.getD x.toNat 0) = true := by unfold digB; rw [Bool.and_eq_true, decide_eq_true_eq, decide_eq_true_eq]; omega
  have r := runD_go (base := base) (by omega : x.toNat < l.length) hd
  rw [r] at c d
  have m0 : 0 ≤ f * base := Int.mul_nonneg hf (by omega)
  have m1 : f * base ≤ (36 ^ x.toNat - 1) * 36 := Int.mul_le_mul (by omega) hb.2 (by omega) (by omega)
  have g' : f * base + digitOf (l.getD x.toNat 0).toNat < 36 ^ (x.toNat + 1) := by rw [Int.pow_succ]; omega
  have p := pow36 (by omega : x.toNat + 1 ≤ 40)
  refine ⟨by omega, by omega, ⟨?_, ?_, ?_⟩, by omega, by omega⟩
  · rw [ex]; simp only [List.length_cons] at c; omega
  · rw [ex]; exact d
  · rw [ex]; exact g'
theorem rd_end1 {l : List UInt8} {base : Int} {i : Nat} {x f : Int} (h0 : 0 ≤ x) (hI : RdI l base i x f) (hx : ¬ x < (l.toArray.size : Int)) : f = foldD base 0 (runD l base i) ∧ x = (i + (runD l base i).length : Int) := by
  obtain ⟨c, d, g⟩ := hI
  have hx : ¬ x < (l.length : Int) := by simpa using hx
  have r := runD_stop1 (base := base) (by omega : l.length ≤ x.toNat)
  rw [r] at c d
  exact ⟨d, by simpa using c⟩
theorem rd_end2 {l : List UInt8} {base : Int} {i : Nat} {x f : Int} (h0 : 0 ≤ x) (hI : RdI l base i x f) (hx : x < (l.toArray.size : Int)) (h : digitOf (l.getD x.toNat 0).toNat < 0 ∨ base ≤ digitOf (l.getD x.toNat 0).toNat) : f = foldD base 0 (runD l base i) ∧ x = (i + (runD l base i).length : Int) := by
  obtain ⟨c, d, g⟩ := hI
  have hx : x < (l.length : Int) := by simpa using hx
  have hd : digB base (l.getD x.toNat 0) = false := by unfold digB; rw [Bool.and_eq_false_iff, decide_eq_false_iff_not, decide_eq_false_iff_not]; omega
  have r := runD_stop2 (by omega : x.toNat < l.length) hd
  rw [r] at c d
  exact ⟨d, by simpa using c⟩
theorem ex_pair {r : Addr} {a b c d : Int} {t u : Tok} {l : Led} (h : a = c ∧ b = d) :
    ∃ x : Addr × Tok × Tok, Value.ref r = Value.ref x.1 ∧ (∀ q ∈ ((x.1, { cls := .type "tuple", data := .seq #[.int c x.2.1, .int d x.2.2] }) :: l : Led), q ∈ (r, ({ cls := .type "tuple", data := .seq [.int a t, .int b u].toArray } : Obj)) :: l) ∧ True := by
  obtain ⟨rfl, rfl⟩ := h
  exact ⟨(r, t, u), rfl, fun _ h => h, trivial⟩
theorem rows_C3_1 : True := by
  k_with "call ref" => (
        k_here
        (with_reducible show wpAny _ _ (call (Value.ref 141) _) _ _ _)
        k_dflt (refine' Ct.use (digit_of_u8 _ _ _) ?k1Zq ?k2Zq ?k3Zq ?k4Zq ?k5Zq ?kKZq ?kdZq ?kuZq ?_; (case k1Zq => k_asm); (case k2Zq => k_asm); (case k3Zq => k_asm); (case k4Zq => k_asm); (case k5Zq => k_asm); (case kKZq => first | exact rfl | assumption); (case kdZq => ktr_room); (case kuZq => ktr_units))
        intro x9 h9 tk9 P9 F9 N9; (first | (have q9 : True := P9; clear q9 P9) | skip); (try dsimp only at P9); (try dsimp only at N9); (try dsimp only); (try k_sweep); (try k_fold))
  trivial
theorem read_digits_ct (l : List UInt8) (i : Nat) (base : Int) (t t' t'' : Tok) (news : Led) (hl : l.length ≤ 40) (hi : i ≤ l.length) (hb : 2 ≤ base ∧ base ≤ 36) :
    Ct w p loose mean mg mb 148 [.bytes l.toArray t, .int i t', .int base t''] news 2 (fun (x : Addr × Tok × Tok) => .ref x.1) (fun x => (x.1, { cls := .type "tuple", data := .seq #[.int (foldD base 0 (runD l base i)) x.2.1, .int (i + (runD l base i).length) x.2.2] }) :: news) (fun _ => True) := by
  k_with "exec While Compare cons nil" => k_while (fun _ x f => RdP l base i x f) (fun _ x _ => l.length - x.toNat) "at" "found"
  k_with "state" => first | exact rd_start (by assumption) | exact rd_turn (by assumption) (by assumption) (by assumption) (by assumption) (by assumption) (by assumption) (by assumption) (by assumption)
  (unfold Ct; k_fill; intro dpZ unZ gdZ cnZ csZ aZ ccdZ clZ outerZ AZ baseZ hZ LZ mZ sZ QZ EZ BZ FZ XZ NZ TZ hkZ hdZ huZ hret; refine wpAny_call ?_; k_dflt k_extra "enter"; k_steps)
  all_goals refine Ct.fin hret (by k_asm) (by k_asm) ?_
  all_goals first | exact ex_pair (rd_end1 (by assumption) (by assumption) (by assumption)) | exact ex_pair (rd_end2 (by assumption) (by assumption) (by assumption) (by omega))
theorem runD_le {l : List UInt8} {base : Int} {i : Nat} (h : i ≤ l.length) : i + (runD l base i).length ≤ l.length := by
  unfold runD
  have := (List.takeWhile_sublist (digB base) (l := l.drop i)).length_le
  rw [List.length_drop] at this
  omega
theorem mem_tw {q : UInt8 → Bool} {d : UInt8} : ∀ {l : List UInt8}, d ∈ l.takeWhile q → q d = true
  | [], h => (nomatch h)
  | x :: l, h => by
    rw [List.takeWhile_cons] at h
    cases hx : q x with
    | false => rw [hx] at h; simp at h
    | true =>
      rw [hx] at h
      rcases List.mem_cons.mp h with rfl | h
      · exact hx
      · exact mem_tw h
theorem foldD_bound {base : Int} (hb : 2 ≤ base ∧ base ≤ 36) : ∀ (ds : List UInt8) (f : Int), 0 ≤ f → (∀ d ∈ ds, digB base d = true) → 0 ≤ foldD base f ds ∧ foldD base f ds < (f + 1) * 36 ^ ds.length
  | [], f, hf, _ => ⟨hf, by simp [foldD]; omega⟩
  | d :: ds, f, hf, h => by
    have hd := h d (.head _)
    unfold digB at hd
    rw [Bool.and_eq_true, decide_eq_true_eq, decide_eq_true_eq] at hd
    have m0 : 0 ≤ f * base := Int.mul_nonneg hf (by omega)
    have m1 : f * base ≤ f * 36 := Int.mul_le_mul_of_nonneg_left hb.2 hf
    have ih := foldD_bound hb ds (f * base + digitOf d.toNat) (by omega) fun x hx => h x (.tail _ hx)
    have e : foldD base f (d :: ds) = foldD base (f * base + digitOf d.toNat) ds := rfl
    rw [e]
    refine ⟨ih.1, Int.lt_of_lt_of_le ih.2 ?_⟩
    rw [List.length_cons, Int.pow_succ, Int.mul_comm (36 ^ ds.length) 36, ← Int.mul_assoc]
    exact Int.mul_le_mul_of_nonneg_right (by omega) (Int.le_of_lt (Int.pow_pos (by omega)))
theorem runD_bound {l : List UInt8} {base : Int} {i : Nat} (hl : l.length ≤ 40) (hb : 2 ≤ base ∧ base ≤ 36) : 0 ≤ foldD base 0 (runD l base i) ∧ foldD base 0 (runD l base i) < 178689910246017054531432477289437798228285773001601743140683777 := by
  have hlen : (runD l base i).length ≤ 40 := by
    unfold runD
    have := (List.takeWhile_sublist (digB base) (l := l.drop i)).length_le
    rw [List.length_drop] at this
    omega
  have h := foldD_bound hb (runD l base i) 0 (by omega) (fun d hd => by unfold runD at hd; exact mem_tw hd)
  have p := pow36 hlen
  omega
theorem read_digits_i (l : List UInt8) (x : Int) (base : Int) (t t' t'' : Tok) (news : Led) (hl : l.length ≤ 40) (hx : 0 ≤ x ∧ x ≤ l.length) (hb : 2 ≤ base ∧ base ≤ 36) :
    Ct w p loose mean mg mb 148 [.bytes l.toArray t, .int x t', .int base t''] news 2 (fun (x' : Addr × Tok × Tok) => .ref x'.1) (fun x' => (x'.1, { cls := .type "tuple", data := .seq #[.int (foldD base 0 (runD l base x.toNat)) x'.2.1, .int (x + (runD l base x.toNat).length) x'.2.2] }) :: news) (fun _ => (0 ≤ foldD base 0 (runD l base x.toNat) ∧ foldD base 0 (runD l base x.toNat) < 178689910246017054531432477289437798228285773001601743140683777) ∧ x + (runD l base x.toNat).length ≤ l.length) := by
  obtain ⟨n, rfl⟩ := Int.eq_ofNat_of_zero_le hx.1
  have f1 := runD_le (l := l) (base := base) (i := n) (by omega)
  refine (read_digits_ct l n base t t' t'' news hl (by omega) hb).mono (fun x _ => ⟨runD_bound hl hb, ?_⟩)
  simp only [Int.toNat_natCast]; omega
end
section
set_option maxRecDepth 100000
set_option maxHeartbeats 8000000
variable {w : World} {p : Program} {loose : List Str} {mean : ExcName → Option Value} {mg mb : Str → Option Value}
theorem rows_C4_0 : True := by
  k_with_none
  k_with "enter" => (refine' code_defP ?k1Zq ?k2Zq ?k3Zq ?k4Zq ?k5Zq ?kAZq ?kFZq ?kKZq ?k6Zq ?p1Zq ?p2Zq ?p3Zq ?k7Zq ?k8Zq ?k9Zq ?kBZq ?_ ?c2Zq ?c3Zq ?c4Zq ?c5Zq; (case kAZq => exact rfl); (case kFZq => exact rfl); (case kKZq => assumption); (case k1Zq => k_asm); (case k2Zq => k_asm); (case k3Zq => k_asm); (case k4Zq => k_asm); (case k5Zq => k_asm); (case k6Zq => k_is); (case p1Zq => conv => lhs; whnf); (case p2Zq => conv => lhs; whnf); (case p3Zq => conv => lhs; whnf); (case k7Zq => k_is); (case k8Zq => ktr_room); (case k9Zq => exact BindsTo.of_eq rfl); (case c5Zq => decide); (case kBZq => exact locs rfl); (case c2Zq => exact rfl); (case c3Zq => exact rfl); (case c4Zq => exact rfl); k_whole; intro g' L' h' FG' F' N' B' X' T'; (try dsimp only); (try k_lift B'); (try k_fold))
  k_with "kenter" => (refine' code_defP ?k1Zq ?k2Zq ?k3Zq ?k4Zq ?k5Zq ?kAZq ?kFZq ?kKZq ?k6Zq ?p1Zq ?p2Zq ?p3Zq ?k7Zq ?k8Zq ?k9Zq ?kBZq ?_ ?c2Zq ?c3Zq ?c4Zq ?c5Zq; (case kAZq => exact rfl); (case kFZq => exact rfl); (case kKZq => exact rfl); (case k1Zq => k_asm); (case k2Zq => k_asm); (case k3Zq => k_asm); (case k4Zq => k_asm); (case k5Zq => k_asm); (case k6Zq => k_is); (case p1Zq => conv => lhs; whnf); (case p2Zq => conv => lhs; whnf); (case p3Zq => conv => lhs; whnf); (case k7Zq => k_is); (case k8Zq => k_room); (case k9Zq => first | exact BindsTo.of_eq rfl | exact binds_K (by k_in) rfl (by k_is) rfl rfl rfl); (case c5Zq => decide); (case kBZq => exact locs rfl); (case c2Zq => exact rfl); (case c3Zq => exact rfl); (case c4Zq => exact rfl); k_whole; intro g' L' h' FG' F' N' B' X' T'; (try dsimp only); (try k_lift B'); (try k_fold))
  k_with "compareOp In int bytes" => (k_here; k_dflt (first | refine in_bytes_u8 ?_ | refine in_bytes (by omega) ?_))
  k_with "mem" => (assumption)
  k_with "ite" => (first | with_reducible refine ite_tt ?_ | with_reducible refine ite_ff ?_ | with_reducible refine ite_T ?_ | with_reducible refine ite_F ?_ | with_reducible refine split_not ?_)
  trivial
theorem getL_width {hh : Int} {tw : Tok} {v : Value} {es : List DictEntry} : getL (Str.ofString "width") (⟨hh, .str (Str.ofString "width") tw, v⟩ :: es) = some (some v) := by
  unfold getL
  rw [List.find?_cons]
  have : Value.isStr (.str (Str.ofString "width") tw) (Str.ofString "width") = true := by unfold Value.isStr; exact beq_self_eq_true _
  rw [this]
theorem rows_C4_1 : True := by
  k_with "mem" => (assumption)
  k_with "get" => (exact getL_width)
  k_with "call ref" => (
        k_here
        (with_reducible show wpAny _ _ (call (Value.ref 141) _) _ _ _)
        k_dflt (refine' Ct.use (digit_of_u8 _ _ _) ?k1Zq ?k2Zq ?k3Zq ?k4Zq ?k5Zq ?kKZq ?kdZq ?kuZq ?_; (case k1Zq => k_asm); (case k2Zq => k_asm); (case k3Zq => k_asm); (case k4Zq => k_asm); (case k5Zq => k_asm); (case kKZq => first | exact rfl | assumption); (case kdZq => ktr_room); (case kuZq => ktr_units))
        intro x9 h9 tk9 P9 F9 N9; (first | (have q9 : True := P9; clear q9 P9) | skip); (try dsimp only at P9); (try dsimp only at N9); (try dsimp only); (try k_sweep); (try k_fold))
  k_with "call ref" => (
        k_here
        (with_reducible show wpAny _ _ (call (Value.ref 155) _) _ _ _)
        k_dflt (refine' Ct.use (skip_blanks_i _ _ _ _ _ (by omega) (by omega)) ?k1Zq ?k2Zq ?k3Zq ?k4Zq ?k5Zq ?kKZq ?kdZq ?kuZq ?_; (case k1Zq => k_asm); (case k2Zq => k_asm); (case k3Zq => k_asm); (case k4Zq => k_asm); (case k5Zq => k_asm); (case kKZq => first | exact rfl | assumption); (case kdZq => ktr_room); (case kuZq => ktr_units))
        intro x9 h9 tk9 P9 F9 N9; (first | (have q9 : True := P9; clear q9 P9) | skip); (try dsimp only at P9); (try dsimp only at N9); (try dsimp only); (try k_sweep); (try k_fold))
  k_with "call ref" => (
        k_here
        (with_reducible show wpAny _ _ (call (Value.ref 148) _) _ _ _)
        k_dflt (refine' Ct.use (read_digits_i _ _ _ _ _ _ _ (by omega) (by omega) (by omega)) ?k1Zq ?k2Zq ?k3Zq ?k4Zq ?k5Zq ?kKZq ?kdZq ?kuZq ?_; (case k1Zq => k_asm); (case k2Zq => k_asm); (case k3Zq => k_asm); (case k4Zq => k_asm); (case k5Zq => k_asm); (case kKZq => first | exact rfl | assumption); (case kdZq => ktr_room); (case kuZq => ktr_units))
        intro x9 h9 tk9 P9 F9 N9; (first | (have q9 : True := P9; clear q9 P9) | skip); (try dsimp only at P9); (try dsimp only at N9); (try dsimp only); (try k_sweep); (try k_fold))
  k_with "call ref" => (
        k_here
        (with_reducible show wpAny _ _ (call (Value.ref 127) _) _ _ _)
        k_dflt (refine' Ct.use (wrap_ct _ _ _ _ (by omega)) ?k1Zq ?k2Zq ?k3Zq ?k4Zq ?k5Zq ?kKZq ?kdZq ?kuZq ?_; (case k1Zq => k_asm); (case k2Zq => k_asm); (case k3Zq => k_asm); (case k4Zq => k_asm); (case k5Zq => k_asm); (case kKZq => first | exact rfl | assumption); (case kdZq => ktr_room); (case kuZq => ktr_units))
        intro x9 h9 tk9 P9 F9 N9; (first | (have q9 : True := P9; clear q9 P9) | skip); (try dsimp only at P9); (try dsimp only at N9); (try dsimp only); (try k_sweep); (try k_fold))
  trivial
noncomputable def a1 (l : List UInt8) : Nat := if skipB l 0 < l.length ∧ (l.getD (skipB l 0) 0 = 43 ∨ l.getD (skipB l 0) 0 = 45) then skipB l 0 + 1 else skipB l 0
noncomputable def below (l : List UInt8) : Bool := decide (skipB l 0 < l.length ∧ l.getD (skipB l 0) 0 = 45)
noncomputable def mark (l : List UInt8) (base : Int) : Bool := decide (a1 l + 2 < l.length ∧ l.getD (a1 l) 0 = 48 ∧ (l.getD (a1 l + 1) 0 = 120 ∨ l.getD (a1 l + 1) 0 = 88) ∧ (base = 0 ∨ base = 16))
theorem pm_iff {c : UInt8} : (#[43, 45] : Array UInt8).contains c = true ↔ (c = 43 ∨ c = 45) := by
  simp [Array.contains_iff_mem]
theorem u8_eq_int {c : UInt8} {n : Nat} (hn : n < 256) : ((c.toNat : Int) == (n : Int)) = decide (c = n.toUInt8) := by
  rw [Bool.eq_iff_iff, beq_iff_eq, decide_eq_true_eq]
  constructor
  · intro h
    have h' : c.toNat = n := by omega
    rw [← h']; exact UInt8.ofNat_toNat.symm
  · intro h
    rw [h]
    have : n.toUInt8.toNat = n := by simp [Nat.toUInt8]; omega
    rw [this]
theorem a1_sign {l : List UInt8} (h1 : (skipB l 0 : Int) < (l.toArray.size : Int)) (h2 : (#[43, 45] : Array UInt8).contains (l.getD (skipB l 0 : Int).toNat 0) = true) : (skipB l 0 : Int) + 1 = (a1 l : Int) := by
  rw [List.size_toArray] at h1
  rw [Int.toNat_natCast, pm_iff] at h2
  unfold a1
  rw [if_pos ⟨by omega, h2⟩]
  omega
theorem below_sign {l : List UInt8} (h1 : (skipB l 0 : Int) < (l.toArray.size : Int)) : (((l.getD (skipB l 0 : Int).toNat 0).toNat : Int) == 45) = below l := by
  rw [List.size_toArray] at h1
  have := u8_eq_int (c := l.getD (skipB l 0 : Int).toNat 0) (n := 45) (by omega)
  refine this.trans ?_
  unfold below
  rw [Int.toNat_natCast]
  have h1 : skipB l 0 < l.length := by omega
  simp [h1]
theorem a1_no {l : List UInt8} (h2 : (#[43, 45] : Array UInt8).contains (l.getD (skipB l 0 : Int).toNat 0) = false) : (skipB l 0 : Int) = (a1 l : Int) ∧ false = below l := by
  rw [Int.toNat_natCast] at h2
  have h3 : ¬ (l.getD (skipB l 0) 0 = 43 ∨ l.getD (skipB l 0) 0 = 45) := fun h => by rw [pm_iff.mpr h] at h2; cases h2
  unfold a1 below
  rw [if_neg (fun h => h3 h.2)]
  refine ⟨rfl, ?_⟩
  symm
  exact decide_eq_false (fun h => h3 (.inr h.2))
theorem a1_out {l : List UInt8} (h1 : ¬ (skipB l 0 : Int) < (l.toArray.size : Int)) : (skipB l 0 : Int) = (a1 l : Int) ∧ false = below l := by
  rw [List.size_toArray] at h1
  have h1 : ¬ skipB l 0 < l.length := by omega
  unfold a1 below
  rw [if_neg (fun h => h1 h.1)]
  refine ⟨rfl, ?_⟩
  symm
  exact decide_eq_false (fun h => h1 h.1)
theorem a1_le {l : List UInt8} : a1 l ≤ l.length := by
  have := skipB_le (l := l) (i := 0) (by omega)
  unfold a1
  split <;> omega
theorem xX_iff {c : UInt8} : (#[120, 88] : Array UInt8).contains c = true ↔ (c = 120 ∨ c = 88) := by
  simp [Array.contains_iff_mem]
theorem u8_eq_int' {c : UInt8} {n : Nat} (hn : n < 256) : (c.toNat : Int) = (n : Int) ↔ c = n.toUInt8 := by
  have := u8_eq_int (c := c) hn
  rw [Bool.eq_iff_iff, beq_iff_eq, decide_eq_true_eq] at this
  exact this
theorem mark_1 {l : List UInt8} {base : Int} (h1 : ¬ (a1 l : Int) + 2 < (l.toArray.size : Int)) : decide ((a1 l : Int) + 2 < (l.toArray.size : Int)) = mark l base := by
  rw [decide_eq_false h1]
  rw [List.size_toArray] at h1
  exact (decide_eq_false (fun h => h1 (by omega))).symm
theorem mark_2 {l : List UInt8} {base : Int} (h : ((l.getD (a1 l : Int).toNat 0).toNat : Int) ≠ 48) : (((l.getD (a1 l : Int).toNat 0).toNat : Int) == 48) = mark l base := by
  rw [beq_false_of_ne h]
  refine (decide_eq_false (fun q => h ?_)).symm
  rw [Int.toNat_natCast]
  exact (u8_eq_int' (n := 48) (by omega)).mpr q.2.1
theorem mark_3 {l : List UInt8} {base : Int} (h : (#[120, 88] : Array UInt8).contains (l.getD ((a1 l : Int) + 1).toNat 0) = false) : (#[120, 88] : Array UInt8).contains (l.getD ((a1 l : Int) + 1).toNat 0) = mark l base := by
  rw [h]
  refine (decide_eq_false (fun q => ?_)).symm
  have e : ((a1 l : Int) + 1).toNat = a1 l + 1 := by omega
  rw [e, xX_iff.mpr q.2.2.1] at h
  cases h
theorem mark_4 {l : List UInt8} {base : Int} (h1 : (a1 l : Int) + 2 < (l.toArray.size : Int)) (h2 : ((l.getD (a1 l : Int).toNat 0).toNat : Int) = 48) (h3 : (#[120, 88] : Array UInt8).contains (l.getD ((a1 l : Int) + 1).toNat 0) = true) :
    ([0, 16].any fun x => x == base) = mark l base := by
  rw [List.size_toArray] at h1
  have e : ((a1 l : Int) + 1).toNat = a1 l + 1 := by omega
  rw [e, xX_iff] at h3
  rw [Int.toNat_natCast] at h2
  have h2 := (u8_eq_int' (n := 48) (by omega)).mp h2
  have h1 : a1 l + 2 < l.length := by omega
  have h2 : l.getD (a1 l) 0 = 48 := h2
  rw [Bool.eq_iff_iff]
  unfold mark
  rw [decide_eq_true_eq]
  simp only [List.any_cons, List.any_nil, Bool.or_false, Bool.or_eq_true, beq_iff_eq]
  constructor
  · intro h; exact ⟨h1, h2, h3, by omega⟩
  · intro h; have := h.2.2.2; omega
noncomputable def hexy (l : List UInt8) : Bool := decide (0 ≤ digitOf (l.getD (a1 l + 2) 0).toNat ∧ digitOf (l.getD (a1 l + 2) 0).toNat < 16)
noncomputable def a2 (l : List UInt8) (base : Int) : Nat := if mark l base = true ∧ hexy l = true then a1 l + 2 else a1 l
noncomputable def b2 (l : List UInt8) (base : Int) : Int := if mark l base = true ∧ hexy l = true then 16 else base
theorem mark_lt {l : List UInt8} {base : Int} (h : mark l base = true) : a1 l + 2 < l.length := (of_decide_eq_true h).1
theorem hex_1 {l : List UInt8} {base : Int} (km : mark l base = true) (h1 : 0 ≤ digitOf (l.getD ((a1 l : Int) + 2).toNat 0).toNat) (h2 : digitOf (l.getD ((a1 l : Int) + 2).toNat 0).toNat < 16) : (a1 l : Int) + 2 = (a2 l base : Int) ∧ 16 = b2 l base := by
  have e : ((a1 l : Int) + 2).toNat = a1 l + 2 := by omega
  rw [e] at h1 h2
  have h : mark l base = true ∧ hexy l = true := ⟨km, decide_eq_true ⟨h1, h2⟩⟩
  unfold a2 b2
  rw [if_pos h, if_pos h]
  exact ⟨by omega, rfl⟩
theorem hex_2 {l : List UInt8} {base : Int} (hh : ¬ 0 ≤ digitOf (l.getD ((a1 l : Int) + 2).toNat 0).toNat ∨ ¬ digitOf (l.getD ((a1 l : Int) + 2).toNat 0).toNat < 16) : (a1 l : Int) = (a2 l base : Int) ∧ base = b2 l base := by
  have e : ((a1 l : Int) + 2).toNat = a1 l + 2 := by omega
  rw [e] at hh
  have h : ¬ (mark l base = true ∧ hexy l = true) := fun h => by
    have := of_decide_eq_true h.2
    omega
  unfold a2 b2
  rw [if_neg h, if_neg h]
  exact ⟨rfl, rfl⟩
theorem hex_3 {l : List UInt8} {base : Int} (km : ¬ mark l base = true) : (a1 l : Int) = (a2 l base : Int) ∧ base = b2 l base := by
  have h : ¬ (mark l base = true ∧ hexy l = true) := fun h => km h.1
  unfold a2 b2
  rw [if_neg h, if_neg h]
  exact ⟨rfl, rfl⟩
theorem a2_le {l : List UInt8} {base : Int} : a2 l base ≤ l.length := by
  have h1 := a1_le (l := l)
  unfold a2
  split
  · rename_i h; have := mark_lt h.1; omega
  · exact h1
theorem b2_rng {l : List UInt8} {base : Int} (hb : base = 0 ∨ (2 ≤ base ∧ base ≤ 36)) : b2 l base = 0 ∨ (2 ≤ b2 l base ∧ b2 l base ≤ 36) := by
  unfold b2; split <;> omega
noncomputable def b3 (l : List UInt8) (base : Int) : Int := if b2 l base = 0 then 10 else b2 l base
noncomputable def tib (l : List UInt8) (base : Int) : Option Int :=
  if (runD l (b3 l base) (a2 l base)).length = 0 ∨ skipB l (a2 l base + (runD l (b3 l base) (a2 l base)).length) ≠ l.length then none
  else some (if below l = true then - foldD (b3 l base) 0 (runD l (b3 l base) (a2 l base)) else foldD (b3 l base) 0 (runD l (b3 l base) (a2 l base)))
theorem tib_n1 {l : List UInt8} {base B : Int} (hb : b3 l base = B) (h : (a2 l base : Int) + ((runD l B (a2 l base : Int).toNat).length : Int) = (a2 l base : Int)) : tib l base = none := by
  unfold tib
  rw [hb]
  rw [Int.toNat_natCast] at h
  exact if_pos (.inl (by omega))
theorem toNat_two (a b : Nat) : ((a : Int) + (b : Int)).toNat = a + b := by omega
theorem tib_n2 {l : List UInt8} {base B : Int} (hb : b3 l base = B) (h : (skipB l ((a2 l base : Int) + ((runD l B (a2 l base : Int).toNat).length : Int)).toNat : Int) ≠ (l.toArray.size : Int)) : tib l base = none := by
  unfold tib
  rw [hb]
  rw [Int.toNat_natCast, toNat_two, List.size_toArray] at h
  exact if_pos (.inr (by omega))
theorem tib_s {l : List UInt8} {base B : Int} (hb : b3 l base = B) (h0 : (a2 l base : Int) + ((runD l B (a2 l base : Int).toNat).length : Int) ≠ (a2 l base : Int)) (h : (skipB l ((a2 l base : Int) + ((runD l B (a2 l base : Int).toNat).length : Int)).toNat : Int) = (l.toArray.size : Int)) :
    tib l base = some (if below l = true then - foldD B 0 (runD l B (a2 l base : Int).toNat) else foldD B 0 (runD l B (a2 l base : Int).toNat)) := by
  unfold tib
  rw [hb]
  rw [Int.toNat_natCast] at h0 ⊢
  rw [Int.toNat_natCast, toNat_two, List.size_toArray] at h
  exact if_neg (by omega)
theorem tib_s1 {l : List UInt8} {base B : Int} (hb : b3 l base = B) (h0 : (a2 l base : Int) + ((runD l B (a2 l base : Int).toNat).length : Int) ≠ (a2 l base : Int)) (h : (skipB l ((a2 l base : Int) + ((runD l B (a2 l base : Int).toNat).length : Int)).toNat : Int) = (l.toArray.size : Int))
    (hl : below l = true) : tib l base = some (- foldD B 0 (runD l B (a2 l base : Int).toNat)) := by rw [tib_s hb h0 h, if_pos hl]
theorem tib_s2 {l : List UInt8} {base B : Int} (hb : b3 l base = B) (h0 : (a2 l base : Int) + ((runD l B (a2 l base : Int).toNat).length : Int) ≠ (a2 l base : Int)) (h : (skipB l ((a2 l base : Int) + ((runD l B (a2 l base : Int).toNat).length : Int)).toNat : Int) = (l.toArray.size : Int))
    (hl : below l = false) : tib l base = some (foldD B 0 (runD l B (a2 l base : Int).toNat)) := by rw [tib_s hb h0 h, if_neg (by rw [hl]; exact Bool.false_ne_true)]
structure Fits (l : List UInt8) (base : Int) : Prop where
  lt : foldD (b3 l base) 0 (runD l (b3 l base) (a2 l base)) < 9223372036854775808
theorem text_in_base_ct (l : List UInt8) (base : Int) (lim dx : Addr) (hh : Int) (tw tv : Tok) (es : List DictEntry) (n : Nat) (t t' : Tok) (news : Led) (hl : l.length ≤ 40) (hf : Fits l base) (hb : base = 0 ∨ (2 ≤ base ∧ base ≤ 36))
    (h1 : (lim, instObj 53 dx) ∈ news) (h2 : (dx, dictOf (⟨hh, .str (Str.ofString "width") tw, .int 64 tv⟩ :: es) n) ∈ news) :
    Ct w p loose mean mg mb 169 [.bytes l.toArray t, .int base t', .ref lim] news 3 (fun t => optV (tib l base) t) (fun _ => news) (fun _ => True) := by
  unfold Ct
  k_fill
  intro dp un gd cn cs a ccd cl outer A₀ bs h₀ L m s Q E B F X N T hk hd hu hret
  refine wpAny_call ?_
  k_dflt k_extra "enter"
  refine cut (fun m m' => (∃ t, m' (Str.ofString "at") = some (.int (skipB l 0) t)) ∧ m' (Str.ofString "is_below") = some (.bool false) ∧ ∀ y, y ≠ Str.ofString "at" → y ≠ Str.ofString "is_below" → m' y = m y) (by assumption) (by assumption) ?_ ?_
  · (try k_fold)
    k_steps
    all_goals exact cut_end (by k_asm) (by k_asm) (fun _ h => List.mem_cons_of_mem _ h) ⟨at_int rfl rfl, at_bool rfl rfl, fun y h1 h2 => by simp [h1, h2]⟩
  intro m' h tk hJ F N
  obtain ⟨⟨t, j1⟩, j2, j3⟩ := hJ
  obtain rfl := norm2 j1 j2 j3
  clear j1 j2 j3
  k_sweep
  refine cut (fun m m' => (∃ t, m' (Str.ofString "at") = some (.int (a1 l) t)) ∧ m' (Str.ofString "is_below") = some (.bool (below l)) ∧ ∀ y, y ≠ Str.ofString "at" → y ≠ Str.ofString "is_below" → m' y = m y) (by assumption) (by assumption) ?_ ?_
  · have k1 := skipB_le (l := l) (i := 0) (by omega)
    (try k_fold)
    k_steps
    all_goals refine cut_end (by k_asm) (by k_asm) (fun _ h => h) ⟨?_, ?_, fun y h1 h2 => by simp [h1, h2]⟩
    · exact at_int rfl (a1_sign (by assumption) (by assumption))
    · exact at_bool rfl (below_sign (by assumption))
    · exact at_int rfl (a1_no (by assumption)).1
    · exact at_bool rfl (a1_no (by assumption)).2
    · exact at_int rfl (a1_out (by assumption)).1
    · exact at_bool rfl (a1_out (by assumption)).2
  intro m' h tk hJ F N
  obtain ⟨⟨t, j1⟩, j2, j3⟩ := hJ
  obtain rfl := norm2 j1 j2 j3
  clear j1 j2 j3
  k_sweep
  have ka := a1_le (l := l)
  refine cut (fun m m' => m' (Str.ofString "is_marked") = some (.bool (mark l base)) ∧ ∀ y, y ≠ Str.ofString "is_marked" → m' y = m y) (by assumption) (by assumption) ?_ ?_
  · (try k_fold)
    k_steps
    all_goals refine cut_end (by k_asm) (by k_asm) (fun _ h => by first | exact h | exact List.mem_cons_of_mem _ h) ⟨at_bool rfl ?_, fun y h1 => by simp [h1]⟩
    all_goals first | exact mark_4 (by assumption) (by assumption) (by assumption) | exact mark_3 (by assumption) | exact mark_2 (by assumption) | exact mark_1 (by assumption)
  intro m' h tk hJ F N
  obtain ⟨j1, j3⟩ := hJ
  obtain rfl := norm1 j1 j3
  clear j1 j3
  k_sweep
  refine cut (fun m m' => (∃ t, m' (Str.ofString "at") = some (.int (a2 l base) t)) ∧ (∃ t, m' (Str.ofString "base") = some (.int (b2 l base) t)) ∧ ∀ y, y ≠ Str.ofString "at" → y ≠ Str.ofString "base" → m' y = m y) (by assumption) (by assumption) ?_ ?_
  · by_cases km : mark l base = true
    · have kl := mark_lt km
      (try k_fold)
      k_steps
      all_goals refine cut_end (by k_asm) (by k_asm) (fun _ h => by first | exact h | exact List.mem_cons_of_mem _ h) ⟨?_, ?_, fun y h1 h2 => by simp [h1, h2]⟩
      · exact at_int rfl (hex_1 km (by assumption) (by assumption)).1
      · exact at_int rfl (hex_1 km (by assumption) (by assumption)).2
      · exact at_int rfl (hex_2 (.inr (by assumption))).1
      · exact at_int rfl (hex_2 (.inr (by assumption))).2
      · exact at_int rfl (hex_2 (.inl (by assumption))).1
      · exact at_int rfl (hex_2 (.inl (by assumption))).2
    · (try k_fold)
      k_steps
      all_goals refine cut_end (by k_asm) (by k_asm) (fun _ h => h) ⟨?_, ?_, fun y h1 h2 => by simp [h1, h2]⟩
      · exact at_int rfl (hex_3 km).1
      · exact at_int rfl (hex_3 km).2
  intro m' h tk hJ F N
  obtain ⟨⟨t, j1⟩, ⟨t, j2⟩, j3⟩ := hJ
  obtain rfl := norm2 j1 j2 j3
  clear j1 j2 j3
  k_sweep
  have ka := a2_le (l := l) (base := base)
  have kb3 : b2 l base = 0 → b3 l base = 10 := fun h => if_pos h
  have kb4 : b2 l base ≠ 0 → b3 l base = b2 l base := fun h => if_neg h
  have kb := b2_rng (l := l) hb
  have kf1 : b2 l base = 0 → foldD 10 0 (runD l 10 (a2 l base : Int).toNat) < 9223372036854775808 := fun h => by have := hf.lt; rw [kb3 h] at this; rw [Int.toNat_natCast]; exact this
  have kf2 : b2 l base ≠ 0 → foldD (b2 l base) 0 (runD l (b2 l base) (a2 l base : Int).toNat) < 9223372036854775808 := fun h => by have := hf.lt; rw [kb4 h] at this; rw [Int.toNat_natCast]; exact this
  (try k_fold)
  k_steps
  all_goals refine Ct.fin hret (by k_asm) (by k_asm) ?_
  all_goals first | (have kb5 := kb3 (by assumption)) | (have kb5 := kb4 (by assumption)) | (have kb5 := kb4 (by omega))
  all_goals first
    | exact ex_optN (tib_n1 kb5 (by assumption)) (fun _ h => List.mem_cons_of_mem _ h)
    | exact ex_optN (tib_n2 kb5 (by assumption)) (fun _ h => List.mem_cons_of_mem _ h)
    | exact ex_optS (tib_s1 kb5 (by assumption) (by assumption) (by assumption)) (fun _ h => List.mem_cons_of_mem _ h)
    | exact ex_optS (tib_s2 kb5 (by assumption) (by assumption) (by assumption)) (fun _ h => List.mem_cons_of_mem _ h)
end
section
set_option maxRecDepth 100000
set_option maxHeartbeats 8000000
variable {w : World} {p : Program} {loose : List Str} {mean : ExcName → Option Value} {mg mb : Str → Option Value}
theorem rows_C9_0 : True := by
  k_with_none
  k_with "enter" => (refine' code_defP ?k1Zq ?k2Zq ?k3Zq ?k4Zq ?k5Zq ?kAZq ?kFZq ?kKZq ?k6Zq ?p1Zq ?p2Zq ?p3Zq ?k7Zq ?k8Zq ?k9Zq ?kBZq ?_ ?c2Zq ?c3Zq ?c4Zq ?c5Zq; (case kAZq => exact rfl); (case kFZq => exact rfl); (case kKZq => assumption); (case k1Zq => k_asm); (case k2Zq => k_asm); (case k3Zq => k_asm); (case k4Zq => k_asm); (case k5Zq => k_asm); (case k6Zq => k_is); (case p1Zq => conv => lhs; whnf); (case p2Zq => conv => lhs; whnf); (case p3Zq => conv => lhs; whnf); (case k7Zq => k_is); (case k8Zq => ktr_room); (case k9Zq => exact BindsTo.of_eq rfl); (case c5Zq => decide); (case kBZq => exact locs rfl); (case c2Zq => exact rfl); (case c3Zq => exact rfl); (case c4Zq => exact rfl); k_whole; intro g' L' h' FG' F' N' B' X' T'; (try dsimp only); (try k_lift B'); (try k_fold))
  k_with "kenter" => (refine' code_defP ?k1Zq ?k2Zq ?k3Zq ?k4Zq ?k5Zq ?kAZq ?kFZq ?kKZq ?k6Zq ?p1Zq ?p2Zq ?p3Zq ?k7Zq ?k8Zq ?k9Zq ?kBZq ?_ ?c2Zq ?c3Zq ?c4Zq ?c5Zq; (case kAZq => exact rfl); (case kFZq => exact rfl); (case kKZq => exact rfl); (case k1Zq => k_asm); (case k2Zq => k_asm); (case k3Zq => k_asm); (case k4Zq => k_asm); (case k5Zq => k_asm); (case k6Zq => k_is); (case p1Zq => conv => lhs; whnf); (case p2Zq => conv => lhs; whnf); (case p3Zq => conv => lhs; whnf); (case k7Zq => k_is); (case k8Zq => k_room); (case k9Zq => first | exact BindsTo.of_eq rfl | exact binds_K (by k_in) rfl (by k_is) rfl rfl rfl); (case c5Zq => decide); (case kBZq => exact locs rfl); (case c2Zq => exact rfl); (case c3Zq => exact rfl); (case c4Zq => exact rfl); k_whole; intro g' L' h' FG' F' N' B' X' T'; (try dsimp only); (try k_lift B'); (try k_fold))
  k_with "compareOp In int bytes" => (k_here; k_dflt (first | refine in_bytes_u8 ?_ | refine in_bytes (by omega) ?_))
  k_with "mem" => (assumption)
  k_with "ite" => (first | with_reducible refine ite_tt ?_ | with_reducible refine ite_ff ?_ | with_reducible refine ite_T ?_ | with_reducible refine ite_F ?_ | with_reducible refine split_not ?_)
  trivial
noncomputable def picked (place count : Int) : Option Int :=
  let q := if place < 0 then count + place else if count < place then count else place
  if 1 ≤ q then some (count - q) else none
theorem picked_from_ct (i j : Int) (t t' : Tok) (news : Led) :
    Ct w p loose mean mg mb 204 [.int i t, .int j t'] news 1 (fun t => optV (picked i j) t) (fun _ => news) (fun _ => True) := by
  (unfold Ct; k_fill; intro dpZ unZ gdZ cnZ csZ aZ ccdZ clZ outerZ AZ baseZ hZ LZ mZ sZ QZ EZ BZ FZ XZ NZ TZ hkZ hdZ huZ hret; refine wpAny_call ?_; k_dflt k_extra "enter"; k_steps)
  all_goals refine Ct.fin hret (by k_asm) (by k_asm) ?_
  all_goals first
    | exact ex_optS (by unfold picked; simp only []; (repeat' split) <;> first | omega | rfl | (congr 1; done) | (congr 1; omega)) (fun _ h => h)
    | exact ex_optN (by unfold picked; simp only []; (repeat' split) <;> first | omega | rfl) (fun _ h => h)
end
section
open PySem PySem.Spec PySem.Calls PySem.W PyProof.Rows
set_option maxRecDepth 100000
section
variable {prog : Program} {w : World} {A : Around} {E : Value → Shared → Prop} {s : Shared} {t u : Tok} {Q : Value → Shared → Prop}
theorem len_ints {D : Addr} {ws : List Value} {ks : List Int} (hl : s.heap.IsList D ws.toArray) (hi : IntsAre ws ks) (hb : ks.length < 1000000) (h : ∀ t' k, Q (.int (ks.length : Int) t') { s with toks := k }) :
    wpAny (model prog w) A (call (.builtin "len") [.ref D]) Q E s := by
  have e : ws.toArray.size = ks.length := by rw [List.size_toArray, hi.length]
  refine len_list hl (by rw [e]; omega) ?_
  rw [e]
  exact h _ _
theorem eq_opt_int {o : Option Int} {j : Int} (e : o = some j) (h : Q (.bool true) s) : wpAny (model prog w) A (compareOp .Eq (optV o t) (.int j u)) Q E s := by
  rw [e]
  exact eq_int (by rw [show (j == j) = true from beq_self_eq_true j]; exact h)
theorem eq_opt_none {o : Option Int} (e : o = none) (h : Q (.bool true) s) : wpAny (model prog w) A (compareOp .Eq (optV o t) .none) Q E s := by
  rw [e]
  exact EqNone.eq_none_none h
end
theorem row1 {a r : Int} (ha : 0 ≤ a ∧ a < 6) (hp : 0 < r - 7) (hr : r < 15) : picked (r - 7) (((rangeKs 0 (a - 0).toNat).length : Int) + 1) = some ((List.drop (r - 7 - 1).toNat (rangeKs 0 (a - 0).toNat)).length : Int) := by
  rw [List.length_drop, rangeKs_length]
  unfold picked
  simp only []
  rw [if_neg (show ¬ r - 7 < 0 by omega)]
  by_cases hc : (((a - 0).toNat : Nat) : Int) + 1 < r - 7
  · rw [if_pos hc, if_pos (by omega)]; congr 1; omega
  · rw [if_neg hc, if_pos (by omega)]; congr 1; omega
theorem row2 {a r : Int} (_ : 0 ≤ a ∧ a < 6) (hp : r - 7 < 0) (hr : 0 - (r - 7) ≤ ((rangeKs 0 (a - 0).toNat).length : Int)) : picked (r - 7) (((rangeKs 0 (a - 0).toNat).length : Int) + 1) = some ((List.drop ((rangeKs 0 (a - 0).toNat).length - (-(r - 7)).toNat) (rangeKs 0 (a - 0).toNat)).length : Int) := by
  rw [rangeKs_length] at hr
  rw [List.length_drop, rangeKs_length]
  unfold picked
  simp only []
  rw [if_pos hp, if_pos (by omega)]; congr 1; omega
theorem row3 {a r : Int} (_ : 0 ≤ a ∧ a < 6) (hp : ¬ 0 < r - 7) (hr : ¬ r - 7 < 0 ∨ ¬ 0 - (r - 7) ≤ ((rangeKs 0 (a - 0).toNat).length : Int)) : picked (r - 7) (((rangeKs 0 (a - 0).toNat).length : Int) + 1) = none := by
  rw [rangeKs_length] at *
  unfold picked
  simp only []
  rw [if_neg (by split <;> (try split) <;> omega)]
theorem keyc (a b : Int) : Value.bool (max 0 (b - 4 - (a - 4) + 1) == ((rangeKs (a - 4) (b - 4 + 1 - (a - 4)).toNat).length : Int)) = Value.bool true := by
  rw [rangeKs_length]
  congr 1
  rw [beq_iff_eq]
  omega
end
section
open PySem PySem.Spec PySem.Calls PySem.W PyProof.Rows
set_option maxRecDepth 100000
structure SameT (l : List UInt8) (base : Int) : Prop where
  eq : tib l base = worth l base
structure TibIs (l : List UInt8) (base i : Int) : Prop where
  eq : tib l base = some i
section
variable {prog : Program} {w : World} {A : Around} {E : Value → Shared → Prop} {s : Shared} {t u : Tok} {Q : Value → Shared → Prop}
theorem eq_opt_opt {o o' : Option Int} (e : o = o') (h : Q (.bool true) s) : wpAny (model prog w) A (compareOp .Eq (optV o t) (optV o' u)) Q E s := by
  rw [e]
  cases o' with
  | none => exact EqNone.eq_none_none h
  | some j => exact eq_int (by rw [show (j == j) = true from beq_self_eq_true j]; exact h)
theorem ne_opt_int {o : Option Int} {j : Int} (e : o = some j) (h : Q (.bool false) s) : wpAny (model prog w) A (compareOp .NotEq (optV o t) (.int j u)) Q E s := by
  rw [e]
  exact ne_int (by rw [show (j != j) = false from by simp]; exact h)
theorem eq_tw {l : List UInt8} {base : Int} (e : SameT l base) (h : Q (.bool true) s) : wpAny (model prog w) A (compareOp .Eq (optV (tib l base) t) (optV (worth l base) u)) Q E s := eq_opt_opt e.eq h
theorem eq_ti {l : List UInt8} {base i : Int} (e : TibIs l base i) (h : Q (.bool true) s) : wpAny (model prog w) A (compareOp .Eq (optV (tib l base) t) (.int i u)) Q E s := eq_opt_int e.eq h
theorem ne_ti {l : List UInt8} {base i : Int} (e : TibIs l base i) (h : Q (.bool false) s) : wpAny (model prog w) A (compareOp .NotEq (optV (tib l base) t) (.int i u)) Q E s := ne_opt_int e.eq h
theorem ne_same {j : Int} (h : Q (.bool false) s) : wpAny (model prog w) A (compareOp .NotEq (.int j t) (.int j u)) Q E s :=
  ne_int (by rw [show (j != j) = false from by simp]; exact h)
end
end
section
open PySem PySem.Spec PySem.Calls PySem.W PyProof.Rows
set_option maxRecDepth 100000
noncomputable abbrev qb (b : UInt8) : Bool := blank b.toNat
theorem blank_facts (b : UInt8) (h : qb b = true) : digitOf b.toNat = -1 ∧ b ≠ 43 ∧ b ≠ 45 ∧ b ≠ 48 ∧ b ≠ 120 ∧ b ≠ 88 := by
  have : ∀ i : _root_.Fin 256, qb (UInt8.ofNat i.val) = true → digitOf (UInt8.ofNat i.val).toNat = -1 ∧ UInt8.ofNat i.val ≠ 43 ∧ UInt8.ofNat i.val ≠ 45 ∧ UInt8.ofNat i.val ≠ 48 ∧ UInt8.ofNat i.val ≠ 120 ∧ UInt8.ofNat i.val ≠ 88 := by decide +kernel
  have h2 := this ⟨b.toNat, b.toNat_lt⟩
  simp only [UInt8.ofNat_toNat] at h2
  exact h2 h
theorem not_dig_blank (B : Int) (b : UInt8) (h : qb b = true) : digB B b = false := by
  unfold digB
  rw [(blank_facts b h).1]; rfl
noncomputable def rSign : List UInt8 → List UInt8
  | [] => []
  | c :: cs => if c = 43 ∨ c = 45 then cs else c :: cs
theorem rSign_cons (c : UInt8) (cs : List UInt8) : rSign (c :: cs) = if c = 43 ∨ c = 45 then cs else c :: cs := rfl
noncomputable def rNeg : List UInt8 → Bool
  | [] => false
  | c :: _ => decide (c = 45)
noncomputable def rHex (r : List UInt8) (base : Int) : Bool := match r with
  | a :: x :: h :: _ => decide (base = 0 ∨ base = 16) && decide (a = 48) && decide (x = 120 ∨ x = 88) && decide (0 ≤ digitOf h.toNat ∧ digitOf h.toNat < 16)
  | _ => false
noncomputable def rWord (core : List UInt8) (base : Int) : List UInt8 := if rHex (rSign core) base = true then (rSign core).drop 2 else rSign core
noncomputable def rBase (core : List UInt8) (base : Int) : Int := if rHex (rSign core) base = true then 16 else if base = 0 then 10 else base
noncomputable def coreT (core : List UInt8) (base : Int) : Option Int :=
  if rWord core base = [] ∨ (rWord core base).all (digB (rBase core base)) = false then none
  else some (if rNeg core = true then - foldD (rBase core base) 0 (rWord core base) else foldD (rBase core base) 0 (rWord core base))
structure Split (l pre core post : List UInt8) : Prop where
  eq : l = pre ++ (core ++ post)
  pre : ∀ b ∈ pre, qb b = true
  post : ∀ b ∈ post, qb b = true
  head : ∀ c cs, core = c :: cs → qb c = false
  last : ∀ c, core.getLast? = some c → qb c = false
theorem tw_all {α : Type} {q : α → Bool} : ∀ {l r : List α}, (∀ b ∈ l, q b = true) → (l ++ r).takeWhile q = l ++ r.takeWhile q
  | [], r, _ => rfl
  | x :: l, r, h => by
    rw [List.cons_append, List.takeWhile_cons, h x List.mem_cons_self]
    simp only [if_true]
    rw [tw_all (fun b hb => h b (List.mem_cons_of_mem _ hb))]; rfl
theorem tw_none {α : Type} {q : α → Bool} : ∀ {l : List α}, (∀ b ∈ l, q b = false) → l.takeWhile q = []
  | [], _ => rfl
  | x :: l, h => by rw [List.takeWhile_cons, h x List.mem_cons_self]; rfl
theorem tw_tail {α : Type} {q : α → Bool} : ∀ {l r : List α}, (∀ b ∈ r, q b = false) → (l ++ r).takeWhile q = l.takeWhile q
  | [], r, h => by rw [List.nil_append, tw_none h]; rfl
  | x :: l, r, h => by
    rw [List.cons_append, List.takeWhile_cons, List.takeWhile_cons]
    split
    · rw [tw_tail h]
    · rfl
theorem skip_core {l pre core post : List UInt8} {c : UInt8} {cs : List UInt8} (S : Split l pre core post) (hc : core = c :: cs) : skipB l 0 = pre.length := by
  unfold skipB
  rw [List.drop_zero, Nat.zero_add, S.eq, tw_all S.pre, hc, List.cons_append, List.takeWhile_cons]
  have := S.head c cs hc
  show (pre ++ if qb c = true then _ else []).length = _
  rw [this]; simp
theorem getD_split {l pre x : List UInt8} (h : l = pre ++ x) (k : Nat) : l.getD (pre.length + k) 0 = x.getD k 0 := by
  rw [h, List.getD_eq_getElem?_getD, List.getD_eq_getElem?_getD, List.getElem?_append_right (by omega)]
  congr 2; omega
theorem a1_core {l pre core post : List UInt8} {c : UInt8} {cs : List UInt8} (S : Split l pre core post) (hc : core = c :: cs) :
    ∃ p, l = p ++ (rSign core ++ post) ∧ a1 l = p.length ∧ below l = rNeg core := by
  have hs := skip_core S hc
  have hl : l.length = pre.length + (cs.length + 1 + post.length) := by rw [S.eq, hc]; simp; omega
  have g0 : l.getD pre.length 0 = c := by
    have := getD_split S.eq 0
    rw [Nat.add_zero] at this
    rw [this, hc]; rfl
  have hb : below l = rNeg core := by
    unfold below
    rw [hs, g0, hc]
    unfold rNeg
    congr 1
    rw [eq_iff_iff]
    exact ⟨fun h => h.2, fun h => ⟨by omega, h⟩⟩
  by_cases hsg : c = 43 ∨ c = 45
  · refine ⟨pre ++ [c], ?_, ?_, hb⟩
    · rw [S.eq, hc, rSign_cons, if_pos hsg]; simp
    · unfold a1
      rw [hs, g0, if_pos ⟨by omega, hsg⟩]; simp
  · refine ⟨pre, ?_, ?_, hb⟩
    · rw [S.eq, hc, rSign_cons, if_neg hsg]
    · unfold a1
      rw [hs, g0, if_neg (fun h => hsg h.2)]
theorem hex_core {l p r post : List UInt8} {base : Int} (hl : l = p ++ (r ++ post)) (ha : a1 l = p.length) (hp : ∀ b ∈ post, qb b = true) :
    (mark l base = true ∧ hexy l = true) ↔ rHex r base = true := by
  have g : ∀ k, l.getD (a1 l + k) 0 = (r ++ post).getD k 0 := fun k => by rw [ha]; exact getD_split hl k
  have g0 := g 0
  rw [Nat.add_zero] at g0
  have hlen : l.length = p.length + (r ++ post).length := by rw [hl]; simp
  have hm : mark l base = true ↔ (2 < (r ++ post).length ∧ (r ++ post).getD 0 0 = 48 ∧ ((r ++ post).getD 1 0 = 120 ∨ (r ++ post).getD 1 0 = 88) ∧ (base = 0 ∨ base = 16)) := by
    unfold mark
    rw [decide_eq_true_eq, g0, g 1, ha]
    constructor
    · rintro ⟨h1, h2⟩; exact ⟨by omega, h2⟩
    · rintro ⟨h1, h2⟩; exact ⟨by omega, h2⟩
  have hh : hexy l = true ↔ (0 ≤ digitOf ((r ++ post).getD 2 0).toNat ∧ digitOf ((r ++ post).getD 2 0).toNat < 16) := by
    unfold hexy
    rw [decide_eq_true_eq, g 2]
  rw [hm, hh]
  match r with
  | [] =>
    cases post with
    | nil => simp [rHex]
    | cons b post =>
      have := blank_facts b (hp b List.mem_cons_self)
      constructor
      · rintro ⟨⟨_, h, _⟩, _⟩; exact absurd h this.2.2.2.1
      · intro h; cases h
  | [x] =>
    cases post with
    | nil => simp [rHex]
    | cons b post =>
      have := blank_facts b (hp b List.mem_cons_self)
      constructor
      · rintro ⟨⟨_, _, h, _⟩, _⟩
        rcases h with h | h
        · exact absurd h this.2.2.2.2.1
        · exact absurd h this.2.2.2.2.2
      · intro h; cases h
  | [x, y] =>
    cases post with
    | nil => simp [rHex]
    | cons b post =>
      have := (blank_facts b (hp b List.mem_cons_self)).1
      constructor
      · rintro ⟨_, h, _⟩
        have e : ([x, y] ++ b :: post).getD 2 0 = b := rfl
        rw [e, this] at h
        omega
      · intro h; cases h
  | x :: y :: z :: r =>
    show (2 < (r ++ post).length + 3 ∧ x = 48 ∧ (y = 120 ∨ y = 88) ∧ (base = 0 ∨ base = 16)) ∧ (0 ≤ digitOf z.toNat ∧ digitOf z.toNat < 16) ↔ _
    unfold rHex
    simp only [Bool.and_eq_true, decide_eq_true_eq]
    constructor
    · rintro ⟨⟨_, h1, h2, h3⟩, h4⟩; exact ⟨⟨⟨h3, h1⟩, h2⟩, h4⟩
    · rintro ⟨⟨⟨h3, h1⟩, h2⟩, h4⟩; exact ⟨⟨by omega, h1, h2, h3⟩, h4⟩
theorem rHex_len {base : Int} : ∀ {r : List UInt8}, rHex r base = true → 2 ≤ r.length
  | [], h => by cases h
  | [_], h => by cases h
  | [_, _], h => by cases h
  | _ :: _ :: _ :: _, _ => by simp only [List.length_cons]; omega
theorem drop_len {α : Type} (a b : List α) : (a ++ b).drop a.length = b := by simp
theorem run_core {l pre core post : List UInt8} {c : UInt8} {cs : List UInt8} {base : Int} (S : Split l pre core post) (hc : core = c :: cs) :
    ∃ p, l = p ++ (rWord core base ++ post) ∧ a2 l base = p.length ∧ b3 l base = rBase core base ∧ below l = rNeg core ∧ runD l (b3 l base) (a2 l base) = (rWord core base).takeWhile (digB (rBase core base)) := by
  obtain ⟨p, hl, ha, hb⟩ := a1_core S hc
  have hx := hex_core (base := base) hl ha S.post
  have hrun : ∀ p : List UInt8, l = p ++ (rWord core base ++ post) → a2 l base = p.length → b3 l base = rBase core base → runD l (b3 l base) (a2 l base) = (rWord core base).takeWhile (digB (rBase core base)) := by
    intro p h1 h2 h3
    unfold runD
    rw [h2, h3]
    conv => lhs; rw [h1]
    rw [drop_len, tw_tail (fun b hb => not_dig_blank _ b (S.post b hb))]
  by_cases h : rHex (rSign core) base = true
  · have hm := hx.mpr h
    have e2 : a2 l base = a1 l + 2 := by unfold a2; rw [if_pos hm]
    have e3 : b2 l base = 16 := by unfold b2; rw [if_pos hm]
    have e4 : b3 l base = rBase core base := by unfold b3 rBase; rw [e3, if_pos h]; rfl
    have e5 : rWord core base = (rSign core).drop 2 := by unfold rWord; rw [if_pos h]
    have hlen : 2 ≤ (rSign core).length := rHex_len h
    have e6 : l = (p ++ (rSign core).take 2) ++ (rWord core base ++ post) := by
      rw [e5, List.append_assoc, ← List.append_assoc ((rSign core).take 2), List.take_append_drop]; exact hl
    have e7 : a2 l base = (p ++ (rSign core).take 2).length := by
      rw [e2, ha, List.length_append, List.length_take]; omega
    exact ⟨_, e6, e7, e4, hb, hrun _ e6 e7 e4⟩
  · have hm : ¬ (mark l base = true ∧ hexy l = true) := fun q => h (hx.mp q)
    have e2 : a2 l base = a1 l := by unfold a2; rw [if_neg hm]
    have e3 : b2 l base = base := by unfold b2; rw [if_neg hm]
    have e4 : b3 l base = rBase core base := by unfold b3 rBase; rw [e3, if_neg h]
    have e5 : rWord core base = rSign core := by unfold rWord; rw [if_neg h]
    have e6 : l = p ++ (rWord core base ++ post) := by rw [e5]; exact hl
    exact ⟨p, e6, by rw [e2, ha], e4, hb, hrun _ e6 (by rw [e2, ha]) e4⟩
end
section
open PySem PySem.Spec PySem.Calls PySem.W PyProof.Rows
set_option maxRecDepth 100000
theorem tw_lt {α : Type} {q : α → Bool} : ∀ {l : List α}, (∃ b ∈ l, q b = false) → (l.takeWhile q).length < l.length
  | [], h => by obtain ⟨_, h, _⟩ := h; cases h
  | x :: l, h => by
    rw [List.takeWhile_cons]
    cases hx : q x with
    | false => simp
    | true =>
      simp only [if_true, List.length_cons]
      have : ∃ b ∈ l, q b = false := by
        obtain ⟨b, hb, hq⟩ := h
        rcases List.mem_cons.mp hb with rfl | hb
        · rw [hx] at hq; cases hq
        · exact ⟨b, hb, hq⟩
      have := tw_lt this
      omega
theorem suffix_word (core : List UInt8) (base : Int) : ∃ a, core = a ++ rWord core base := by
  have h1 : ∃ a, core = a ++ rSign core := by
    cases core with
    | nil => exact ⟨[], rfl⟩
    | cons c cs =>
      rw [rSign_cons]
      split
      · exact ⟨[c], rfl⟩
      · exact ⟨[], rfl⟩
  obtain ⟨a, ha⟩ := h1
  unfold rWord
  split
  · refine ⟨a ++ (rSign core).take 2, ?_⟩
    rw [List.append_assoc, List.take_append_drop]; exact ha
  · exact ⟨a, ha⟩
theorem all_tw {q : UInt8 → Bool} : ∀ {l : List UInt8}, l.all q = true → l.takeWhile q = l
  | [], _ => rfl
  | x :: l, h => by
    rw [List.all_cons, Bool.and_eq_true] at h
    rw [List.takeWhile_cons, h.1]
    simp only [if_true]
    rw [all_tw h.2]
theorem not_all_split {q : UInt8 → Bool} : ∀ {l : List UInt8}, l.all q = false → ∃ x r, l = l.takeWhile q ++ x :: r
  | [], h => by cases h
  | x :: l, h => by
    rw [List.takeWhile_cons]
    cases hx : q x with
    | false => exact ⟨x, l, rfl⟩
    | true =>
      rw [List.all_cons, hx, Bool.true_and] at h
      obtain ⟨y, r, e⟩ := not_all_split h
      refine ⟨y, r, ?_⟩
      simp only [if_true, List.cons_append]
      rw [← e]
theorem tib_core {l pre core post : List UInt8} {base : Int} (S : Split l pre core post) : tib l base = coreT core base := by
  cases hc : core with
  | nil =>
    have hn : coreT [] base = none := by unfold coreT; rw [if_pos (.inl (by unfold rWord; simp [rSign, rHex]))]
    rw [hn]
    have hl : l = pre ++ post := by rw [S.eq, hc]; rfl
    have hall : ∀ b ∈ l, qb b = true := by
      intro b hb; rw [hl] at hb
      exact (List.mem_append.mp hb).elim (S.pre b) (S.post b)
    have hs : skipB l 0 = l.length := by
      unfold skipB
      rw [List.drop_zero, Nat.zero_add]
      have := tw_all (l := l) (r := []) hall
      rw [List.append_nil] at this
      rw [this]; simp
    have h1 : a1 l = l.length := by
      unfold a1; rw [hs, if_neg (by omega)]
    have hm : mark l base = false := by unfold mark; rw [h1]; exact decide_eq_false (by omega)
    have h2 : a2 l base = l.length := by
      unfold a2; rw [if_neg (by rw [hm]; simp), h1]
    unfold tib
    refine if_pos (.inl ?_)
    unfold runD
    rw [h2, List.drop_eq_nil_of_le (Nat.le_refl _)]
    rfl
  | cons c cs =>
    obtain ⟨p, hl, ha2, hb3, hbel, hrun⟩ := run_core (base := base) S hc
    rw [← hc]
    unfold tib coreT
    rw [hrun, hb3, hbel, ha2]
    have hlen : l.length = p.length + ((rWord core base).length + post.length) := by conv => lhs; rw [hl]
                                                                                     simp
    cases hall : (rWord core base).all (digB (rBase core base)) with
    | true =>
      rw [all_tw hall]
      have hsk : skipB l (p.length + (rWord core base).length) = l.length := by
        unfold skipB
        have e : l.drop (p.length + (rWord core base).length) = post := by
          conv => lhs; rw [hl]
          rw [← List.append_assoc, ← List.length_append, drop_len]
        rw [e]
        have := tw_all (l := post) (r := []) S.post
        rw [List.append_nil] at this
        rw [this]
        simp only [List.takeWhile_nil, List.append_nil]
        omega
      rw [hsk]
      by_cases hw : rWord core base = []
      · rw [if_pos (.inl (by rw [hw]; rfl)), if_pos (.inl hw)]
      · have k2 : ¬ (rWord core base = [] ∨ true = false) := by rintro (h | h); exact hw h; cases h
        rw [if_neg (by rintro (h | h); exact hw (List.eq_nil_of_length_eq_zero h); exact h rfl), if_neg k2]
    | false =>
      have k2 : rWord core base = [] ∨ false = false := .inr rfl
      rw [if_pos k2]
      refine if_pos (.inr ?_)
      obtain ⟨x, r, e⟩ := not_all_split hall
      obtain ⟨a, hcw⟩ := suffix_word core base
      generalize hD : (rWord core base).takeWhile (digB (rBase core base)) = D at e
      have e2 : l.drop (p.length + D.length) = (x :: r) ++ post := by
        conv => lhs; rw [hl, e]
        rw [List.append_assoc, ← List.append_assoc, ← List.length_append, drop_len]
      have hlast : ∃ b ∈ x :: r, qb b = false := by
        have : core.getLast? = (x :: r).getLast? := by
          rw [hcw, e, ← List.append_assoc, List.getLast?_append]
          simp [List.getLast?_cons]
        obtain ⟨b, hb⟩ : ∃ b, (x :: r).getLast? = some b := ⟨_, List.getLast?_eq_some_getLast (by simp)⟩
        refine ⟨b, List.mem_of_getLast? hb, S.last b (by rw [this, hb])⟩
      have hlt := tw_lt (q := qb) (l := (x :: r) ++ post) (by obtain ⟨b, hb, hq⟩ := hlast; exact ⟨b, List.mem_append_left _ hb, hq⟩)
      have hwl := congrArg List.length e
      simp only [List.length_append, List.length_cons] at hwl hlt
      unfold skipB
      rw [e2]
      show _ + (((x :: r) ++ post).takeWhile qb).length ≠ _
      omega
abbrev AscP (c : UInt8) : Prop := (low c = 45 ↔ c = 45) ∧ (low c = 43 ↔ c = 43) ∧ (low c = 48 ↔ c = 48) ∧ (low c = 120 ↔ c = 120 ∨ c = 88) ∧ (hexD [low c] = true ↔ 0 ≤ digitOf c.toNat ∧ digitOf c.toNat < 16) ∧ findI ((low c).toNat : Int) = digitOf c.toNat
theorem asc_p (c : UInt8) (h : c.toNat < 128) : AscP c := by
  have : ∀ i : _root_.Fin 128, AscP (UInt8.ofNat i.val) := by decide +kernel
  have h2 := this ⟨c.toNat, h⟩
  simp only [UInt8.ofNat_toNat] at h2
  exact h2
theorem sign_low {core : List UInt8} (ha : Asc core) : wSign (core.map low) = (rSign core).map low ∧ wBelow (core.map low) = rNeg core := by
  cases core with
  | nil => exact ⟨rfl, rfl⟩
  | cons c cs =>
    obtain ⟨h1, h2, _⟩ := asc_p c (ha c List.mem_cons_self)
    have e : ((c :: cs).map low).take 1 = [low c] := rfl
    constructor
    · unfold wSign
      rw [e, rSign_cons]
      by_cases h : c = 43 ∨ c = 45
      · rw [if_pos h, if_pos (by rcases h with h | h; right; rw [h2.mpr h]; left; rw [h1.mpr h])]; rfl
      · rw [if_neg h, if_neg (by rintro (q | q); exact h (.inr (h1.mp (by injection q))); exact h (.inl (h2.mp (by injection q))))]
    · unfold wBelow rNeg
      rw [e, Bool.eq_iff_iff, beq_iff_eq, decide_eq_true_eq]
      exact ⟨fun q => h1.mp (by injection q), fun q => by rw [h1.mpr q]⟩
theorem mark_low {r : List UInt8} {base : Int} (ha : Asc r) : wMark (r.map low) base = rHex r base := by
  match r with
  | [] => unfold wMark; simp [rHex]
  | [x] => unfold wMark; simp [rHex]
  | [x, y] =>
    unfold wMark
    have : hexD (([x, y].map low).drop 2 |>.take 1) = false := rfl
    rw [this]; simp [rHex]
  | x :: y :: z :: r =>
    obtain ⟨_, _, h48, _⟩ := asc_p x (ha x List.mem_cons_self)
    obtain ⟨_, _, _, hx, _⟩ := asc_p y (ha y (by simp))
    obtain ⟨_, _, _, _, hh, _⟩ := asc_p z (ha z (by simp))
    have e1 : ((x :: y :: z :: r).map low).take 2 = [low x, low y] := rfl
    have e2 : (((x :: y :: z :: r).map low).drop 2).take 1 = [low z] := rfl
    unfold wMark rHex
    rw [e1, e2, Bool.eq_iff_iff]
    simp only [Bool.and_eq_true, decide_eq_true_eq, beq_iff_eq, List.cons.injEq, and_true]
    rw [hh, h48, hx]
    constructor
    · rintro ⟨⟨a, b, c⟩, d⟩; exact ⟨⟨⟨a, b⟩, c⟩, d⟩
    · rintro ⟨⟨⟨a, b⟩, c⟩, d⟩; exact ⟨⟨a, b, c⟩, d⟩
theorem fold_low {B : Int} : ∀ {W : List UInt8} {f : Int}, Asc W → wFold B (codesU (W.map low)) f = if W.all (digB B) = true then some (foldD B f W) else none
  | [], f, _ => rfl
  | c :: W, f, ha => by
    have hd := (asc_p c (ha c List.mem_cons_self)).2.2.2.2.2
    have ih := fold_low (B := B) (W := W) (f := f * B + digitOf c.toNat) (fun x hx => ha x (List.mem_cons_of_mem _ hx))
    show (if findI ((low c).toNat : Int) < 0 ∨ B ≤ findI ((low c).toNat : Int) then none else wFold B (codesU (W.map low)) (f * B + findI ((low c).toNat : Int))) = _
    rw [hd, ih, List.all_cons]
    by_cases hb : digitOf c.toNat < 0 ∨ B ≤ digitOf c.toNat
    · have : digB B c = false := by
        unfold digB
        rw [Bool.and_eq_false_iff, decide_eq_false_iff_not, decide_eq_false_iff_not]; omega
      rw [if_pos hb, this]; rfl
    · have : digB B c = true := by
        unfold digB
        rw [Bool.and_eq_true, decide_eq_true_eq, decide_eq_true_eq]; omega
      rw [if_neg hb, this, Bool.true_and]; rfl
theorem worth_core {l : List UInt8} {base : Int} (ha : Asc (stripW l)) : worth l base = coreT (stripW l) base := by
  unfold worth worthW
  generalize stripW l = core at ha
  obtain ⟨hs, hb⟩ := sign_low ha
  have har : Asc (rSign core) := by
    obtain ⟨a, e⟩ := suffix_word core 10
    intro c hc
    cases core with
    | nil => cases hc
    | cons x xs =>
      rw [rSign_cons] at hc
      split at hc
      · exact ha c (List.mem_cons_of_mem _ hc)
      · exact ha c hc
  have hm := mark_low (base := base) har
  have hw : wWord (core.map low) base = (rWord core base).map low := by
    unfold wWord rWord
    rw [hs, hm]
    split
    · rw [List.map_drop]
    · rfl
  have hB : wBase (core.map low) base = rBase core base := by
    unfold wBase rBase
    rw [hs, hm]
  have haw : Asc (rWord core base) := by
    obtain ⟨a, e⟩ := suffix_word core base
    intro c hc
    exact ha c (by rw [e]; exact List.mem_append_right _ hc)
  rw [hw, hB, hb, fold_low haw]
  unfold coreT
  cases hall : (rWord core base).all (digB (rBase core base)) with
  | false =>
    rw [if_neg Bool.false_ne_true, if_pos (.inr rfl)]
  | true =>
    rw [if_pos rfl]
    dsimp only
    by_cases h : rWord core base = []
    · rw [if_pos (by rw [h]; rfl), if_pos (.inl h)]
    · have k2 : ¬ (rWord core base = [] ∨ true = false) := by rintro (q | q); exact h q; cases q
      rw [if_neg (by intro q; exact h (List.map_eq_nil_iff.mp q)), if_neg k2]
end
section
open PySem PySem.Spec PySem.Calls PySem.W PyProof.Rows
set_option maxRecDepth 100000
theorem digC_facts (d : Nat) (h : d < 36) : digitOf (digC d).toNat = (d : Int) ∧ digC d ≠ 43 ∧ digC d ≠ 45 ∧ qb (digC d) = false ∧ (d < 16 → digC d ≠ 120 ∧ digC d ≠ 88) := by
  have : ∀ i : _root_.Fin 36, digitOf (digC i.val).toNat = (i.val : Int) ∧ digC i.val ≠ 43 ∧ digC i.val ≠ 45 ∧ qb (digC i.val) = false ∧ (i.val < 16 → digC i.val ≠ 120 ∧ digC i.val ≠ 88) := by decide +kernel
  exact this ⟨d, h⟩
theorem digs_mem {b : Nat} (hb : 2 ≤ b ∧ b ≤ 36) : ∀ (k n : Nat), n ≤ k → ∀ c ∈ digs b n, ∃ d, d < b ∧ c = digC d
  | k, n, h, c, hc => by
    unfold digs at hc
    have hm : n % b < b := Nat.mod_lt _ (by omega)
    split at hc
    · rename_i hbn
      rcases List.mem_append.mp hc with hc | hc
      · cases k with
        | zero => omega
        | succ k => exact digs_mem hb k (n / b) (by have := Nat.div_lt_self (n := n) (k := b) (by omega) (by omega); omega) c hc
      · exact ⟨_, hm, List.mem_singleton.mp hc⟩
    · exact ⟨_, hm, List.mem_singleton.mp hc⟩
theorem foldD_snoc (B f : Int) (xs : List UInt8) (c : UInt8) : foldD B f (xs ++ [c]) = foldD B f xs * B + digitOf c.toNat := by
  unfold foldD
  rw [List.foldl_append]; rfl
theorem digs_fold {b : Nat} (hb : 2 ≤ b ∧ b ≤ 36) : ∀ (k n : Nat), n ≤ k → foldD (b : Int) 0 (digs b n) = (n : Int)
  | k, n, h => by
    have hm : n % b < b := Nat.mod_lt _ (by omega)
    have hd := (digC_facts (n % b) (by omega)).1
    unfold digs
    split
    · rename_i hbn
      cases k with
      | zero => omega
      | succ k =>
        have hlt := Nat.div_lt_self (n := n) (k := b) (by omega) (by omega)
        rw [foldD_snoc, hd, digs_fold hb k (n / b) (by omega)]
        have := Nat.div_add_mod n b
        rw [Nat.mul_comm] at this
        exact_mod_cast this
    · rename_i hbn
      have e : n % b = n := Nat.mod_eq_of_lt (by omega)
      rw [e] at hd
      unfold foldD
      simp only [List.foldl_cons, List.foldl_nil, hd, e]
      omega
theorem digs_cons (b n : Nat) : ∃ c cs, digs b n = c :: cs := by
  cases h : digs b n with
  | nil => exact absurd h (digs_ne b n)
  | cons c cs => exact ⟨c, cs, rfl⟩
theorem sign_digs {b : Nat} (hb : 2 ≤ b ∧ b ≤ 36) (n : Nat) : rSign (digs b n) = digs b n ∧ rNeg (digs b n) = false := by
  obtain ⟨c, cs, e⟩ := digs_cons b n
  obtain ⟨d, hd, hc⟩ := digs_mem hb n n (Nat.le_refl _) c (by rw [e]; exact List.mem_cons_self)
  obtain ⟨_, h43, h45, _⟩ := digC_facts d (by omega)
  rw [e, rSign_cons]
  rw [← hc] at h43 h45
  exact ⟨if_neg (by rintro (h | h); exact h43 h; exact h45 h), decide_eq_false h45⟩
theorem hex_digs {b : Nat} (hb : 2 ≤ b ∧ b ≤ 36) {base : Int} (hbb : base = (b : Int) ∨ (base = 0 ∧ b = 10)) (n : Nat) : rHex (digs b n) base = false := by
  have hm := digs_mem hb n n (Nat.le_refl _)
  match h : digs b n with
  | [] => rfl
  | [_] => rfl
  | [_, _] => rfl
  | x :: y :: z :: r =>
    show (decide (base = 0 ∨ base = 16) && decide (x = 48) && decide (y = 120 ∨ y = 88) && decide (0 ≤ digitOf z.toNat ∧ digitOf z.toNat < 16)) = false
    by_cases hbase : base = 0 ∨ base = 16
    · obtain ⟨d, hd, hc⟩ := hm y (by rw [h]; simp)
      have := (digC_facts d (by omega)).2.2.2.2 (by omega)
      rw [← hc] at this
      have e : decide (y = 120 ∨ y = 88) = false := decide_eq_false (by rintro (q | q); exact this.1 q; exact this.2 q)
      rw [e]; simp
    · rw [decide_eq_false hbase]; rfl
theorem core_digs {b : Nat} (hb : 2 ≤ b ∧ b ≤ 36) {base : Int} (hbb : base = (b : Int) ∨ (base = 0 ∧ b = 10)) (n : Nat) {core : List UInt8} (hs : rSign core = digs b n) :
    rWord core base = digs b n ∧ rBase core base = (b : Int) ∧ (rWord core base).all (digB (rBase core base)) = true ∧ foldD (rBase core base) 0 (rWord core base) = (n : Int) := by
  have hx := hex_digs hb hbb n
  have e1 : rWord core base = digs b n := by unfold rWord; rw [hs, hx]; rfl
  have e2 : rBase core base = (b : Int) := by
    unfold rBase; rw [hs, hx]
    rw [if_neg Bool.false_ne_true]
    split <;> omega
  refine ⟨e1, e2, ?_, ?_⟩
  · rw [e1, e2, List.all_eq_true]
    intro c hc
    obtain ⟨d, hd, hc⟩ := digs_mem hb n n (Nat.le_refl _) c hc
    have := (digC_facts d (by omega)).1
    unfold digB
    rw [hc, this, Bool.and_eq_true, decide_eq_true_eq, decide_eq_true_eq]
    omega
  · rw [e1, e2, digs_fold hb n n (Nat.le_refl _)]
theorem core_val {b : Nat} (hb : 2 ≤ b ∧ b ≤ 36) {base : Int} (hbb : base = (b : Int) ∨ (base = 0 ∧ b = 10)) (n : Nat) {core : List UInt8} (hs : rSign core = digs b n) :
    coreT core base = some (if rNeg core = true then -(n : Int) else (n : Int)) := by
  obtain ⟨h1, _, h3, h4⟩ := core_digs hb hbb n hs
  unfold coreT
  rw [h3, h4]
  refine if_neg ?_
  rintro (h | h)
  · exact digs_ne b n (h1 ▸ h)
  · cases h
theorem fits_core {b : Nat} (hb : 2 ≤ b ∧ b ≤ 36) {base : Int} (hbb : base = (b : Int) ∨ (base = 0 ∧ b = 10)) (n : Nat) (hn : n < 100000000000) {l pre core post : List UInt8} {c : UInt8} {cs : List UInt8} (S : Split l pre core post) (hc : core = c :: cs) (hs : rSign core = digs b n) : Fits l base := by
  obtain ⟨_, _, _, hb3, _, hrun⟩ := run_core (base := base) S hc
  obtain ⟨_, _, h3, h4⟩ := core_digs hb hbb n hs
  refine ⟨?_⟩
  rw [hrun, all_tw h3, hb3, h4]
  omega
theorem digs_last (b n : Nat) : ∃ xs, digs b n = xs ++ [digC (n % b)] := by
  unfold digs
  split
  · exact ⟨_, rfl⟩
  · exact ⟨[], rfl⟩
theorem split_digs {b : Nat} (hb : 2 ≤ b ∧ b ≤ 36) (n : Nat) (pre post : List UInt8) (hpre : ∀ c ∈ pre, qb c = true) (hpost : ∀ c ∈ post, qb c = true) : Split (pre ++ (digs b n ++ post)) pre (digs b n) post := by
  refine ⟨rfl, hpre, hpost, ?_, ?_⟩
  · intro c cs h
    obtain ⟨d, hd, hc⟩ := digs_mem hb n n (Nat.le_refl _) c (by rw [h]; exact List.mem_cons_self)
    rw [hc]; exact (digC_facts d (by omega)).2.2.2.1
  · intro c h
    obtain ⟨d, hd, hc⟩ := digs_mem hb n n (Nat.le_refl _) c (List.mem_of_getLast? h)
    rw [hc]; exact (digC_facts d (by omega)).2.2.2.1
theorem split_neg {b : Nat} (hb : 2 ≤ b ∧ b ≤ 36) (n : Nat) (pre post : List UInt8) (hpre : ∀ c ∈ pre, qb c = true) (hpost : ∀ c ∈ post, qb c = true) : Split (pre ++ ((45 :: digs b n) ++ post)) pre (45 :: digs b n) post := by
  refine ⟨rfl, hpre, hpost, ?_, ?_⟩
  · intro c cs h
    injection h with h1 _
    rw [← h1]; decide
  · intro c h
    obtain ⟨x, xs, e⟩ := digs_cons b n
    have : c ∈ digs b n := by
      rw [e, List.getLast?_cons_cons] at h
      rw [e]; exact List.mem_of_getLast? h
    obtain ⟨d, hd, hc⟩ := digs_mem hb n n (Nat.le_refl _) c this
    rw [hc]; exact (digC_facts d (by omega)).2.2.2.1
theorem sg_noblank : ∀ c ∈ ([] : List UInt8), qb c = true := fun _ h => nomatch h
theorem sg_blank : ∀ c ∈ ([32] : List UInt8), qb c = true := by decide
theorem val_neg {b : Nat} (hb : 2 ≤ b ∧ b ≤ 36) {base : Int} (hbb : base = (b : Int) ∨ (base = 0 ∧ b = 10)) (i : Int) (hi : Small i) (hneg : i < 0) (pre post : List UInt8) (hpre : ∀ c ∈ pre, qb c = true) (hpost : ∀ c ∈ post, qb c = true) :
    tib (pre ++ ((45 :: digs b i.natAbs) ++ post)) base = some i ∧ Fits (pre ++ ((45 :: digs b i.natAbs) ++ post)) base := by
  have S := split_neg hb i.natAbs pre post hpre hpost
  have hs : rSign (45 :: digs b i.natAbs) = digs b i.natAbs := by rw [rSign_cons, if_pos (.inr rfl)]
  refine ⟨?_, fits_core hb hbb i.natAbs (by have := hi.lo; omega) S rfl hs⟩
  rw [tib_core S, core_val hb hbb i.natAbs hs]
  have : rNeg (45 :: digs b i.natAbs) = true := rfl
  rw [this, if_pos rfl]
  congr 1; omega
theorem val_pos {b : Nat} (hb : 2 ≤ b ∧ b ≤ 36) {base : Int} (hbb : base = (b : Int) ∨ (base = 0 ∧ b = 10)) (i : Int) (hi : Small i) (hneg : ¬ i < 0) (pre post : List UInt8) (hpre : ∀ c ∈ pre, qb c = true) (hpost : ∀ c ∈ post, qb c = true) :
    tib (pre ++ (digs b i.natAbs ++ post)) base = some i ∧ Fits (pre ++ (digs b i.natAbs ++ post)) base := by
  have S := split_digs hb i.natAbs pre post hpre hpost
  obtain ⟨hs, hn⟩ := sign_digs hb i.natAbs
  obtain ⟨c, cs, e⟩ := digs_cons b i.natAbs
  refine ⟨?_, fits_core hb hbb i.natAbs (by have := hi.hi; omega) S e hs⟩
  rw [tib_core S, core_val hb hbb i.natAbs hs, hn, if_neg Bool.false_ne_true]
  congr 1; omega
theorem dec_val (i : Int) (hi : Small i) : tib (decText i) 0 = some i ∧ Fits (decText i) 0 := by
  rw [← shown_int]
  by_cases h : i < 0
  · rw [if_pos h]
    have := val_neg (b := 10) (by omega) (base := 0) (.inr ⟨rfl, rfl⟩) i hi h [] [] sg_noblank sg_noblank
    simpa using this
  · rw [if_neg h]
    have := val_pos (b := 10) (by omega) (base := 0) (.inr ⟨rfl, rfl⟩) i hi h [] [] sg_noblank sg_noblank
    simpa using this
theorem dec_len (i : Int) (hi : Small i) : (decText i).length ≤ 40 := by
  have := digs_small i hi
  rw [← shown_int, List.length_append]
  split <;> simp <;> omega
theorem fig_neg {base : Int} (hb : 2 ≤ base ∧ base ≤ 36) (i : Int) (hi : Small i) (hneg : i < 0) : tib ([45] ++ digs base.toNat i.natAbs ++ [32]) base = some i ∧ Fits ([45] ++ digs base.toNat i.natAbs ++ [32]) base := by
  have := val_neg (b := base.toNat) (by omega) (base := base) (.inl (by omega)) i hi hneg [] [32] sg_noblank sg_blank
  simpa using this
theorem fig_pos {base : Int} (hb : 2 ≤ base ∧ base ≤ 36) (i : Int) (hi : Small i) (hneg : ¬ i < 0) : tib ([32] ++ digs base.toNat i.natAbs ++ [32]) base = some i ∧ Fits ([32] ++ digs base.toNat i.natAbs ++ [32]) base := by
  have := val_pos (b := base.toNat) (by omega) (base := base) (.inl (by omega)) i hi hneg [32] [32] sg_blank sg_blank
  simpa using this
theorem fig_len {base : Int} (i : Int) (hi : Small i) : (digs base.toNat i.natAbs).length ≤ 38 := digs_len _ 37 _ (by have := hi.lo; have := hi.hi; omega)
theorem sg_facts (b : UInt8) (h : SgB b) : b.toNat < 128 ∧ qb b = ws b := by
  have : ∀ b ∈ ([48, 49, 55, 57, 97, 70, 122, 32, 10, 45, 43, 120, 88] : List UInt8), b.toNat < 128 ∧ qb b = ws b := by decide
  exact this b h
theorem sg_asc {l : List UInt8} (h : ∀ b ∈ l, SgB b) : Asc l := fun b hb => (sg_facts b (h b hb)).1
theorem mem_dw {α : Type} {q : α → Bool} {l : List α} {c : α} (h : c ∈ l.dropWhile q) : c ∈ l := (List.dropWhile_sublist q).subset h
theorem dw_head {q : UInt8 → Bool} : ∀ {l : List UInt8} {c : UInt8} {cs : List UInt8}, l.dropWhile q = c :: cs → q c = false
  | [], _, _, h => by cases h
  | x :: l, c, cs, h => by
    rw [List.dropWhile_cons] at h
    cases hx : q x with
    | true => rw [hx] at h; exact dw_head h
    | false =>
      rw [hx] at h
      injection h with h1 _
      rw [← h1]; exact hx
theorem tw_mem {q : UInt8 → Bool} {l : List UInt8} {c : UInt8} (h : c ∈ l.takeWhile q) : q c = true ∧ c ∈ l := ⟨mem_tw h, (List.takeWhile_sublist q).subset h⟩
theorem split_sg {l : List UInt8} (h : ∀ b ∈ l, SgB b) : Split l (l.takeWhile ws) (stripW l) (((l.dropWhile ws).reverse.takeWhile ws).reverse) := by
  have hq : ∀ b ∈ l, qb b = ws b := fun b hb => (sg_facts b (h b hb)).2
  have e2 : stripW l ++ ((l.dropWhile ws).reverse.takeWhile ws).reverse = l.dropWhile ws := by
    unfold stripW
    rw [← List.reverse_append, List.takeWhile_append_dropWhile, List.reverse_reverse]
  refine ⟨?_, ?_, ?_, ?_, ?_⟩
  · rw [e2, List.takeWhile_append_dropWhile]
  · intro b hb
    obtain ⟨h1, h2⟩ := tw_mem hb
    rw [hq b h2]; exact h1
  · intro b hb
    rw [List.mem_reverse] at hb
    obtain ⟨h1, h2⟩ := tw_mem hb
    rw [List.mem_reverse] at h2
    rw [hq b (mem_dw h2)]; exact h1
  · intro c cs hc
    have hd : l.dropWhile ws = c :: (cs ++ ((l.dropWhile ws).reverse.takeWhile ws).reverse) := by
      rw [← List.cons_append, ← hc]; exact e2.symm
    have hm : c ∈ l := mem_dw (by rw [hd]; exact List.mem_cons_self)
    rw [hq c hm]; exact dw_head hd
  · intro c hc
    unfold stripW at hc
    rw [List.getLast?_reverse] at hc
    cases hd : (l.dropWhile ws).reverse.dropWhile ws with
    | nil => rw [hd] at hc; cases hc
    | cons x xs =>
      rw [hd] at hc
      have : x = c := by simpa using hc
      subst this
      have hm : x ∈ l := mem_dw (List.mem_reverse.mp (mem_dw (by rw [hd]; exact List.mem_cons_self)))
      rw [hq x hm]; exact dw_head hd
theorem sg_tib {l : List UInt8} (h : ∀ b ∈ l, SgB b) (base : Int) : tib l base = worth l base := by
  rw [tib_core (split_sg h), worth_core (strip_asc_ok l (sg_asc h))]
theorem short_fits {l : List UInt8} {base : Int} (hl : l.length ≤ 12) (hb : base = 0 ∨ (2 ≤ base ∧ base ≤ 36)) : Fits l base := by
  have h3 : 2 ≤ b3 l base ∧ b3 l base ≤ 36 := by
    have := b2_rng (l := l) hb
    unfold b3; split <;> omega
  refine ⟨?_⟩
  have hlen : (runD l (b3 l base) (a2 l base)).length ≤ 12 := by
    unfold runD
    have := (List.takeWhile_sublist (digB (b3 l base)) (l := l.drop (a2 l base))).length_le
    rw [List.length_drop] at this
    omega
  have h := foldD_bound h3 (runD l (b3 l base) (a2 l base)) 0 (by omega) (fun d hd => by unfold runD at hd; exact mem_tw hd)
  have p := wpow36 hlen
  omega
end
section
set_option maxRecDepth 100000
set_option maxHeartbeats 8000000
variable {w : World} {p : Program} {loose : List Str} {mean : ExcName → Option Value} {mg mb : Str → Option Value}
theorem rows_C5_0 : True := by
  k_with_none
  k_with "enter" => (refine' code_defP ?k1Zq ?k2Zq ?k3Zq ?k4Zq ?k5Zq ?kAZq ?kFZq ?kKZq ?k6Zq ?p1Zq ?p2Zq ?p3Zq ?k7Zq ?k8Zq ?k9Zq ?kBZq ?_ ?c2Zq ?c3Zq ?c4Zq ?c5Zq; (case kAZq => exact rfl); (case kFZq => exact rfl); (case kKZq => assumption); (case k1Zq => k_asm); (case k2Zq => k_asm); (case k3Zq => k_asm); (case k4Zq => k_asm); (case k5Zq => k_asm); (case k6Zq => k_is); (case p1Zq => conv => lhs; whnf); (case p2Zq => conv => lhs; whnf); (case p3Zq => conv => lhs; whnf); (case k7Zq => k_is); (case k8Zq => ktr_room); (case k9Zq => exact BindsTo.of_eq rfl); (case c5Zq => decide); (case kBZq => exact locs rfl); (case c2Zq => exact rfl); (case c3Zq => exact rfl); (case c4Zq => exact rfl); k_whole; intro g' L' h' FG' F' N' B' X' T'; (try dsimp only); (try k_lift B'); (try k_fold))
  k_with "kenter" => (refine' code_defP ?k1Zq ?k2Zq ?k3Zq ?k4Zq ?k5Zq ?kAZq ?kFZq ?kKZq ?k6Zq ?p1Zq ?p2Zq ?p3Zq ?k7Zq ?k8Zq ?k9Zq ?kBZq ?_ ?c2Zq ?c3Zq ?c4Zq ?c5Zq; (case kAZq => exact rfl); (case kFZq => exact rfl); (case kKZq => exact rfl); (case k1Zq => k_asm); (case k2Zq => k_asm); (case k3Zq => k_asm); (case k4Zq => k_asm); (case k5Zq => k_asm); (case k6Zq => k_is); (case p1Zq => conv => lhs; whnf); (case p2Zq => conv => lhs; whnf); (case p3Zq => conv => lhs; whnf); (case k7Zq => k_is); (case k8Zq => k_room); (case k9Zq => first | exact BindsTo.of_eq rfl | exact binds_K (by k_in) rfl (by k_is) rfl rfl rfl); (case c5Zq => decide); (case kBZq => exact locs rfl); (case c2Zq => exact rfl); (case c3Zq => exact rfl); (case c4Zq => exact rfl); k_whole; intro g' L' h' FG' F' N' B' X' T'; (try dsimp only); (try k_lift B'); (try k_fold))
  k_with "compareOp In int bytes" => (k_here; k_dflt (first | refine in_bytes_u8 ?_ | refine in_bytes (by omega) ?_))
  k_with "mem" => (assumption)
  k_with "ite" => (first | with_reducible refine ite_tt ?_ | with_reducible refine ite_ff ?_ | with_reducible refine ite_T ?_ | with_reducible refine ite_F ?_ | with_reducible refine split_not ?_)
  k_with "call ref" => (
        k_here
        (with_reducible show wpAny _ _ (call (Value.ref 169) _) _ _ _)
        k_dflt (refine' Ct.use (text_in_base_ct _ _ _ _ _ _ _ _ _ _ _ _ (by omega) (by assumption) (by omega) (by assumption) (by assumption)) ?k1Zq ?k2Zq ?k3Zq ?k4Zq ?k5Zq ?kKZq ?kdZq ?kuZq ?_; (case k1Zq => k_asm); (case k2Zq => k_asm); (case k3Zq => k_asm); (case k4Zq => k_asm); (case k5Zq => k_asm); (case kKZq => first | exact rfl | assumption); (case kdZq => ktr_room); (case kuZq => ktr_units))
        intro x9 h9 tk9 P9 F9 N9; (first | (have q9 : True := P9; clear q9 P9) | skip); (try dsimp only at P9); (try dsimp only at N9); (try dsimp only); (try k_sweep); (try k_fold))
  trivial
abbrev LimIn (news : Led) (lim : Addr) : Prop := ∃ (dx : Addr) (hh : Int) (tw tv : Tok) (es : List DictEntry) (n : Nat), (lim, instObj 53 dx) ∈ news ∧ (dx, dictOf (⟨hh, .str (Str.ofString "width") tw, .int 64 tv⟩ :: es) n) ∈ news
theorem str_to_number_ct (l : List UInt8) (lim : Addr) (t : Tok) (news : Led) (hl : l.length ≤ 40) (hf : Fits l 0) (hm : LimIn news lim) :
    Ct w p loose mean mg mb 162 [.bytes l.toArray t, .ref lim] news 4 (fun t => optV (tib l 0) t) (fun _ => news) (fun _ => True) := by
  obtain ⟨dx, hh, tw, tv, es, n, h1, h2⟩ := hm
  (unfold Ct; k_fill; intro dpZ unZ gdZ cnZ csZ aZ ccdZ clZ outerZ AZ baseZ hZ LZ mZ sZ QZ EZ BZ FZ XZ NZ TZ hkZ hdZ huZ hret; refine wpAny_call ?_; k_dflt k_extra "enter"; k_steps)
  all_goals (refine Ct.fin hret (by k_asm) (by k_asm) ?_; exact ex_opt)
theorem rows_C5_1 : True := by
  k_with "call ref" => (
        k_here
        (with_reducible show wpAny _ _ (call (Value.ref 162) _) _ _ _)
        k_dflt (refine' Ct.use (str_to_number_ct _ _ _ _ (by omega) (by assumption) (by assumption)) ?k1Zq ?k2Zq ?k3Zq ?k4Zq ?k5Zq ?kKZq ?kdZq ?kuZq ?_; (case k1Zq => k_asm); (case k2Zq => k_asm); (case k3Zq => k_asm); (case k4Zq => k_asm); (case k5Zq => k_asm); (case kKZq => first | exact rfl | assumption); (case kdZq => ktr_room); (case kuZq => ktr_units))
        intro x9 h9 tk9 P9 F9 N9; (first | (have q9 : True := P9; clear q9 P9) | skip); (try dsimp only at P9); (try dsimp only at N9); (try dsimp only); (try k_sweep); (try k_fold))
  k_with "call ref" => (
        k_here
        (with_reducible show wpAny _ _ (call (Value.ref 106) _) _ _ _)
        k_dflt (refine' Ct.use (is_number_int _ _ _) ?k1Zq ?k2Zq ?k3Zq ?k4Zq ?k5Zq ?kKZq ?kdZq ?kuZq ?_; (case k1Zq => k_asm); (case k2Zq => k_asm); (case k3Zq => k_asm); (case k4Zq => k_asm); (case k5Zq => k_asm); (case kKZq => first | exact rfl | assumption); (case kdZq => ktr_room); (case kuZq => ktr_units))
        intro x9 h9 tk9 P9 F9 N9; (first | (have q9 : True := P9; clear q9 P9) | skip); (try dsimp only at P9); (try dsimp only at N9); (try dsimp only); (try k_sweep); (try k_fold))
  k_with "call ref" => (
        k_here
        (with_reducible show wpAny _ _ (call (Value.ref 106) _) _ _ _)
        k_dflt (refine' Ct.use (is_number_none _) ?k1Zq ?k2Zq ?k3Zq ?k4Zq ?k5Zq ?kKZq ?kdZq ?kuZq ?_; (case k1Zq => k_asm); (case k2Zq => k_asm); (case k3Zq => k_asm); (case k4Zq => k_asm); (case k5Zq => k_asm); (case kKZq => first | exact rfl | assumption); (case kdZq => ktr_room); (case kuZq => ktr_units))
        intro x9 h9 tk9 P9 F9 N9; (first | (have q9 : True := P9; clear q9 P9) | skip); (try dsimp only at P9); (try dsimp only at N9); (try dsimp only); (try k_sweep); (try k_fold))
  k_with "call ref" => (
        k_here
        (with_reducible show wpAny _ _ (call (Value.ref 106) _) _ _ _)
        k_dflt (refine' Ct.use (is_number_bool _ _) ?k1Zq ?k2Zq ?k3Zq ?k4Zq ?k5Zq ?kKZq ?kdZq ?kuZq ?_; (case k1Zq => k_asm); (case k2Zq => k_asm); (case k3Zq => k_asm); (case k4Zq => k_asm); (case k5Zq => k_asm); (case kKZq => first | exact rfl | assumption); (case kdZq => ktr_room); (case kuZq => ktr_units))
        intro x9 h9 tk9 P9 F9 N9; (first | (have q9 : True := P9; clear q9 P9) | skip); (try dsimp only at P9); (try dsimp only at N9); (try dsimp only); (try k_sweep); (try k_fold))
  k_with "call ref" => (
        k_here
        (with_reducible show wpAny _ _ (call (Value.ref 106) _) _ _ _)
        k_dflt (refine' Ct.use (is_number_bytes _ _ _) ?k1Zq ?k2Zq ?k3Zq ?k4Zq ?k5Zq ?kKZq ?kdZq ?kuZq ?_; (case k1Zq => k_asm); (case k2Zq => k_asm); (case k3Zq => k_asm); (case k4Zq => k_asm); (case k5Zq => k_asm); (case kKZq => first | exact rfl | assumption); (case kdZq => ktr_room); (case kuZq => ktr_units))
        intro x9 h9 tk9 P9 F9 N9; (first | (have q9 : True := P9; clear q9 P9) | skip); (try dsimp only at P9); (try dsimp only at N9); (try dsimp only); (try k_sweep); (try k_fold))
  trivial
theorem to_number_bytes (l : List UInt8) (lim : Addr) (t : Tok) (news : Led) (hl : l.length ≤ 40) (hf : Fits l 0) (hm : LimIn news lim) :
    Ct w p loose mean mg mb 176 [.bytes l.toArray t, .ref lim] news 5 (fun t => optV (tib l 0) t) (fun _ => news) (fun _ => True) := by
  (unfold Ct; k_fill; intro dpZ unZ gdZ cnZ csZ aZ ccdZ clZ outerZ AZ baseZ hZ LZ mZ sZ QZ EZ BZ FZ XZ NZ TZ hkZ hdZ huZ hret; refine wpAny_call ?_; k_dflt k_extra "enter"; k_steps)
  all_goals (refine Ct.fin hret (by k_asm) (by k_asm) ?_; exact ex_opt)
theorem to_number_int (i : Int) (lim : Addr) (t : Tok) (news : Led) :
    Ct w p loose mean mg mb 176 [.int i t, .ref lim] news 5 (fun t => .int i t) (fun _ => news) (fun _ => True) := by
  (unfold Ct; k_fill; intro dpZ unZ gdZ cnZ csZ aZ ccdZ clZ outerZ AZ baseZ hZ LZ mZ sZ QZ EZ BZ FZ XZ NZ TZ hkZ hdZ huZ hret; refine wpAny_call ?_; k_dflt k_extra "enter"; k_steps)
  all_goals (refine Ct.fin hret (by k_asm) (by k_asm) ?_; exact ex_int rfl)
theorem to_number_bool (i : Bool) (lim : Addr) (news : Led) :
    Ct w p loose mean mg mb 176 [.bool i, .ref lim] news 5 (fun (_ : Unit) => .none) (fun _ => news) (fun _ => True) := by
  (unfold Ct; k_fill; intro dpZ unZ gdZ cnZ csZ aZ ccdZ clZ outerZ AZ baseZ hZ LZ mZ sZ QZ EZ BZ FZ XZ NZ TZ hkZ hdZ huZ hret; refine wpAny_call ?_; k_dflt k_extra "enter"; k_steps)
  all_goals (refine Ct.fin hret (by k_asm) (by k_asm) ?_; exact ex_none)
theorem to_number_none (lim : Addr) (news : Led) :
    Ct w p loose mean mg mb 176 [.none, .ref lim] news 5 (fun (_ : Unit) => .none) (fun _ => news) (fun _ => True) := by
  (unfold Ct; k_fill; intro dpZ unZ gdZ cnZ csZ aZ ccdZ clZ outerZ AZ baseZ hZ LZ mZ sZ QZ EZ BZ FZ XZ NZ TZ hkZ hdZ huZ hret; refine wpAny_call ?_; k_dflt k_extra "enter"; k_steps)
  all_goals (refine Ct.fin hret (by k_asm) (by k_asm) ?_; exact ex_none)
theorem rows_C5_2 : True := by
  k_with "call ref" => (
        k_here
        (with_reducible show wpAny _ _ (call (Value.ref 176) _) _ _ _)
        k_dflt (refine' Ct.use (to_number_bytes _ _ _ _ (by omega) (by assumption) (by assumption)) ?k1Zq ?k2Zq ?k3Zq ?k4Zq ?k5Zq ?kKZq ?kdZq ?kuZq ?_; (case k1Zq => k_asm); (case k2Zq => k_asm); (case k3Zq => k_asm); (case k4Zq => k_asm); (case k5Zq => k_asm); (case kKZq => first | exact rfl | assumption); (case kdZq => ktr_room); (case kuZq => ktr_units))
        intro x9 h9 tk9 P9 F9 N9; (first | (have q9 : True := P9; clear q9 P9) | skip); (try dsimp only at P9); (try dsimp only at N9); (try dsimp only); (try k_sweep); (try k_fold))
  k_with "call ref" => (
        k_here
        (with_reducible show wpAny _ _ (call (Value.ref 176) _) _ _ _)
        k_dflt (refine' Ct.use (to_number_int _ _ _ _) ?k1Zq ?k2Zq ?k3Zq ?k4Zq ?k5Zq ?kKZq ?kdZq ?kuZq ?_; (case k1Zq => k_asm); (case k2Zq => k_asm); (case k3Zq => k_asm); (case k4Zq => k_asm); (case k5Zq => k_asm); (case kKZq => first | exact rfl | assumption); (case kdZq => ktr_room); (case kuZq => ktr_units))
        intro x9 h9 tk9 P9 F9 N9; (first | (have q9 : True := P9; clear q9 P9) | skip); (try dsimp only at P9); (try dsimp only at N9); (try dsimp only); (try k_sweep); (try k_fold))
  k_with "call ref" => (
        k_here
        (with_reducible show wpAny _ _ (call (Value.ref 176) _) _ _ _)
        k_dflt (refine' Ct.use (to_number_bool _ _ _) ?k1Zq ?k2Zq ?k3Zq ?k4Zq ?k5Zq ?kKZq ?kdZq ?kuZq ?_; (case k1Zq => k_asm); (case k2Zq => k_asm); (case k3Zq => k_asm); (case k4Zq => k_asm); (case k5Zq => k_asm); (case kKZq => first | exact rfl | assumption); (case kdZq => ktr_room); (case kuZq => ktr_units))
        intro x9 h9 tk9 P9 F9 N9; (first | (have q9 : True := P9; clear q9 P9) | skip); (try dsimp only at P9); (try dsimp only at N9); (try dsimp only); (try k_sweep); (try k_fold))
  k_with "call ref" => (
        k_here
        (with_reducible show wpAny _ _ (call (Value.ref 176) _) _ _ _)
        k_dflt (refine' Ct.use (to_number_none _ _) ?k1Zq ?k2Zq ?k3Zq ?k4Zq ?k5Zq ?kKZq ?kdZq ?kuZq ?_; (case k1Zq => k_asm); (case k2Zq => k_asm); (case k3Zq => k_asm); (case k4Zq => k_asm); (case k5Zq => k_asm); (case kKZq => first | exact rfl | assumption); (case kdZq => ktr_room); (case kuZq => ktr_units))
        intro x9 h9 tk9 P9 F9 N9; (first | (have q9 : True := P9; clear q9 P9) | skip); (try dsimp only at P9); (try dsimp only at N9); (try dsimp only); (try k_sweep); (try k_fold))
  trivial
theorem nt10_bytes (l : List UInt8) (lim : Addr) (t t' : Tok) (news : Led) (hl : l.length ≤ 40) (hf : Fits l 0) (hm : LimIn news lim) :
    Ct w p loose mean mg mb 197 [.bytes l.toArray t, .int 10 t', .ref lim] news 6 (fun t => optV (tib l 0) t) (fun _ => news) (fun _ => True) := by
  (unfold Ct; k_fill; intro dpZ unZ gdZ cnZ csZ aZ ccdZ clZ outerZ AZ baseZ hZ LZ mZ sZ QZ EZ BZ FZ XZ NZ TZ hkZ hdZ huZ hret; refine wpAny_call ?_; k_dflt k_extra "enter"; k_steps)
  all_goals (refine Ct.fin hret (by k_asm) (by k_asm) ?_; exact ex_opt)
theorem nt10_int (i : Int) (lim : Addr) (t t' : Tok) (news : Led) :
    Ct w p loose mean mg mb 197 [.int i t, .int 10 t', .ref lim] news 6 (fun t => .int i t) (fun _ => news) (fun _ => True) := by
  (unfold Ct; k_fill; intro dpZ unZ gdZ cnZ csZ aZ ccdZ clZ outerZ AZ baseZ hZ LZ mZ sZ QZ EZ BZ FZ XZ NZ TZ hkZ hdZ huZ hret; refine wpAny_call ?_; k_dflt k_extra "enter"; k_steps)
  all_goals (refine Ct.fin hret (by k_asm) (by k_asm) ?_; exact ex_int rfl)
theorem nt10_bool (i : Bool) (lim : Addr) (t' : Tok) (news : Led) :
    Ct w p loose mean mg mb 197 [.bool i, .int 10 t', .ref lim] news 6 (fun (_ : Unit) => .none) (fun _ => news) (fun _ => True) := by
  (unfold Ct; k_fill; intro dpZ unZ gdZ cnZ csZ aZ ccdZ clZ outerZ AZ baseZ hZ LZ mZ sZ QZ EZ BZ FZ XZ NZ TZ hkZ hdZ huZ hret; refine wpAny_call ?_; k_dflt k_extra "enter"; k_steps)
  all_goals (refine Ct.fin hret (by k_asm) (by k_asm) ?_; exact ex_none)
theorem nt10_none (lim : Addr) (t' : Tok) (news : Led) :
    Ct w p loose mean mg mb 197 [.none, .int 10 t', .ref lim] news 6 (fun (_ : Unit) => .none) (fun _ => news) (fun _ => True) := by
  (unfold Ct; k_fill; intro dpZ unZ gdZ cnZ csZ aZ ccdZ clZ outerZ AZ baseZ hZ LZ mZ sZ QZ EZ BZ FZ XZ NZ TZ hkZ hdZ huZ hret; refine wpAny_call ?_; k_dflt k_extra "enter"; k_steps)
  all_goals (refine Ct.fin hret (by k_asm) (by k_asm) ?_; exact ex_none)
theorem nt_base (l : List UInt8) (base : Int) (lim : Addr) (t t' : Tok) (news : Led) (hl : l.length ≤ 40) (hf : Fits l base) (hb : 2 ≤ base ∧ base ≤ 36) (hb2 : base ≠ 10) (hm : LimIn news lim) :
    Ct w p loose mean mg mb 197 [.bytes l.toArray t, .int base t', .ref lim] news 6 (fun t => optV (tib l base) t) (fun _ => news) (fun _ => True) := by
  obtain ⟨dx, hh, tw, tv, es, n, h1, h2⟩ := hm
  (unfold Ct; k_fill; intro dpZ unZ gdZ cnZ csZ aZ ccdZ clZ outerZ AZ baseZ hZ LZ mZ sZ QZ EZ BZ FZ XZ NZ TZ hkZ hdZ huZ hret; refine wpAny_call ?_; k_dflt k_extra "enter"; k_steps)
  all_goals first | (exfalso; omega) | (refine Ct.fin hret (by k_asm) (by k_asm) ?_; exact ex_opt)
end
section
set_option maxRecDepth 100000
set_option maxHeartbeats 8000000
variable {w : World} {p : Program} {loose : List Str} {mean : ExcName → Option Value} {mg mb : Str → Option Value}
theorem rows_C6_0 : True := by
  k_with_none
  k_with "enter" => (refine' code_defP ?k1Zq ?k2Zq ?k3Zq ?k4Zq ?k5Zq ?kAZq ?kFZq ?kKZq ?k6Zq ?p1Zq ?p2Zq ?p3Zq ?k7Zq ?k8Zq ?k9Zq ?kBZq ?_ ?c2Zq ?c3Zq ?c4Zq ?c5Zq; (case kAZq => exact rfl); (case kFZq => exact rfl); (case kKZq => assumption); (case k1Zq => k_asm); (case k2Zq => k_asm); (case k3Zq => k_asm); (case k4Zq => k_asm); (case k5Zq => k_asm); (case k6Zq => k_is); (case p1Zq => conv => lhs; whnf); (case p2Zq => conv => lhs; whnf); (case p3Zq => conv => lhs; whnf); (case k7Zq => k_is); (case k8Zq => ktr_room); (case k9Zq => exact BindsTo.of_eq rfl); (case c5Zq => decide); (case kBZq => exact locs rfl); (case c2Zq => exact rfl); (case c3Zq => exact rfl); (case c4Zq => exact rfl); k_whole; intro g' L' h' FG' F' N' B' X' T'; (try dsimp only); (try k_lift B'); (try k_fold))
  k_with "kenter" => (refine' code_defP ?k1Zq ?k2Zq ?k3Zq ?k4Zq ?k5Zq ?kAZq ?kFZq ?kKZq ?k6Zq ?p1Zq ?p2Zq ?p3Zq ?k7Zq ?k8Zq ?k9Zq ?kBZq ?_ ?c2Zq ?c3Zq ?c4Zq ?c5Zq; (case kAZq => exact rfl); (case kFZq => exact rfl); (case kKZq => exact rfl); (case k1Zq => k_asm); (case k2Zq => k_asm); (case k3Zq => k_asm); (case k4Zq => k_asm); (case k5Zq => k_asm); (case k6Zq => k_is); (case p1Zq => conv => lhs; whnf); (case p2Zq => conv => lhs; whnf); (case p3Zq => conv => lhs; whnf); (case k7Zq => k_is); (case k8Zq => k_room); (case k9Zq => first | exact BindsTo.of_eq rfl | exact binds_K (by k_in) rfl (by k_is) rfl rfl rfl); (case c5Zq => decide); (case kBZq => exact locs rfl); (case c2Zq => exact rfl); (case c3Zq => exact rfl); (case c4Zq => exact rfl); k_whole; intro g' L' h' FG' F' N' B' X' T'; (try dsimp only); (try k_lift B'); (try k_fold))
  k_with "compareOp In int bytes" => (k_here; k_dflt (first | refine in_bytes_u8 ?_ | refine in_bytes (by omega) ?_))
  k_with "mem" => (assumption)
  k_with "ite" => (first | with_reducible refine ite_tt ?_ | with_reducible refine ite_ff ?_ | with_reducible refine ite_T ?_ | with_reducible refine ite_F ?_ | with_reducible refine split_not ?_)
  trivial
structure NtI (n0 : Nat) (left : Int) (items : List Int) : Prop where
  eq : items ++ decRev left.toNat = decRev n0
  lt : left < 100000000000
abbrev NtP (n0 : Nat) (left : Int) (items : List Int) : Prop := 0 ≤ left ∧ NtI n0 left items ∧ items.length ≤ 20
theorem nt_start {i : Int} (hi : Small i) : NtP i.natAbs (i.natAbs : Int) [] := by
  obtain ⟨hi1, hi2⟩ := hi
  exact ⟨by omega, ⟨by rw [Int.toNat_natCast]; rfl, by omega⟩, by simp⟩
structure NatSmall (n : Nat) : Prop where
  out : n < 10 ^ 11
theorem decRev_len : ∀ (k n : Nat), n < 10 ^ k → (decRev n).length ≤ k + 1
  | k, n, h => by
    unfold decRev
    split
    · simp
    · rename_i h9
      cases k with
      | zero => simp at h; omega
      | succ k =>
        have := decRev_len k (n / 10) (by rw [Nat.pow_succ] at h; omega)
        simp only [List.length_cons]; omega
theorem nt_turn {n0 : Nat} {left : Int} {items : List Int} (h0 : 0 ≤ left) (hI : NtI n0 left items) (h9 : 9 < left) (hn : NatSmall n0) : NtP n0 (left.fdiv 10) (items ++ [48 + left.fmod 10]) := by
  rw [Int.fdiv_eq_ediv_of_nonneg _ (by omega), Int.fmod_eq_emod_of_nonneg _ (by omega)]
  obtain ⟨h, hl⟩ := hI
  have e1 : decRev left.toNat = (48 + left % 10) :: decRev (left / 10).toNat := by
    rw [decRev]
    rw [dif_neg (by omega)]
    congr 1
    · omega
    · congr 1; omega
  have e2 : (items ++ [48 + left % 10]) ++ decRev (left / 10).toNat = decRev n0 := by rw [← h, e1]; simp
  have e3 := congrArg List.length e2
  have e4 := decRev_len 11 n0 hn.out
  rw [List.length_append] at e3
  exact ⟨by omega, ⟨e2, by omega⟩, by omega⟩
theorem rows_C6_1 : True := by
  k_with "all" => (assumption)
  trivial
abbrev NtM (m : Str → Option Value) (lst : Addr) (left : Int) (t : Tok) : Str → Option Value := fun y => if y = Str.ofString "left" then some (.int left t) else if y = Str.ofString "found" then some (.ref lst) else m y
theorem nt_abs {o : Option Value} {i : Int} {t : Tok} (h : o = some (.int (if i < 0 then -i else i) t)) : o = some (.int (i.natAbs : Int) t) := by
  rw [h]; congr 2; split <;> omega
theorem ints_snoc {vs : List Value} {ns : List Int} {x : Int} {t : Tok} (h : IntsAre vs ns) : IntsAre (vs ++ [.int x t]) (ns ++ [x]) := by
  induction h with
  | nil => exact .cons _ _ .nil
  | cons n t _ ih => exact .cons n t ih
theorem fdiv_lt {x : Int} (h : 9 < x) : (x.fdiv 10).toNat < x.toNat := by
  rw [Int.fdiv_eq_ediv_of_nonneg _ (by omega)]; omega
theorem nt_last {n0 : Nat} {left : Int} {items : List Int} (h0 : 0 ≤ left) (hI : NtI n0 left items) (h9 : left ≤ 9) : items ++ [48 + left] = decRev n0 := by
  have e : decRev left.toNat = [48 + left] := by
    rw [decRev, dif_pos (by omega)]
    congr 1; omega
  rw [← hI.eq, e]
theorem ints_rev {vs : List Value} {ns : List Int} (h : IntsAre vs ns) : IntsAre vs.reverse ns.reverse := by
  induction h with
  | nil => exact .nil
  | cons n t _ ih => rw [List.reverse_cons, List.reverse_cons]; exact ints_snoc ih
theorem decRev_rng : ∀ (k n : Nat), n ≤ k → ∀ x ∈ decRev n, 48 ≤ x ∧ x < 58
  | k, n, h, x, hx => by
    unfold decRev at hx
    split at hx
    · rename_i h9
      rw [List.mem_singleton] at hx; omega
    · rename_i h9
      rcases List.mem_cons.mp hx with hx | hx
      · omega
      · cases k with
        | zero => omega
        | succ k => exact decRev_rng k (n / 10) (by omega) x hx
theorem nt_rng {i : Int} {ns : List Int} (h : ns = decRev i.natAbs ++ (if i < 0 then [45] else [])) : ∀ x ∈ ns.reverse, 0 ≤ x ∧ x < 256 := by
  intro x hx
  rw [List.mem_reverse, h] at hx
  rcases List.mem_append.mp hx with hx | hx
  · have := decRev_rng _ _ (Nat.le_refl _) x hx; omega
  · split at hx
    · rw [List.mem_singleton] at hx; omega
    · cases hx
theorem nt_text {i : Int} {ns : List Int} (h : ns = decRev i.natAbs ++ (if i < 0 then [45] else [])) : (ns.reverse.map fun n => n.toNat.toUInt8) = decText i := by rw [h]; rfl
theorem number_text_ct (i : Int) (t : Tok) (news : Led) (hi : Small i) :
    Ct w p loose mean mg mb 183 [.int i t] news 1 (fun t => .bytes (decText i).toArray t) (fun _ => news) (fun _ => True) := by
  have hn : NatSmall i.natAbs := ⟨by obtain ⟨hi1, hi2⟩ := hi; omega⟩
  unfold Ct
  k_fill
  intro dp un gd cn cs a ccd cl outer A₀ bs h₀ L m s Q E B F X N T hk hd hu hret
  refine wpAny_call ?_
  k_dflt k_extra "enter"
  refine cut2 (fun m m' l' => ∃ lst t, m' = NtM m lst i.natAbs t ∧ l' = (lst, W.listOf #[] 0) :: news ∧ ∀ p ∈ news, p.1 ≠ lst) (by assumption) (by assumption) ?_ ?_
  · (try k_fold)
    k_steps
    all_goals exact cut2_end (by k_asm) (by k_asm) _ (fun _ h => List.mem_cons_of_mem _ h) ⟨_, _, norm2 (nt_abs rfl) rfl (fun y h1 h2 => by simp [h1, h2]), rfl, fun p hp => Nat.ne_of_lt (by apply_assumption; exact hp)⟩
  intro m' l' h tk hJ F N
  obtain ⟨lst, t, rfl, rfl, hne⟩ := hJ
  k_sweep
  refine loopW (n₀ := i.natAbs) (fun m m' l n => ∃ left t vs ns e, m' = NtM m lst left t ∧ l = (lst, W.listOf (List.toArray vs) e) :: news ∧ IntsAre vs ns ∧ NtP i.natAbs left ns ∧ n = left.toNat) (fun m m' l => ∃ left t vs ns e, m' = NtM m lst left t ∧ l = (lst, W.listOf (List.toArray vs) e) :: news ∧ IntsAre vs ns ∧ NtP i.natAbs left ns ∧ left ≤ 9) (by assumption) (by assumption) ?_ ?_ ?_
  · exact ⟨_, t, [], [], 0, norm2 rfl rfl (fun _ _ _ => rfl), rfl, .nil, nt_start hi, by omega⟩
  · rintro n m₁ l₁ h₁ tk₁ ⟨left, t, vs, ns, e, rfl, rfl, hvs, ⟨h0, hI, hlen⟩, rfl⟩ F N
    k_sweep
    have hv := hvs.length
    (try k_fold)
    k_steps
    · rename_i N'
      simp only [List.push_toArray] at N'
      refine turn_end (by k_asm) N' _ (fun _ h => h) _ ?_ ⟨_, _, _, _, _, norm2 rfl rfl (fun y h1 h2 => by simp [NtM, h1, h2]), rfl, ints_snoc hvs, nt_turn h0 hI (by assumption) hn, rfl⟩
      exact fdiv_lt (by assumption)
    · exact done_end (by k_asm) (by k_asm) _ (fun _ h => h) ⟨_, _, _, _, _, rfl, rfl, hvs, ⟨h0, hI, hlen⟩, Int.not_lt.mp (by assumption)⟩
  rintro m' l' h tk ⟨left, t, vs, ns, e, rfl, rfl, hvs, ⟨h0, hI, hlen⟩, h9⟩ F N
  k_sweep
  have hv := hvs.length
  refine cut2 (fun m m' l' => ∃ vs ns e, m' = m ∧ l' = (lst, W.listOf (List.toArray vs) e) :: news ∧ IntsAre vs ns ∧ ns = decRev i.natAbs ∧ ns.length ≤ 21) (by assumption) (by assumption) ?_ ?_
  · (try k_fold)
    k_steps
    rename_i N'
    simp only [List.push_toArray] at N'
    exact cut2_end (by k_asm) N' _ (fun _ h => h) ⟨_, _, _, rfl, rfl, ints_snoc hvs, nt_last h0 hI h9, by simp; omega⟩
  rintro m' l' h tk ⟨vs, ns, e, rfl, rfl, hvs, hns, hlen⟩ F N
  k_sweep
  have hv := hvs.length
  refine cut2 (fun m m' l' => ∃ vs ns e, m' = m ∧ l' = (lst, W.listOf (List.toArray vs) e) :: news ∧ IntsAre vs ns ∧ ns = decRev i.natAbs ++ (if i < 0 then [45] else []) ∧ ns.length ≤ 22) (by assumption) (by assumption) ?_ ?_
  · (try k_fold)
    k_steps
    · rename_i N'
      simp only [List.push_toArray] at N'
      exact cut2_end (by k_asm) N' _ (fun _ h => h) ⟨_, _, _, rfl, rfl, ints_snoc hvs, by rw [hns, if_pos (by assumption)], by simp; omega⟩
    · exact cut2_end (by k_asm) (by k_asm) _ (fun _ h => h) ⟨_, _, _, rfl, rfl, hvs, by rw [hns, if_neg (by assumption), List.append_nil], by omega⟩
  rintro m' l' h tk ⟨vs, ns, e, rfl, rfl, hvs, hns, hlen⟩ F N
  k_sweep
  have hv := hvs.length
  (try k_fold)
  k_steps
  refine kl_reverse (l := vs.reverse) (by assumption) (by assumption) rfl (by k_upd) (by rw [sizeLine_eq]; show vs.length ≤ _; omega) ?_
  intro h' F' N'
  dsimp only
  k_sweep
  k_steps
  refine bytes_K (by assumption) (by assumption) (by is_list) (ints_rev hvs) (nt_rng hns) (by rw [sizeLine_eq, List.length_reverse]; omega) (by with_unfolding_all rfl) ?_
  intro h' t' k' F' N' hB
  clear hB
  k_sweep
  k_steps
  refine Ct.fin hret (by k_asm) (by k_asm) ?_
  exact ⟨t', by rw [nt_text hns], fun _ h => List.mem_cons_of_mem _ h, trivial⟩
end
section
set_option maxRecDepth 100000
set_option maxHeartbeats 8000000
variable {w : World} {p : Program} {loose : List Str} {mean : ExcName → Option Value} {mg mb : Str → Option Value}
theorem rows_C7_0 : True := by
  k_with_none
  k_with "enter" => (refine' code_defP ?k1Zq ?k2Zq ?k3Zq ?k4Zq ?k5Zq ?kAZq ?kFZq ?kKZq ?k6Zq ?p1Zq ?p2Zq ?p3Zq ?k7Zq ?k8Zq ?k9Zq ?kBZq ?_ ?c2Zq ?c3Zq ?c4Zq ?c5Zq; (case kAZq => exact rfl); (case kFZq => exact rfl); (case kKZq => assumption); (case k1Zq => k_asm); (case k2Zq => k_asm); (case k3Zq => k_asm); (case k4Zq => k_asm); (case k5Zq => k_asm); (case k6Zq => k_is); (case p1Zq => conv => lhs; whnf); (case p2Zq => conv => lhs; whnf); (case p3Zq => conv => lhs; whnf); (case k7Zq => k_is); (case k8Zq => ktr_room); (case k9Zq => exact BindsTo.of_eq rfl); (case c5Zq => decide); (case kBZq => exact locs rfl); (case c2Zq => exact rfl); (case c3Zq => exact rfl); (case c4Zq => exact rfl); k_whole; intro g' L' h' FG' F' N' B' X' T'; (try dsimp only); (try k_lift B'); (try k_fold))
  k_with "kenter" => (refine' code_defP ?k1Zq ?k2Zq ?k3Zq ?k4Zq ?k5Zq ?kAZq ?kFZq ?kKZq ?k6Zq ?p1Zq ?p2Zq ?p3Zq ?k7Zq ?k8Zq ?k9Zq ?kBZq ?_ ?c2Zq ?c3Zq ?c4Zq ?c5Zq; (case kAZq => exact rfl); (case kFZq => exact rfl); (case kKZq => exact rfl); (case k1Zq => k_asm); (case k2Zq => k_asm); (case k3Zq => k_asm); (case k4Zq => k_asm); (case k5Zq => k_asm); (case k6Zq => k_is); (case p1Zq => conv => lhs; whnf); (case p2Zq => conv => lhs; whnf); (case p3Zq => conv => lhs; whnf); (case k7Zq => k_is); (case k8Zq => k_room); (case k9Zq => first | exact BindsTo.of_eq rfl | exact binds_K (by k_in) rfl (by k_is) rfl rfl rfl); (case c5Zq => decide); (case kBZq => exact locs rfl); (case c2Zq => exact rfl); (case c3Zq => exact rfl); (case c4Zq => exact rfl); k_whole; intro g' L' h' FG' F' N' B' X' T'; (try dsimp only); (try k_lift B'); (try k_fold))
  k_with "compareOp In int bytes" => (k_here; k_dflt (first | refine in_bytes_u8 ?_ | refine in_bytes (by omega) ?_))
  k_with "mem" => (assumption)
  k_with "ite" => (first | with_reducible refine ite_tt ?_ | with_reducible refine ite_ff ?_ | with_reducible refine ite_T ?_ | with_reducible refine ite_F ?_ | with_reducible refine split_not ?_)
  trivial
theorem ex_bytes {a b : List UInt8} {t : Tok} {l : Led} (h : a = b) : ∃ x, Value.bytes a.toArray t = (fun (t : Tok) => Value.bytes b.toArray t) x ∧ (∀ q ∈ (fun (_ : Tok) => l) x, q ∈ l) ∧ (fun (_ : Tok) => True) x := ⟨t, by rw [h], fun _ h => h, trivial⟩
theorem rows_C7_1 : True := by
  k_with "call ref" => (
        k_here
        (with_reducible show wpAny _ _ (call (Value.ref 106) _) _ _ _)
        k_dflt (refine' Ct.use (is_number_int _ _ _) ?k1Zq ?k2Zq ?k3Zq ?k4Zq ?k5Zq ?kKZq ?kdZq ?kuZq ?_; (case k1Zq => k_asm); (case k2Zq => k_asm); (case k3Zq => k_asm); (case k4Zq => k_asm); (case k5Zq => k_asm); (case kKZq => first | exact rfl | assumption); (case kdZq => ktr_room); (case kuZq => ktr_units))
        intro x9 h9 tk9 P9 F9 N9; (first | (have q9 : True := P9; clear q9 P9) | skip); (try dsimp only at P9); (try dsimp only at N9); (try dsimp only); (try k_sweep); (try k_fold))
  k_with "call ref" => (
        k_here
        (with_reducible show wpAny _ _ (call (Value.ref 106) _) _ _ _)
        k_dflt (refine' Ct.use (is_number_bytes _ _ _) ?k1Zq ?k2Zq ?k3Zq ?k4Zq ?k5Zq ?kKZq ?kdZq ?kuZq ?_; (case k1Zq => k_asm); (case k2Zq => k_asm); (case k3Zq => k_asm); (case k4Zq => k_asm); (case k5Zq => k_asm); (case kKZq => first | exact rfl | assumption); (case kdZq => ktr_room); (case kuZq => ktr_units))
        intro x9 h9 tk9 P9 F9 N9; (first | (have q9 : True := P9; clear q9 P9) | skip); (try dsimp only at P9); (try dsimp only at N9); (try dsimp only); (try k_sweep); (try k_fold))
  k_with "call ref" => (
        k_here
        (with_reducible show wpAny _ _ (call (Value.ref 183) _) _ _ _)
        k_dflt (refine' Ct.use (number_text_ct _ _ _ (by assumption)) ?k1Zq ?k2Zq ?k3Zq ?k4Zq ?k5Zq ?kKZq ?kdZq ?kuZq ?_; (case k1Zq => k_asm); (case k2Zq => k_asm); (case k3Zq => k_asm); (case k4Zq => k_asm); (case k5Zq => k_asm); (case kKZq => first | exact rfl | assumption); (case kdZq => ktr_room); (case kuZq => ktr_units))
        intro x9 h9 tk9 P9 F9 N9; (first | (have q9 : True := P9; clear q9 P9) | skip); (try dsimp only at P9); (try dsimp only at N9); (try dsimp only); (try k_sweep); (try k_fold))
  trivial
theorem plain_text_int (i : Int) (t : Tok) (news : Led) (hi : Small i) :
    Ct w p loose mean mg mb 190 [.int i t] news 2 (fun t => .bytes (decText i).toArray t) (fun _ => news) (fun _ => True) := by
  (unfold Ct; k_fill; intro dpZ unZ gdZ cnZ csZ aZ ccdZ clZ outerZ AZ baseZ hZ LZ mZ sZ QZ EZ BZ FZ XZ NZ TZ hkZ hdZ huZ hret; refine wpAny_call ?_; k_dflt k_extra "enter"; k_steps)
  all_goals (refine Ct.fin hret (by k_asm) (by k_asm) ?_; exact ex_bytes rfl)
theorem plain_text_ct (v : V) (t : Tok) (news : Led) (hv : v.ok) :
    Ct w p loose mean mg mb 190 [v.val t] news 2 (fun t => .bytes v.text.toArray t) (fun _ => news) (fun _ => True) := by
  cases v with
  | none =>
    unfold V.val
    (unfold Ct; k_fill; intro dpZ unZ gdZ cnZ csZ aZ ccdZ clZ outerZ AZ baseZ hZ LZ mZ sZ QZ EZ BZ FZ XZ NZ TZ hkZ hdZ huZ hret; refine wpAny_call ?_; k_dflt k_extra "enter"; k_steps)
    all_goals (refine Ct.fin hret (by k_asm) (by k_asm) ?_; exact ex_bytes rfl)
  | bool b =>
    unfold V.val
    cases b <;> ((unfold Ct; k_fill; intro dpZ unZ gdZ cnZ csZ aZ ccdZ clZ outerZ AZ baseZ hZ LZ mZ sZ QZ EZ BZ FZ XZ NZ TZ hkZ hdZ huZ hret; refine wpAny_call ?_; k_dflt k_extra "enter"; k_steps); all_goals (refine Ct.fin hret (by k_asm) (by k_asm) ?_; exact ex_bytes rfl))
  | int i => exact plain_text_int i t news hv
  | bytes l =>
    unfold V.val
    (unfold Ct; k_fill; intro dpZ unZ gdZ cnZ csZ aZ ccdZ clZ outerZ AZ baseZ hZ LZ mZ sZ QZ EZ BZ FZ XZ NZ TZ hkZ hdZ huZ hret; refine wpAny_call ?_; k_dflt k_extra "enter"; k_steps)
    all_goals (refine Ct.fin hret (by k_asm) (by k_asm) ?_; exact ex_bytes rfl)
theorem type_of_ct (v : V) (t : Tok) (news : Led) :
    Ct w p loose mean mg mb 113 [v.val t] news 1 (fun t => .int v.tag t) (fun _ => news) (fun _ => True) := by
  cases v <;> (unfold V.val; (unfold Ct; k_fill; intro dpZ unZ gdZ cnZ csZ aZ ccdZ clZ outerZ AZ baseZ hZ LZ mZ sZ QZ EZ BZ FZ XZ NZ TZ hkZ hdZ huZ hret; refine wpAny_call ?_; k_dflt k_extra "enter"; k_steps); all_goals (refine Ct.fin hret (by k_asm) (by k_asm) ?_; exact ex_int rfl))
end
section
set_option maxRecDepth 100000
set_option maxHeartbeats 8000000
variable {w : World} {p : Program} {loose : List Str} {mean : ExcName → Option Value} {mg mb : Str → Option Value}
theorem rows_C8_0 : True := by
  k_with_none
  k_with "enter" => (refine' code_defP ?k1Zq ?k2Zq ?k3Zq ?k4Zq ?k5Zq ?kAZq ?kFZq ?kKZq ?k6Zq ?p1Zq ?p2Zq ?p3Zq ?k7Zq ?k8Zq ?k9Zq ?kBZq ?_ ?c2Zq ?c3Zq ?c4Zq ?c5Zq; (case kAZq => exact rfl); (case kFZq => exact rfl); (case kKZq => assumption); (case k1Zq => k_asm); (case k2Zq => k_asm); (case k3Zq => k_asm); (case k4Zq => k_asm); (case k5Zq => k_asm); (case k6Zq => k_is); (case p1Zq => conv => lhs; whnf); (case p2Zq => conv => lhs; whnf); (case p3Zq => conv => lhs; whnf); (case k7Zq => k_is); (case k8Zq => ktr_room); (case k9Zq => exact BindsTo.of_eq rfl); (case c5Zq => decide); (case kBZq => exact locs rfl); (case c2Zq => exact rfl); (case c3Zq => exact rfl); (case c4Zq => exact rfl); k_whole; intro g' L' h' FG' F' N' B' X' T'; (try dsimp only); (try k_lift B'); (try k_fold))
  k_with "kenter" => (refine' code_defP ?k1Zq ?k2Zq ?k3Zq ?k4Zq ?k5Zq ?kAZq ?kFZq ?kKZq ?k6Zq ?p1Zq ?p2Zq ?p3Zq ?k7Zq ?k8Zq ?k9Zq ?kBZq ?_ ?c2Zq ?c3Zq ?c4Zq ?c5Zq; (case kAZq => exact rfl); (case kFZq => exact rfl); (case kKZq => exact rfl); (case k1Zq => k_asm); (case k2Zq => k_asm); (case k3Zq => k_asm); (case k4Zq => k_asm); (case k5Zq => k_asm); (case k6Zq => k_is); (case p1Zq => conv => lhs; whnf); (case p2Zq => conv => lhs; whnf); (case p3Zq => conv => lhs; whnf); (case k7Zq => k_is); (case k8Zq => k_room); (case k9Zq => first | exact BindsTo.of_eq rfl | exact binds_K (by k_in) rfl (by k_is) rfl rfl rfl); (case c5Zq => decide); (case kBZq => exact locs rfl); (case c2Zq => exact rfl); (case c3Zq => exact rfl); (case c4Zq => exact rfl); k_whole; intro g' L' h' FG' F' N' B' X' T'; (try dsimp only); (try k_lift B'); (try k_fold))
  k_with "compareOp In int bytes" => (k_here; k_dflt (first | refine in_bytes_u8 ?_ | refine in_bytes (by omega) ?_))
  k_with "mem" => (assumption)
  k_with "ite" => (first | with_reducible refine ite_tt ?_ | with_reducible refine ite_ff ?_ | with_reducible refine ite_T ?_ | with_reducible refine ite_F ?_ | with_reducible refine split_not ?_)
  k_with "call ref" => (
        k_here
        (with_reducible show wpAny _ _ (call (Value.ref 113) _) _ _ _)
        k_dflt (refine' Ct.use (type_of_ct _ _ _) ?k1Zq ?k2Zq ?k3Zq ?k4Zq ?k5Zq ?kKZq ?kdZq ?kuZq ?_; (case k1Zq => k_asm); (case k2Zq => k_asm); (case k3Zq => k_asm); (case k4Zq => k_asm); (case k5Zq => k_asm); (case kKZq => first | exact rfl | assumption); (case kdZq => ktr_room); (case kuZq => ktr_units))
        intro x9 h9 tk9 P9 F9 N9; (first | (have q9 : True := P9; clear q9 P9) | skip); (try dsimp only at P9); (try dsimp only at N9); (try dsimp only); (try k_sweep); (try k_fold))
  trivial
theorem V.tag_of (v : V) : v.tag = 0 ∨ v.tag = 1 ∨ v.tag = 3 ∨ v.tag = 4 := by
  cases v <;> simp [V.tag]
theorem V.eqv_tag {a b : V} (h : a.tag ≠ b.tag) : false = V.eqv a b := by
  cases a <;> cases b <;> first | rfl | exact absurd rfl h
theorem V.eqv_nil {a b : V} (h : a.tag = b.tag) (h0 : a.tag = 0) : true = V.eqv a b := by
  cases a <;> cases b <;> first | rfl | (simp [V.tag] at h h0)
theorem eq_V {prog : Program} {w : World} {A : Around} {E : Value → Shared → Prop} {s : Shared} {a b : V} {t u : Tok} {Q : Value → Shared → Prop} (h : a.tag = b.tag) (h0 : a.tag ≠ 0) (hq : Q (.bool (V.eqv a b)) s) :
    wpAny (model prog w) A (compareOp .Eq (a.val t) (b.val u)) Q E s := by
  cases a <;> cases b <;> first | exact absurd rfl h0 | (exfalso; simp [V.tag] at h; done) | skip
  all_goals unfold V.val; unfold V.eqv at hq
  · exact eq_bool hq
  · exact eq_int hq
  · exact eq_bytes hq
theorem eq_Vb {prog : Program} {w : World} {A : Around} {E : Value → Shared → Prop} {s : Shared} {x : Bool} {b : V} {u : Tok} {Q : Value → Shared → Prop} (h : 1 = b.tag) (hq : Q (.bool (V.eqv (.bool x) b)) s) :
    wpAny (model prog w) A (compareOp .Eq (.bool x) (b.val u)) Q E s := eq_V (a := .bool x) (t := 0) h (by intro q; cases q) hq
theorem eq_Vi {prog : Program} {w : World} {A : Around} {E : Value → Shared → Prop} {s : Shared} {x : Int} {b : V} {t u : Tok} {Q : Value → Shared → Prop} (h : 3 = b.tag) (hq : Q (.bool (V.eqv (.int x) b)) s) :
    wpAny (model prog w) A (compareOp .Eq (.int x t) (b.val u)) Q E s := eq_V (a := .int x) (t := t) h (by intro q; cases q) hq
theorem eq_Vs {prog : Program} {w : World} {A : Around} {E : Value → Shared → Prop} {s : Shared} {x : List UInt8} {b : V} {t u : Tok} {Q : Value → Shared → Prop} (h : 4 = b.tag) (hq : Q (.bool (V.eqv (.bytes x) b)) s) :
    wpAny (model prog w) A (compareOp .Eq (.bytes x.toArray t) (b.val u)) Q E s := eq_V (a := .bytes x) (t := t) h (by intro q; cases q) hq
theorem rows_C8_1 : True := by
  k_with "compareOp Eq" => (k_here; (with_reducible show wpAny _ _ (compareOp CmpOp.Eq _ (V.val _ _)) _ _ _); first | refine eq_Vb (by omega) ?_ | refine eq_Vi (by omega) ?_ | refine eq_Vs (by omega) ?_)
  trivial
theorem type_of_bool (x : Bool) (news : Led) : Ct w p loose mean mg mb 113 [.bool x] news 1 (fun t => .int 1 t) (fun _ => news) (fun _ => True) := type_of_ct (.bool x) 0 news
theorem type_of_int (x : Int) (t : Tok) (news : Led) : Ct w p loose mean mg mb 113 [.int x t] news 1 (fun t => .int 3 t) (fun _ => news) (fun _ => True) := type_of_ct (.int x) t news
theorem type_of_bytes (x : List UInt8) (t : Tok) (news : Led) : Ct w p loose mean mg mb 113 [.bytes x.toArray t] news 1 (fun t => .int 4 t) (fun _ => news) (fun _ => True) := type_of_ct (.bytes x) t news
theorem type_of_none (news : Led) : Ct w p loose mean mg mb 113 [.none] news 1 (fun t => .int 0 t) (fun _ => news) (fun _ => True) := type_of_ct .none 0 news
theorem rows_C8_2 : True := by
  k_with "call ref" => (
        k_here
        (with_reducible show wpAny _ _ (call (Value.ref 113) _) _ _ _)
        k_dflt (refine' Ct.use (type_of_none _) ?k1Zq ?k2Zq ?k3Zq ?k4Zq ?k5Zq ?kKZq ?kdZq ?kuZq ?_; (case k1Zq => k_asm); (case k2Zq => k_asm); (case k3Zq => k_asm); (case k4Zq => k_asm); (case k5Zq => k_asm); (case kKZq => first | exact rfl | assumption); (case kdZq => ktr_room); (case kuZq => ktr_units))
        intro x9 h9 tk9 P9 F9 N9; (first | (have q9 : True := P9; clear q9 P9) | skip); (try dsimp only at P9); (try dsimp only at N9); (try dsimp only); (try k_sweep); (try k_fold))
  k_with "call ref" => (
        k_here
        (with_reducible show wpAny _ _ (call (Value.ref 113) _) _ _ _)
        k_dflt (refine' Ct.use (type_of_bool _ _) ?k1Zq ?k2Zq ?k3Zq ?k4Zq ?k5Zq ?kKZq ?kdZq ?kuZq ?_; (case k1Zq => k_asm); (case k2Zq => k_asm); (case k3Zq => k_asm); (case k4Zq => k_asm); (case k5Zq => k_asm); (case kKZq => first | exact rfl | assumption); (case kdZq => ktr_room); (case kuZq => ktr_units))
        intro x9 h9 tk9 P9 F9 N9; (first | (have q9 : True := P9; clear q9 P9) | skip); (try dsimp only at P9); (try dsimp only at N9); (try dsimp only); (try k_sweep); (try k_fold))
  k_with "call ref" => (
        k_here
        (with_reducible show wpAny _ _ (call (Value.ref 113) _) _ _ _)
        k_dflt (refine' Ct.use (type_of_int _ _ _) ?k1Zq ?k2Zq ?k3Zq ?k4Zq ?k5Zq ?kKZq ?kdZq ?kuZq ?_; (case k1Zq => k_asm); (case k2Zq => k_asm); (case k3Zq => k_asm); (case k4Zq => k_asm); (case k5Zq => k_asm); (case kKZq => first | exact rfl | assumption); (case kdZq => ktr_room); (case kuZq => ktr_units))
        intro x9 h9 tk9 P9 F9 N9; (first | (have q9 : True := P9; clear q9 P9) | skip); (try dsimp only at P9); (try dsimp only at N9); (try dsimp only); (try k_sweep); (try k_fold))
  k_with "call ref" => (
        k_here
        (with_reducible show wpAny _ _ (call (Value.ref 113) _) _ _ _)
        k_dflt (refine' Ct.use (type_of_bytes _ _ _) ?k1Zq ?k2Zq ?k3Zq ?k4Zq ?k5Zq ?kKZq ?kdZq ?kuZq ?_; (case k1Zq => k_asm); (case k2Zq => k_asm); (case k3Zq => k_asm); (case k4Zq => k_asm); (case k5Zq => k_asm); (case kKZq => first | exact rfl | assumption); (case kdZq => ktr_room); (case kuZq => ktr_units))
        intro x9 h9 tk9 P9 F9 N9; (first | (have q9 : True := P9; clear q9 P9) | skip); (try dsimp only at P9); (try dsimp only at N9); (try dsimp only); (try k_sweep); (try k_fold))
  trivial
theorem raw_equal_ct (a b : V) (t u : Tok) (news : Led) :
    Ct w p loose mean mg mb 120 [a.val t, b.val u] news 2 (fun (_ : Unit) => .bool (V.eqv a b)) (fun _ => news) (fun _ => True) := by
  cases a with
  | none =>
    show Ct w p loose mean mg mb 120 [.none, b.val u] _ _ _ _ _
    (unfold Ct; k_fill; intro dpZ unZ gdZ cnZ csZ aZ ccdZ clZ outerZ AZ baseZ hZ LZ mZ sZ QZ EZ BZ FZ XZ NZ TZ hkZ hdZ huZ hret; refine wpAny_call ?_; k_dflt k_extra "enter"; k_steps)
    all_goals (refine Ct.fin hret (by k_asm) (by k_asm) ?_; first | exact ex_bool (V.eqv_tag (a := .none) (by show (0 : Int) ≠ _; omega)) | exact ex_bool (V.eqv_nil (a := .none) (by show (0 : Int) = _; omega) rfl))
  | bool x =>
    show Ct w p loose mean mg mb 120 [.bool x, b.val u] _ _ _ _ _
    (unfold Ct; k_fill; intro dpZ unZ gdZ cnZ csZ aZ ccdZ clZ outerZ AZ baseZ hZ LZ mZ sZ QZ EZ BZ FZ XZ NZ TZ hkZ hdZ huZ hret; refine wpAny_call ?_; k_dflt k_extra "enter"; k_steps)
    all_goals (refine Ct.fin hret (by k_asm) (by k_asm) ?_; first | exact ⟨(), rfl, fun _ h => List.mem_cons_of_mem _ h, trivial⟩ | exact ex_bool (V.eqv_tag (a := .bool x) (by show (1 : Int) ≠ _; omega)))
  | int x =>
    show Ct w p loose mean mg mb 120 [.int x t, b.val u] _ _ _ _ _
    (unfold Ct; k_fill; intro dpZ unZ gdZ cnZ csZ aZ ccdZ clZ outerZ AZ baseZ hZ LZ mZ sZ QZ EZ BZ FZ XZ NZ TZ hkZ hdZ huZ hret; refine wpAny_call ?_; k_dflt k_extra "enter"; k_steps)
    all_goals (refine Ct.fin hret (by k_asm) (by k_asm) ?_; first | exact ⟨(), rfl, fun _ h => List.mem_cons_of_mem _ h, trivial⟩ | exact ex_bool (V.eqv_tag (a := .int x) (by show (3 : Int) ≠ _; omega)))
  | bytes x =>
    show Ct w p loose mean mg mb 120 [.bytes x.toArray t, b.val u] _ _ _ _ _
    (unfold Ct; k_fill; intro dpZ unZ gdZ cnZ csZ aZ ccdZ clZ outerZ AZ baseZ hZ LZ mZ sZ QZ EZ BZ FZ XZ NZ TZ hkZ hdZ huZ hret; refine wpAny_call ?_; k_dflt k_extra "enter"; k_steps)
    all_goals (refine Ct.fin hret (by k_asm) (by k_asm) ?_; first | exact ⟨(), rfl, fun _ h => List.mem_cons_of_mem _ h, trivial⟩ | exact ex_bool (V.eqv_tag (a := .bytes x) (by show (4 : Int) ≠ _; omega)))
end
section
set_option maxRecDepth 100000
set_option maxHeartbeats 8000000
variable {w : World} {p : Program} {loose : List Str} {mean : ExcName → Option Value} {mg mb : Str → Option Value}
theorem rows_C10_0 : True := by
  k_with_none
  k_with "enter" => (refine' code_defP ?k1Zq ?k2Zq ?k3Zq ?k4Zq ?k5Zq ?kAZq ?kFZq ?kKZq ?k6Zq ?p1Zq ?p2Zq ?p3Zq ?k7Zq ?k8Zq ?k9Zq ?kBZq ?_ ?c2Zq ?c3Zq ?c4Zq ?c5Zq; (case kAZq => exact rfl); (case kFZq => exact rfl); (case kKZq => assumption); (case k1Zq => k_asm); (case k2Zq => k_asm); (case k3Zq => k_asm); (case k4Zq => k_asm); (case k5Zq => k_asm); (case k6Zq => k_is); (case p1Zq => conv => lhs; whnf); (case p2Zq => conv => lhs; whnf); (case p3Zq => conv => lhs; whnf); (case k7Zq => k_is); (case k8Zq => ktr_room); (case k9Zq => exact BindsTo.of_eq rfl); (case c5Zq => decide); (case kBZq => exact locs rfl); (case c2Zq => exact rfl); (case c3Zq => exact rfl); (case c4Zq => exact rfl); k_whole; intro g' L' h' FG' F' N' B' X' T'; (try dsimp only); (try k_lift B'); (try k_fold))
  k_with "kenter" => (refine' code_defP ?k1Zq ?k2Zq ?k3Zq ?k4Zq ?k5Zq ?kAZq ?kFZq ?kKZq ?k6Zq ?p1Zq ?p2Zq ?p3Zq ?k7Zq ?k8Zq ?k9Zq ?kBZq ?_ ?c2Zq ?c3Zq ?c4Zq ?c5Zq; (case kAZq => exact rfl); (case kFZq => exact rfl); (case kKZq => exact rfl); (case k1Zq => k_asm); (case k2Zq => k_asm); (case k3Zq => k_asm); (case k4Zq => k_asm); (case k5Zq => k_asm); (case k6Zq => k_is); (case p1Zq => conv => lhs; whnf); (case p2Zq => conv => lhs; whnf); (case p3Zq => conv => lhs; whnf); (case k7Zq => k_is); (case k8Zq => k_room); (case k9Zq => first | exact BindsTo.of_eq rfl | exact binds_K (by k_in) rfl (by k_is) rfl rfl rfl); (case c5Zq => decide); (case kBZq => exact locs rfl); (case c2Zq => exact rfl); (case c3Zq => exact rfl); (case c4Zq => exact rfl); k_whole; intro g' L' h' FG' F' N' B' X' T'; (try dsimp only); (try k_lift B'); (try k_fold))
  k_with "compareOp In int bytes" => (k_here; k_dflt (first | refine in_bytes_u8 ?_ | refine in_bytes (by omega) ?_))
  k_with "mem" => (assumption)
  k_with "ite" => (first | with_reducible refine ite_tt ?_ | with_reducible refine ite_ff ?_ | with_reducible refine ite_T ?_ | with_reducible refine ite_F ?_ | with_reducible refine split_not ?_)
  trivial
abbrev dealO (nl : Addr) (k sd : Int) (t u : Tok) (e : Nat) : Obj := W.listOf #[.ref nl, .int k t, .int sd u] e
structure DealOk (k sd : Int) : Prop where
  k0 : 0 ≤ k
  k1 : k ≤ 1000
  s0 : 0 ≤ sd
  s1 : sd < 2147483647
structure Cards (ns : List Int) : Prop where
  len : ns.length ≤ 63
  rng : ∀ x ∈ ns, 0 ≤ x ∧ x < 1000003
theorem rows_C10_1 : True := by
  k_with "all" => (assumption)
  k_with "ne" => (assumption)
  trivial
structure Tk where
  r : Int
  k : Int
  sd : Int
  tr : Tok
  t : Tok
  u : Tok
theorem law_take_ct (d nl : Addr) (k sd many : Int) (t u tm : Tok) (e e2 : Nat) (vs : List Value) (ns : List Int) (rest : Led) (hne : ∀ p ∈ rest, p.1 ≠ d) (hnl : nl ≠ d) (hk : DealOk k sd) (hm : 0 < many ∧ many < 100000) (hv : IntsAre vs ns) (hr : Cards ns) :
    Ct w p loose mean mg mb 223 [.ref d, .int many tm] ((d, dealO nl k sd t u e) :: (nl, W.listOf vs.toArray e2) :: rest) 1 (fun (x : Tk) => .int x.r x.tr) (fun x => (d, dealO nl x.k x.sd x.t x.u e) :: (nl, W.listOf vs.toArray e2) :: rest) (fun x => 0 ≤ x.r ∧ x.r < many ∧ DealOk x.k x.sd) := by
  have hvl := hv.length
  have hrl := hr.len
  obtain ⟨k0, k1, s0, s1⟩ := hk
  (unfold Ct; k_fill; intro dpZ unZ gdZ cnZ csZ aZ ccdZ clZ outerZ AZ baseZ hZ LZ mZ sZ QZ EZ BZ FZ XZ NZ TZ hkZ hdZ huZ hret; refine wpAny_call ?_; k_dflt k_extra "enter"; k_steps)
  all_goals refine Ct.fin hret (by k_asm) (by k_asm) ?_
  · refine ⟨⟨_, _, _, _, _, _⟩, rfl, fun _ h => h, Int.fmod_nonneg_of_pos _ hm.1, Int.fmod_lt_of_pos _ hm.1, (by omega : 0 ≤ k + 1), (by omega : k + 1 ≤ 1000), s0, s1⟩
  · refine ⟨⟨_, _, _, _, _, _⟩, rfl, fun _ h => h, Int.fmod_nonneg_of_pos _ hm.1, Int.fmod_lt_of_pos _ hm.1, k0, k1, Int.fmod_nonneg_of_pos _ (by omega), Int.fmod_lt_of_pos _ (by omega)⟩
theorem Ct.perm {ι : Type} {w : World} {p : Program} {loose : List Str} {mean : ExcName → Option Value} {mg mb : Str → Option Value} {f : Addr} {args : List Value} {news news' : Led} {need : Nat} {val : ι → Value} {led led' : ι → Led} {P : ι → Prop}
    (C : Ct w p loose mean mg mb f args news need val led P) (h : ∀ q ∈ news, q ∈ news') (h' : ∀ x, ∀ q ∈ led' x, q ∈ led x) : Ct w p loose mean mg mb f args news' need val led' P := by
  intro dp un gd cn cs a ccd cl outer A₀ base h₀ L m s Q E B F X N T hk hd hu ret
  exact C _ _ _ _ _ _ _ _ _ _ _ _ _ _ _ _ _ B F X (fun q hq => N q (h q hq)) T hk hd hu fun x h9 tk' hp F' N' => ret x h9 tk' hp F' fun q hq => N' q (h' x q hq)
theorem mem_front {α : Type} {a b : α} {fr rest : List α} : ∀ q, q ∈ a :: b :: (fr ++ rest) ↔ q ∈ fr ++ a :: b :: rest := by
  intro q
  simp only [List.mem_cons, List.mem_append]
  constructor
  · rintro (h | h | h | h)
    · exact .inr (.inl h)
    · exact .inr (.inr (.inl h))
    · exact .inl h
    · exact .inr (.inr (.inr h))
  · rintro (h | h | h | h)
    · exact .inr (.inr (.inl h))
    · exact .inl h
    · exact .inr (.inl h)
    · exact .inr (.inr (.inr h))
theorem law_take_f (fr : Led) (d nl : Addr) (k sd many : Int) (t u tm : Tok) (e e2 : Nat) (vs : List Value) (ns : List Int) (rest : Led) (hne : ∀ p ∈ fr ++ rest, p.1 ≠ d) (hnl : nl ≠ d) (hk : DealOk k sd) (hm : 0 < many ∧ many < 100000) (hv : IntsAre vs ns) (hr : Cards ns) :
    Ct w p loose mean mg mb 223 [.ref d, .int many tm] (fr ++ (d, dealO nl k sd t u e) :: (nl, W.listOf vs.toArray e2) :: rest) 1 (fun (x : Tk) => .int x.r x.tr) (fun x => fr ++ (d, dealO nl x.k x.sd x.t x.u e) :: (nl, W.listOf vs.toArray e2) :: rest) (fun x => 0 ≤ x.r ∧ x.r < many ∧ DealOk x.k x.sd) :=
  (law_take_ct d nl k sd many t u tm e e2 vs ns (fr ++ rest) hne hnl hk hm hv hr).perm (fun q hq => (mem_front q).mp hq) (fun _ q hq => (mem_front q).mpr hq)
theorem law_take_1 (q0 : Addr × Obj) (d nl : Addr) (k sd many : Int) (t u tm : Tok) (e e2 : Nat) (vs : List Value) (ns : List Int) (rest : Led) (hq : q0.1 ≠ d) (hne : ∀ p ∈ rest, p.1 ≠ d) (hnl : nl ≠ d) (hk : DealOk k sd) (hm : 0 < many ∧ many < 100000) (hv : IntsAre vs ns) (hr : Cards ns) :
    Ct w p loose mean mg mb 223 [.ref d, .int many tm] (q0 :: (d, dealO nl k sd t u e) :: (nl, W.listOf vs.toArray e2) :: rest) 1 (fun (x : Tk) => .int x.r x.tr) (fun x => q0 :: (d, dealO nl x.k x.sd x.t x.u e) :: (nl, W.listOf vs.toArray e2) :: rest) (fun x => 0 ≤ x.r ∧ x.r < many ∧ DealOk x.k x.sd) :=
  law_take_f [q0] d nl k sd many t u tm e e2 vs ns rest (by intro p hp; simp only [List.cons_append, List.nil_append, List.mem_cons] at hp; rcases hp with rfl | hp; exact hq; exact hne p hp) hnl hk hm hv hr
theorem law_take_2 (q0 q1 : Addr × Obj) (d nl : Addr) (k sd many : Int) (t u tm : Tok) (e e2 : Nat) (vs : List Value) (ns : List Int) (rest : Led) (hq : q0.1 ≠ d ∧ q1.1 ≠ d) (hne : ∀ p ∈ rest, p.1 ≠ d) (hnl : nl ≠ d) (hk : DealOk k sd) (hm : 0 < many ∧ many < 100000) (hv : IntsAre vs ns) (hr : Cards ns) :
    Ct w p loose mean mg mb 223 [.ref d, .int many tm] (q0 :: q1 :: (d, dealO nl k sd t u e) :: (nl, W.listOf vs.toArray e2) :: rest) 1 (fun (x : Tk) => .int x.r x.tr) (fun x => q0 :: q1 :: (d, dealO nl x.k x.sd x.t x.u e) :: (nl, W.listOf vs.toArray e2) :: rest) (fun x => 0 ≤ x.r ∧ x.r < many ∧ DealOk x.k x.sd) :=
  law_take_f [q0, q1] d nl k sd many t u tm e e2 vs ns rest (by intro p hp; simp only [List.cons_append, List.nil_append, List.mem_cons] at hp; obtain ⟨g0, g1⟩ := hq; rcases hp with rfl | rfl | hp; all_goals first | assumption | exact hne p hp) hnl hk hm hv hr
theorem law_take_3 (q0 q1 q2 : Addr × Obj) (d nl : Addr) (k sd many : Int) (t u tm : Tok) (e e2 : Nat) (vs : List Value) (ns : List Int) (rest : Led) (hq : q0.1 ≠ d ∧ q1.1 ≠ d ∧ q2.1 ≠ d) (hne : ∀ p ∈ rest, p.1 ≠ d) (hnl : nl ≠ d) (hk : DealOk k sd) (hm : 0 < many ∧ many < 100000) (hv : IntsAre vs ns) (hr : Cards ns) :
    Ct w p loose mean mg mb 223 [.ref d, .int many tm] (q0 :: q1 :: q2 :: (d, dealO nl k sd t u e) :: (nl, W.listOf vs.toArray e2) :: rest) 1 (fun (x : Tk) => .int x.r x.tr) (fun x => q0 :: q1 :: q2 :: (d, dealO nl x.k x.sd x.t x.u e) :: (nl, W.listOf vs.toArray e2) :: rest) (fun x => 0 ≤ x.r ∧ x.r < many ∧ DealOk x.k x.sd) :=
  law_take_f [q0, q1, q2] d nl k sd many t u tm e e2 vs ns rest (by intro p hp; simp only [List.cons_append, List.nil_append, List.mem_cons] at hp; obtain ⟨g0, g1, g2⟩ := hq; rcases hp with rfl | rfl | rfl | hp; all_goals first | assumption | exact hne p hp) hnl hk hm hv hr
theorem law_take_4 (q0 q1 q2 q3 : Addr × Obj) (d nl : Addr) (k sd many : Int) (t u tm : Tok) (e e2 : Nat) (vs : List Value) (ns : List Int) (rest : Led) (hq : q0.1 ≠ d ∧ q1.1 ≠ d ∧ q2.1 ≠ d ∧ q3.1 ≠ d) (hne : ∀ p ∈ rest, p.1 ≠ d) (hnl : nl ≠ d) (hk : DealOk k sd) (hm : 0 < many ∧ many < 100000) (hv : IntsAre vs ns) (hr : Cards ns) :
    Ct w p loose mean mg mb 223 [.ref d, .int many tm] (q0 :: q1 :: q2 :: q3 :: (d, dealO nl k sd t u e) :: (nl, W.listOf vs.toArray e2) :: rest) 1 (fun (x : Tk) => .int x.r x.tr) (fun x => q0 :: q1 :: q2 :: q3 :: (d, dealO nl x.k x.sd x.t x.u e) :: (nl, W.listOf vs.toArray e2) :: rest) (fun x => 0 ≤ x.r ∧ x.r < many ∧ DealOk x.k x.sd) :=
  law_take_f [q0, q1, q2, q3] d nl k sd many t u tm e e2 vs ns rest (by intro p hp; simp only [List.cons_append, List.nil_append, List.mem_cons] at hp; obtain ⟨g0, g1, g2, g3⟩ := hq; rcases hp with rfl | rfl | rfl | rfl | hp; all_goals first | assumption | exact hne p hp) hnl hk hm hv hr
theorem law_take_5 (q0 q1 q2 q3 q4 : Addr × Obj) (d nl : Addr) (k sd many : Int) (t u tm : Tok) (e e2 : Nat) (vs : List Value) (ns : List Int) (rest : Led) (hq : q0.1 ≠ d ∧ q1.1 ≠ d ∧ q2.1 ≠ d ∧ q3.1 ≠ d ∧ q4.1 ≠ d) (hne : ∀ p ∈ rest, p.1 ≠ d) (hnl : nl ≠ d) (hk : DealOk k sd) (hm : 0 < many ∧ many < 100000) (hv : IntsAre vs ns) (hr : Cards ns) :
    Ct w p loose mean mg mb 223 [.ref d, .int many tm] (q0 :: q1 :: q2 :: q3 :: q4 :: (d, dealO nl k sd t u e) :: (nl, W.listOf vs.toArray e2) :: rest) 1 (fun (x : Tk) => .int x.r x.tr) (fun x => q0 :: q1 :: q2 :: q3 :: q4 :: (d, dealO nl x.k x.sd x.t x.u e) :: (nl, W.listOf vs.toArray e2) :: rest) (fun x => 0 ≤ x.r ∧ x.r < many ∧ DealOk x.k x.sd) :=
  law_take_f [q0, q1, q2, q3, q4] d nl k sd many t u tm e e2 vs ns rest (by intro p hp; simp only [List.cons_append, List.nil_append, List.mem_cons] at hp; obtain ⟨g0, g1, g2, g3, g4⟩ := hq; rcases hp with rfl | rfl | rfl | rfl | rfl | hp; all_goals first | assumption | exact hne p hp) hnl hk hm hv hr
theorem law_take_6 (q0 q1 q2 q3 q4 q5 : Addr × Obj) (d nl : Addr) (k sd many : Int) (t u tm : Tok) (e e2 : Nat) (vs : List Value) (ns : List Int) (rest : Led) (hq : q0.1 ≠ d ∧ q1.1 ≠ d ∧ q2.1 ≠ d ∧ q3.1 ≠ d ∧ q4.1 ≠ d ∧ q5.1 ≠ d) (hne : ∀ p ∈ rest, p.1 ≠ d) (hnl : nl ≠ d) (hk : DealOk k sd) (hm : 0 < many ∧ many < 100000) (hv : IntsAre vs ns) (hr : Cards ns) :
    Ct w p loose mean mg mb 223 [.ref d, .int many tm] (q0 :: q1 :: q2 :: q3 :: q4 :: q5 :: (d, dealO nl k sd t u e) :: (nl, W.listOf vs.toArray e2) :: rest) 1 (fun (x : Tk) => .int x.r x.tr) (fun x => q0 :: q1 :: q2 :: q3 :: q4 :: q5 :: (d, dealO nl x.k x.sd x.t x.u e) :: (nl, W.listOf vs.toArray e2) :: rest) (fun x => 0 ≤ x.r ∧ x.r < many ∧ DealOk x.k x.sd) :=
  law_take_f [q0, q1, q2, q3, q4, q5] d nl k sd many t u tm e e2 vs ns rest (by intro p hp; simp only [List.cons_append, List.nil_append, List.mem_cons] at hp; obtain ⟨g0, g1, g2, g3, g4, g5⟩ := hq; rcases hp with rfl | rfl | rfl | rfl | rfl | rfl | hp; all_goals first | assumption | exact hne p hp) hnl hk hm hv hr
end
section
set_option maxRecDepth 100000
set_option maxHeartbeats 8000000
variable {w : World} {p : Program} {loose : List Str} {mean : ExcName → Option Value} {mg mb : Str → Option Value}
theorem rows_C11_0 : True := by
  k_with_none
  k_with "enter" => (refine' code_defP ?k1Zq ?k2Zq ?k3Zq ?k4Zq ?k5Zq ?kAZq ?kFZq ?kKZq ?k6Zq ?p1Zq ?p2Zq ?p3Zq ?k7Zq ?k8Zq ?k9Zq ?kBZq ?_ ?c2Zq ?c3Zq ?c4Zq ?c5Zq; (case kAZq => exact rfl); (case kFZq => exact rfl); (case kKZq => assumption); (case k1Zq => k_asm); (case k2Zq => k_asm); (case k3Zq => k_asm); (case k4Zq => k_asm); (case k5Zq => k_asm); (case k6Zq => k_is); (case p1Zq => conv => lhs; whnf); (case p2Zq => conv => lhs; whnf); (case p3Zq => conv => lhs; whnf); (case k7Zq => k_is); (case k8Zq => ktr_room); (case k9Zq => exact BindsTo.of_eq rfl); (case c5Zq => decide); (case kBZq => exact locs rfl); (case c2Zq => exact rfl); (case c3Zq => exact rfl); (case c4Zq => exact rfl); k_whole; intro g' L' h' FG' F' N' B' X' T'; (try dsimp only); (try k_lift B'); (try k_fold))
  k_with "kenter" => (refine' code_defP ?k1Zq ?k2Zq ?k3Zq ?k4Zq ?k5Zq ?kAZq ?kFZq ?kKZq ?k6Zq ?p1Zq ?p2Zq ?p3Zq ?k7Zq ?k8Zq ?k9Zq ?kBZq ?_ ?c2Zq ?c3Zq ?c4Zq ?c5Zq; (case kAZq => exact rfl); (case kFZq => exact rfl); (case kKZq => exact rfl); (case k1Zq => k_asm); (case k2Zq => k_asm); (case k3Zq => k_asm); (case k4Zq => k_asm); (case k5Zq => k_asm); (case k6Zq => k_is); (case p1Zq => conv => lhs; whnf); (case p2Zq => conv => lhs; whnf); (case p3Zq => conv => lhs; whnf); (case k7Zq => k_is); (case k8Zq => k_room); (case k9Zq => first | exact BindsTo.of_eq rfl | exact binds_K (by k_in) rfl (by k_is) rfl rfl rfl); (case c5Zq => decide); (case kBZq => exact locs rfl); (case c2Zq => exact rfl); (case c3Zq => exact rfl); (case c4Zq => exact rfl); k_whole; intro g' L' h' FG' F' N' B' X' T'; (try dsimp only); (try k_lift B'); (try k_fold))
  k_with "compareOp In int bytes" => (k_here; k_dflt (first | refine in_bytes_u8 ?_ | refine in_bytes (by omega) ?_))
  k_with "mem" => (assumption)
  k_with "ite" => (first | with_reducible refine ite_tt ?_ | with_reducible refine ite_ff ?_ | with_reducible refine ite_T ?_ | with_reducible refine ite_F ?_ | with_reducible refine split_not ?_)
  trivial
theorem allNe {L c : Nat} {rest : Led} (h : AllLt L rest) (hc : L ≤ c) : ∀ p ∈ rest, p.1 ≠ c := fun p hp q => by
  have := tb_ltOf h p hp
  rw [q] at this
  exact absurd this (Nat.not_lt.mpr hc)
theorem rows_C11_1 : True := by
  k_with "all" => (first | assumption | exact allNe (by assumption) (by omega))
  k_with "ne" => (assumption)
  k_with "call ref" => (
      k_here
      (with_reducible show wpAny _ _ (call (Value.ref 223) _) _ _ _)
      k_dflt (refine' Ct.use (law_take_6 _ _ _ _ _ _ _ _ _ _ _ _ _ _ _ _ _ _ _ ?hqZq ?hneZq ?hnlZq ?hkZq ?hmZq ?hvZq ?hrZq) ?k1Zq ?k2Zq ?k3Zq ?k4Zq ?k5Zq ?kKZq ?kdZq ?kuZq ?_; (case k1Zq => k_asm); (case k2Zq => k_asm); (case k3Zq => k_asm); (case k4Zq => k_asm); (case k5Zq => k_asm); (case kKZq => first | exact rfl | assumption); (case kdZq => ktr_room); (case kuZq => ktr_units); (case hqZq => (repeat' apply And.intro) <;> k_ne); (case hneZq => assumption); (case hnlZq => assumption); (case hkZq => assumption); (case hmZq => omega); (case hvZq => assumption); (case hrZq => assumption))
      intro x9 h9 tk9 P9 F9 N9
      obtain ⟨r9, k9, s9, t9, u9, v9⟩ := x9
      obtain ⟨p9, q9, d9⟩ := P9
      (try dsimp only at p9 q9 d9 N9); (try dsimp only); (try k_sweep); (try k_fold))
  k_with "call ref" => (
      k_here
      (with_reducible show wpAny _ _ (call (Value.ref 223) _) _ _ _)
      k_dflt (refine' Ct.use (law_take_5 _ _ _ _ _ _ _ _ _ _ _ _ _ _ _ _ _ _ ?hqZq ?hneZq ?hnlZq ?hkZq ?hmZq ?hvZq ?hrZq) ?k1Zq ?k2Zq ?k3Zq ?k4Zq ?k5Zq ?kKZq ?kdZq ?kuZq ?_; (case k1Zq => k_asm); (case k2Zq => k_asm); (case k3Zq => k_asm); (case k4Zq => k_asm); (case k5Zq => k_asm); (case kKZq => first | exact rfl | assumption); (case kdZq => ktr_room); (case kuZq => ktr_units); (case hqZq => (repeat' apply And.intro) <;> k_ne); (case hneZq => assumption); (case hnlZq => assumption); (case hkZq => assumption); (case hmZq => omega); (case hvZq => assumption); (case hrZq => assumption))
      intro x9 h9 tk9 P9 F9 N9
      obtain ⟨r9, k9, s9, t9, u9, v9⟩ := x9
      obtain ⟨p9, q9, d9⟩ := P9
      (try dsimp only at p9 q9 d9 N9); (try dsimp only); (try k_sweep); (try k_fold))
  k_with "call ref" => (
      k_here
      (with_reducible show wpAny _ _ (call (Value.ref 223) _) _ _ _)
      k_dflt (refine' Ct.use (law_take_4 _ _ _ _ _ _ _ _ _ _ _ _ _ _ _ _ _ ?hqZq ?hneZq ?hnlZq ?hkZq ?hmZq ?hvZq ?hrZq) ?k1Zq ?k2Zq ?k3Zq ?k4Zq ?k5Zq ?kKZq ?kdZq ?kuZq ?_; (case k1Zq => k_asm); (case k2Zq => k_asm); (case k3Zq => k_asm); (case k4Zq => k_asm); (case k5Zq => k_asm); (case kKZq => first | exact rfl | assumption); (case kdZq => ktr_room); (case kuZq => ktr_units); (case hqZq => (repeat' apply And.intro) <;> k_ne); (case hneZq => assumption); (case hnlZq => assumption); (case hkZq => assumption); (case hmZq => omega); (case hvZq => assumption); (case hrZq => assumption))
      intro x9 h9 tk9 P9 F9 N9
      obtain ⟨r9, k9, s9, t9, u9, v9⟩ := x9
      obtain ⟨p9, q9, d9⟩ := P9
      (try dsimp only at p9 q9 d9 N9); (try dsimp only); (try k_sweep); (try k_fold))
  k_with "call ref" => (
      k_here
      (with_reducible show wpAny _ _ (call (Value.ref 223) _) _ _ _)
      k_dflt (refine' Ct.use (law_take_3 _ _ _ _ _ _ _ _ _ _ _ _ _ _ _ _ ?hqZq ?hneZq ?hnlZq ?hkZq ?hmZq ?hvZq ?hrZq) ?k1Zq ?k2Zq ?k3Zq ?k4Zq ?k5Zq ?kKZq ?kdZq ?kuZq ?_; (case k1Zq => k_asm); (case k2Zq => k_asm); (case k3Zq => k_asm); (case k4Zq => k_asm); (case k5Zq => k_asm); (case kKZq => first | exact rfl | assumption); (case kdZq => ktr_room); (case kuZq => ktr_units); (case hqZq => (repeat' apply And.intro) <;> k_ne); (case hneZq => assumption); (case hnlZq => assumption); (case hkZq => assumption); (case hmZq => omega); (case hvZq => assumption); (case hrZq => assumption))
      intro x9 h9 tk9 P9 F9 N9
      obtain ⟨r9, k9, s9, t9, u9, v9⟩ := x9
      obtain ⟨p9, q9, d9⟩ := P9
      (try dsimp only at p9 q9 d9 N9); (try dsimp only); (try k_sweep); (try k_fold))
  k_with "call ref" => (
      k_here
      (with_reducible show wpAny _ _ (call (Value.ref 223) _) _ _ _)
      k_dflt (refine' Ct.use (law_take_2 _ _ _ _ _ _ _ _ _ _ _ _ _ _ _ ?hqZq ?hneZq ?hnlZq ?hkZq ?hmZq ?hvZq ?hrZq) ?k1Zq ?k2Zq ?k3Zq ?k4Zq ?k5Zq ?kKZq ?kdZq ?kuZq ?_; (case k1Zq => k_asm); (case k2Zq => k_asm); (case k3Zq => k_asm); (case k4Zq => k_asm); (case k5Zq => k_asm); (case kKZq => first | exact rfl | assumption); (case kdZq => ktr_room); (case kuZq => ktr_units); (case hqZq => (repeat' apply And.intro) <;> k_ne); (case hneZq => assumption); (case hnlZq => assumption); (case hkZq => assumption); (case hmZq => omega); (case hvZq => assumption); (case hrZq => assumption))
      intro x9 h9 tk9 P9 F9 N9
      obtain ⟨r9, k9, s9, t9, u9, v9⟩ := x9
      obtain ⟨p9, q9, d9⟩ := P9
      (try dsimp only at p9 q9 d9 N9); (try dsimp only); (try k_sweep); (try k_fold))
  k_with "call ref" => (
      k_here
      (with_reducible show wpAny _ _ (call (Value.ref 223) _) _ _ _)
      k_dflt (refine' Ct.use (law_take_1 _ _ _ _ _ _ _ _ _ _ _ _ _ _ ?hqZq ?hneZq ?hnlZq ?hkZq ?hmZq ?hvZq ?hrZq) ?k1Zq ?k2Zq ?k3Zq ?k4Zq ?k5Zq ?kKZq ?kdZq ?kuZq ?_; (case k1Zq => k_asm); (case k2Zq => k_asm); (case k3Zq => k_asm); (case k4Zq => k_asm); (case k5Zq => k_asm); (case kKZq => first | exact rfl | assumption); (case kdZq => ktr_room); (case kuZq => ktr_units); (case hqZq => (repeat' apply And.intro) <;> k_ne); (case hneZq => assumption); (case hnlZq => assumption); (case hkZq => assumption); (case hmZq => omega); (case hvZq => assumption); (case hrZq => assumption))
      intro x9 h9 tk9 P9 F9 N9
      obtain ⟨r9, k9, s9, t9, u9, v9⟩ := x9
      obtain ⟨p9, q9, d9⟩ := P9
      (try dsimp only at p9 q9 d9 N9); (try dsimp only); (try k_sweep); (try k_fold))
  k_with "call ref" => (
      k_here
      (with_reducible show wpAny _ _ (call (Value.ref 223) _) _ _ _)
      k_dflt (refine' Ct.use (law_take_ct  _ _ _ _ _ _ _ _ _ _ _ _ _ ?hneZq ?hnlZq ?hkZq ?hmZq ?hvZq ?hrZq) ?k1Zq ?k2Zq ?k3Zq ?k4Zq ?k5Zq ?kKZq ?kdZq ?kuZq ?_; (case k1Zq => k_asm); (case k2Zq => k_asm); (case k3Zq => k_asm); (case k4Zq => k_asm); (case k5Zq => k_asm); (case kKZq => first | exact rfl | assumption); (case kdZq => ktr_room); (case kuZq => ktr_units); (case hneZq => assumption); (case hnlZq => assumption); (case hkZq => assumption); (case hmZq => omega); (case hvZq => assumption); (case hrZq => assumption))
      intro x9 h9 tk9 P9 F9 N9
      obtain ⟨r9, k9, s9, t9, u9, v9⟩ := x9
      obtain ⟨p9, q9, d9⟩ := P9
      (try dsimp only at p9 q9 d9 N9); (try dsimp only); (try k_sweep); (try k_fold))
  k_with "enter" => (refine' code_defCP ?k1Zq ?k2Zq ?k3Zq ?k4Zq ?k5Zq ?kAZq ?kFZq ?kKZq ?k6Zq ?p1Zq ?p2Zq ?p3Zq ?k7Zq ?k8Zq ?k9Zq ?kBZq ?kDZq ?_ ?c2Zq ?c3Zq ?c4Zq; (case kAZq => exact rfl); (case kFZq => exact rfl); (case kKZq => assumption); (case k1Zq => k_asm); (case k2Zq => k_asm); (case k3Zq => k_asm); (case k4Zq => k_asm); (case k5Zq => k_asm); (case k6Zq => k_is); (case p1Zq => conv => lhs; whnf); (case p2Zq => conv => lhs; whnf); (case p3Zq => conv => lhs; whnf); (case k7Zq => k_is); (case k8Zq => ktr_room); (case k9Zq => exact BindsTo.of_eq rfl); (case kBZq => exact rfl); (case kDZq => decide +kernel); (case c2Zq => exact rfl); (case c3Zq => exact rfl); (case c4Zq => exact rfl); k_whole; intro g' L' h' tk' cells' FG' F' N' Y' B' X' T' l1; (try k_lt l1); k_cells Y'; (try simp only [List.cons_append, List.nil_append] at N'); (try dsimp only); (try k_lift B'); (try k_fold))
  trivial
theorem small3 {r : Int} (h0 : 0 ≤ r) (h : r < 3) : r = 0 ∨ r = 1 ∨ r = 2 := by omega
theorem rows_C11_2 : True := by
  k_with "getMethod bytes" => (k_here; with_reducible refine getMethod_join ?_)
  k_with "CompSrc" => (k_here; k_dflt (refine LCg.CompSrc.range (by rfl) (by k_asm) (by k_asm) (by assumption) (small_ok (by omega) (by omega)) (rangeSize_nat _ _) (by rw [sizeLine_eq]; omega) (Hid.out ?_)))
  trivial
structure SignsMark : Prop where
structure PieceB (l : List UInt8) : Prop where
  len : l.length ≤ 2
  sg : ∀ b ∈ l, SgB b
noncomputable def Piece (v : Value) : Prop := ∃ l t, v = .bytes (List.toArray l) t ∧ PieceB l
theorem rows_C11_3 : True := by
  k_with "subscriptTail" => (k_here; have := (by assumption : SignsMark); (with_reducible show wpAny _ _ (subscriptTail _ _ (Value.ref _) (Value.int _ _)) _ _ _); k_dflt (refine' item_any ?k1Zq ?k2Zq ?k3Zq ?k4Zq ?_ ?k6Zq; (case k1Zq => is_list); (case k2Zq => omega); (case k3Zq => ((simp only [List.length_cons, List.length_nil]); omega)); (case k4Zq => omega); (case k6Zq => with_unfolding_all rfl); k_whole); intro v14 hv14 hm14; clear hv14)
  trivial
theorem signs_end {h₀ : Heap} {L I C D : Addr} {m : Str → Option Value} {s₁ : Shared} {oI oC oD : Obj} {y : Value} {h' : Heap} {tk : Nat}
    {l' c1 c2 d nl : Addr} {vs14 : List Value} {o1 o2 : Obj} {k sd : Int} {t u : Tok} {e e2 e3 : Nat} {vs : List Value} {rest : Led} {O : Obj}
    (F : Fr h₀ L h' m) (N : News h₀ L h' ((I, oI) :: (C, oC) :: (D, oD) :: (l', W.listOf vs14.toArray e3) :: (c1, o1) :: (c2, o2) :: (d, dealO nl k sd t u e) :: (nl, W.listOf vs.toArray e2) :: rest))
    (off : LCg.Off3 I C D ((l', W.listOf vs14.toArray e3) :: (c1, o1) :: (c2, o2) :: (d, O) :: (nl, W.listOf vs.toArray e2) :: rest)) (hk : DealOk k sd) (hy : Piece y) :
    LCg.CompEnd h₀ L m s₁ I oI C oC D oD (fun _ => True) (fun y news' => Piece y ∧ ∃ k sd t u, DealOk k sd ∧ news' = (l', W.listOf vs14.toArray e3) :: (c1, o1) :: (c2, o2) :: (d, dealO nl k sd t u e) :: (nl, W.listOf vs.toArray e2) :: rest) y { s₁ with heap := h', toks := tk } :=
  LCg.CompEnd.intro F N _ (fun _ h => h) off True.intro ⟨hy, k, sd, t, u, hk, rfl⟩
theorem comp_signs {prog : Program} {w : World} {A : Around} {h₀ : Heap} {L : Addr} {m : Str → Option Value} {env : Env} {elt : Expr} {x : Str} {scope : Scope} {cl : List (Str × Addr)} {s : Shared} {S : Led → Prop} {P : Nat → Value → Prop} {Fin : List Value → Led → Prop} {n : Nat}
    {l' c1 c2 d nl : Addr} {vs14 : List Value} {o1 o2 : Obj} {k sd : Int} {t u : Tok} {e e2 e3 : Nat} {vs : List Value} {rest : Led} (hk : DealOk k sd)
    (fin : ∀ ys k sd t u, ys.length = n → (∀ y ∈ ys, Piece y) → DealOk k sd → Fin ys ((l', W.listOf vs14.toArray e3) :: (c1, o1) :: (c2, o2) :: (d, dealO nl k sd t u e) :: (nl, W.listOf vs.toArray e2) :: rest))
    (step : ∀ ys k sd t u, ys.length < n → (∀ y ∈ ys, Piece y) → DealOk k sd → ∀ v I oI C oC D m₂ h tk (E' : Value → Shared → Prop), LCg.NsObj oC m₂ → m₂ x = some v → Fr h₀ L h m → News h₀ L h ((I, oI) :: (C, oC) :: (D, LCg.lst ys) :: (l', W.listOf vs14.toArray e3) :: (c1, o1) :: (c2, o2) :: (d, dealO nl k sd t u e) :: (nl, W.listOf vs.toArray e2) :: rest) →
      LCg.Off3 I C D ((l', W.listOf vs14.toArray e3) :: (c1, o1) :: (c2, o2) :: (d, dealO nl k sd t u e) :: (nl, W.listOf vs.toArray e2) :: rest) → ((@Ne Nat I C) ∧ (@Ne Nat I D) ∧ (@Ne Nat C D)) →
      wpAny (model prog w) A (eval elt (compEnvC scope cl C env)) (LCg.CompEnd h₀ L m { s with heap := h, toks := tk } I oI C oC D (LCg.lst ys) S (fun y news' => Piece y ∧ ∃ k sd t u, DealOk k sd ∧ news' = (l', W.listOf vs14.toArray e3) :: (c1, o1) :: (c2, o2) :: (d, dealO nl k sd t u e) :: (nl, W.listOf vs.toArray e2) :: rest)) E' { s with heap := h, toks := tk }) :
    LCg.CompRest prog w A h₀ L m env elt x scope cl s S P Fin n 0 [] ((l', W.listOf vs14.toArray e3) :: (c1, o1) :: (c2, o2) :: (d, dealO nl k sd t u e) :: (nl, W.listOf vs.toArray e2) :: rest) := by
  refine comp_ind (fun ys news => (∀ y ∈ ys, Piece y) ∧ ∃ k sd t u, DealOk k sd ∧ news = (l', W.listOf vs14.toArray e3) :: (c1, o1) :: (c2, o2) :: (d, dealO nl k sd t u e) :: (nl, W.listOf vs.toArray e2) :: rest) n ?_ ?_ n 0 [] _ (by omega) rfl ⟨(fun _ h => nomatch h), k, sd, t, u, hk, rfl⟩
  · rintro ys news hn ⟨hy, k, sd, t, u, hk, rfl⟩
    exact fin ys k sd t u hn hy hk
  · rintro ys news hn ⟨hy, k, sd, t, u, hk, rfl⟩ v I oI C oC D m₂ h tk E' hP hC hx F N off ne
    refine wpAny_mono (step ys k sd t u hn hy hk v I oI C oC D m₂ h tk E' hC hx F N off ne) (fun y s₂ hE => ?_) fun _ _ e => e
    refine comp_end_mono hE fun y n' hI' => ?_
    refine ⟨fun z hz => ?_, hI'.2⟩
    rcases List.mem_append.mp hz with hz | hz
    · exact hy z hz
    · rw [List.mem_singleton.mp hz]; exact hI'.1
theorem pieces : ∀ (ys : List Value), (∀ y ∈ ys, Piece y) → ∃ bs : List (List UInt8 × Tok), ys = bs.map bval ∧ ∀ p ∈ bs, PieceB p.1
  | [], _ => ⟨[], rfl, fun _ h => nomatch h⟩
  | y :: ys, h => by
    obtain ⟨l, t, rfl, hl⟩ := h y List.mem_cons_self
    obtain ⟨bs, rfl, hb⟩ := pieces ys fun z hz => h z (List.mem_cons_of_mem _ hz)
    refine ⟨(l, t) :: bs, rfl, fun p hp => ?_⟩
    rcases List.mem_cons.mp hp with rfl | hp
    · exact hl
    · exact hb p hp
theorem pieces_len : ∀ (bs : List (List UInt8 × Tok)), (∀ p ∈ bs, PieceB p.1) → ((bs.map (·.1)).flatten).length ≤ 2 * bs.length
  | [], _ => by simp
  | p :: bs, h => by
    have h1 := (h p List.mem_cons_self).len
    have h2 := pieces_len bs fun z hz => h z (List.mem_cons_of_mem _ hz)
    simp only [List.map_cons, List.flatten_cons, List.length_append, List.length_cons]
    omega
theorem pieces_sg : ∀ (bs : List (List UInt8 × Tok)), (∀ p ∈ bs, PieceB p.1) → ∀ b ∈ (bs.map (·.1)).flatten, SgB b := by
  intro bs h b hb
  obtain ⟨l, hl, hb⟩ := List.mem_flatten.mp hb
  obtain ⟨p, hp, rfl⟩ := List.mem_map.mp hl
  exact (h p hp).sg b hb
theorem rows_C11_4 : True := by
  k_with "call builtin:bytes.join" => (k_here; k_dflt (refine' bytes_join ?k1Zq ?k2Zq ?_; (case k1Zq => is_list); (case k2Zq => omega); k_whole); intro tJ kJ; (try k_sweep))
  trivial
theorem small_prod {a b : Int} (ha : 0 ≤ a ∧ a < 2000) (hb : 0 ≤ b ∧ b < 2) : Small ((a - 1000) * [1, 1000003].getD b.toNat 0) := by
  have : b = 0 ∨ b = 1 := by omega
  rcases this with rfl | rfl
  · show Small ((a - 1000) * 1); exact ⟨by omega, by omega⟩
  · show Small ((a - 1000) * 1000003); exact ⟨by omega, by omega⟩
structure Vx where
  v : V
  tv : Tok
  k : Int
  sd : Int
  t : Tok
  u : Tok
theorem law_value_ct (d nl : Addr) (k sd : Int) (t u : Tok) (e e2 : Nat) (vs : List Value) (ns : List Int) (rest : Led) (hne : ∀ p ∈ rest, p.1 ≠ d) (hnl : nl ≠ d) (hdk : DealOk k sd) (hv : IntsAre vs ns) (hr : Cards ns) :
    Ct w p loose mean mg mb 228 [.ref d] ((d, dealO nl k sd t u e) :: (nl, W.listOf vs.toArray e2) :: rest) 2 (fun (x : Vx) => x.v.val x.tv) (fun x => (d, dealO nl x.k x.sd x.t x.u e) :: (nl, W.listOf vs.toArray e2) :: rest) (fun x => x.v.good ∧ DealOk x.k x.sd) := by
  unfold Ct
  k_fill
  intro dp un gd cn cs a ccd cl outer A₀ bs h₀ L m s Q E B F X N T hk hd hu hret
  refine wpAny_call ?_
  k_dflt k_extra "enter"
  have hA := (‹d < _ ∧ nl < _ ∧ AllLt _ rest›).2.2
  (try k_fold)
  k_steps
  · have h3 := small3 (by assumption) (‹_ < (3 : Int)›)
    rcases h3 with h3 | h3 | h3
    · subst h3
      k_steps
      refine Ct.fin hret (by k_asm) (by k_asm) ?_
      exact ⟨⟨V.none, 0, _, _, _, _⟩, rfl, fun _ h => .tail _ (.tail _ (.tail _ h)), trivial, by assumption⟩
    · subst h3
      k_steps
      refine Ct.fin hret (by k_asm) (by k_asm) ?_
      exact ⟨⟨V.bool false, 0, _, _, _, _⟩, rfl, fun _ h => .tail _ (.tail _ (.tail _ h)), trivial, by assumption⟩
    · subst h3
      k_steps
      refine Ct.fin hret (by k_asm) (by k_asm) ?_
      exact ⟨⟨V.bool true, 0, _, _, _, _⟩, rfl, fun _ h => .tail _ (.tail _ (.tail _ h)), trivial, by assumption⟩
  · refine Ct.fin hret (by k_asm) (by k_asm) ?_
    exact ⟨⟨V.int _, _, _, _, _, _⟩, rfl, fun _ h => .tail _ (.tail _ (.tail _ h)), small_prod (by omega) (by omega), by assumption⟩
  · refine ⟨fun g' => ?_⟩
    refine comp_signs (by assumption) ?_ ?_
    · intro ys k₁ sd₁ t₁ u₁ hys hyp hk₁
      obtain ⟨bs, rfl, hbs⟩ := pieces ys hyp
      have hfl := pieces_len bs hbs
      have hsg := pieces_sg bs hbs
      rw [List.length_map] at hys
      unfold LCg.FinE
      intro D₁ h₁ tk₁ F₁ N₁ o₁
      simp only [LCg.Off1] at o₁
      k_steps
      refine Ct.fin hret (by k_asm) (by k_asm) ?_
      exact ⟨⟨V.bytes _, _, _, _, _, _⟩, rfl, fun _ h => .tail _ (.tail _ (.tail _ (.tail _ h))), ⟨by omega, hsg⟩, by assumption⟩
    · have hMk : SignsMark := ⟨⟩
      intro ys k₁ sd₁ t₁ u₁ hys hyp hk₁ v' I' oI' C' oC' D' m₂ h₁ tk₁ E' hC' hx' F' N' off' ne'
      simp only [LCg.Off3] at off'
      k_steps
      refine signs_end (O := W.listOf #[] 0) (by k_asm) (by k_asm) off' (by assumption) ?_
      simp only [List.mem_cons, List.not_mem_nil, or_false] at hm14
      rcases hm14 with rfl | rfl | rfl | rfl | rfl | rfl | rfl | rfl | rfl | rfl | rfl | rfl | rfl | rfl
      all_goals exact ⟨_, _, rfl, by decide, by unfold SgB; decide⟩
end
section
set_option maxRecDepth 100000
set_option maxHeartbeats 8000000
variable {w : World} {p : Program} {loose : List Str} {mean : ExcName → Option Value} {mg mb : Str → Option Value}
theorem rows_C12_0 : True := by
  k_with_none
  k_with "enter" => (refine' code_defP ?k1Zq ?k2Zq ?k3Zq ?k4Zq ?k5Zq ?kAZq ?kFZq ?kKZq ?k6Zq ?p1Zq ?p2Zq ?p3Zq ?k7Zq ?k8Zq ?k9Zq ?kBZq ?_ ?c2Zq ?c3Zq ?c4Zq ?c5Zq; (case kAZq => exact rfl); (case kFZq => exact rfl); (case kKZq => assumption); (case k1Zq => k_asm); (case k2Zq => k_asm); (case k3Zq => k_asm); (case k4Zq => k_asm); (case k5Zq => k_asm); (case k6Zq => k_is); (case p1Zq => conv => lhs; whnf); (case p2Zq => conv => lhs; whnf); (case p3Zq => conv => lhs; whnf); (case k7Zq => k_is); (case k8Zq => ktr_room); (case k9Zq => exact BindsTo.of_eq rfl); (case c5Zq => decide); (case kBZq => exact locs rfl); (case c2Zq => exact rfl); (case c3Zq => exact rfl); (case c4Zq => exact rfl); k_whole; intro g' L' h' FG' F' N' B' X' T'; (try dsimp only); (try k_lift B'); (try k_fold))
  k_with "kenter" => (refine' code_defP ?k1Zq ?k2Zq ?k3Zq ?k4Zq ?k5Zq ?kAZq ?kFZq ?kKZq ?k6Zq ?p1Zq ?p2Zq ?p3Zq ?k7Zq ?k8Zq ?k9Zq ?kBZq ?_ ?c2Zq ?c3Zq ?c4Zq ?c5Zq; (case kAZq => exact rfl); (case kFZq => exact rfl); (case kKZq => exact rfl); (case k1Zq => k_asm); (case k2Zq => k_asm); (case k3Zq => k_asm); (case k4Zq => k_asm); (case k5Zq => k_asm); (case k6Zq => k_is); (case p1Zq => conv => lhs; whnf); (case p2Zq => conv => lhs; whnf); (case p3Zq => conv => lhs; whnf); (case k7Zq => k_is); (case k8Zq => k_room); (case k9Zq => first | exact BindsTo.of_eq rfl | exact binds_K (by k_in) rfl (by k_is) rfl rfl rfl); (case c5Zq => decide); (case kBZq => exact locs rfl); (case c2Zq => exact rfl); (case c3Zq => exact rfl); (case c4Zq => exact rfl); k_whole; intro g' L' h' FG' F' N' B' X' T'; (try dsimp only); (try k_lift B'); (try k_fold))
  k_with "compareOp In int bytes" => (k_here; k_dflt (first | refine in_bytes_u8 ?_ | refine in_bytes (by omega) ?_))
  k_with "mem" => (assumption)
  k_with "ite" => (first | with_reducible refine ite_tt ?_ | with_reducible refine ite_ff ?_ | with_reducible refine ite_T ?_ | with_reducible refine ite_F ?_ | with_reducible refine split_not ?_)
  k_with "subscriptTail" => (k_here; (with_reducible show wpAny _ _ (subscriptTail _ _ (Value.str (PySem.Str.ofString _) _) (Value.int _ _)) _ _ _); k_dflt (refine' item_d36 ?k1Zq ?k2Zq ?_ ?k5Zq ?k6Zq; (case k1Zq => assumption); (case k2Zq => omega); (case k5Zq => with_unfolding_all rfl); (case k6Zq => (intro _; with_unfolding_all rfl)); k_whole); intro tI kI)
  k_with "binaryOp Add str str" => (k_here; (with_reducible show wpAny _ _ (binaryOp _ (Value.str (asc _) _) (Value.str (asc _) _)) _ _ _); k_dflt (refine add_asc (by (simp only [List.length_append, List.length_cons, List.length_nil]); omega) ?_); intro tA kA)
  k_with "compareOp Eq str str" => (k_here; k_dflt (first | refine eq_nil ?_ | refine eq_asc ?_))
  trivial
noncomputable abbrev DgM (m : Str → Option Value) (x : Int) (f : List UInt8) (t u : Tok) : Str → Option Value := fun y => if y = Str.ofString "number" then some (.int x t) else if y = Str.ofString "found" then some (.str (asc f) u) else m y
theorem dg_meas {b : Nat} {x : Int} {f g : List UInt8} {c : UInt8} (hb : 2 ≤ b) (h0 : 0 ≤ x) (hx : 0 < x ∨ f = []) : (x.fdiv (b : Int)).toNat + (if [c] ++ g = [] then 1 else 0) < x.toNat + (if f = [] then 1 else 0) := by
  obtain ⟨y, rfl⟩ := Int.eq_ofNat_of_zero_le h0
  have e1 : (y : Int).fdiv (b : Int) = ((y / b : Nat) : Int) := by rw [Int.fdiv_eq_ediv_of_nonneg _ (by omega)]; rfl
  rw [e1, if_neg (by simp), Int.toNat_natCast, Int.toNat_natCast]
  rcases hx with hx | hx
  · have : y / b < y := Nat.div_lt_self (by omega) (by omega)
    omega
  · rw [if_pos hx]
    have := Nat.div_le_self y b
    omega
theorem law_digits_ct (n b : Nat) (t u : Tok) (news : Led) (hn : n < 100000000000) (hb : 2 ≤ b ∧ b ≤ 36) :
    Ct w p loose mean mg mb 235 [.int n t, .int b u] news 1 (fun t => .str (asc (digs b n)) t) (fun _ => news) (fun _ => True) := by
  unfold Ct
  k_fill
  intro dp un gd cn cs a ccd cl outer A₀ bs h₀ L m s Q E B F X N T hk hd hu hret
  refine wpAny_call ?_
  k_dflt k_extra "enter"
  refine cut2 (fun m m' l' => ∃ t u, m' = DgM m n [] t u ∧ l' = news) (by assumption) (by assumption) ?_ ?_
  · (try k_fold)
    k_steps
    all_goals exact cut2_end (by k_asm) (by k_asm) _ (fun _ h => h) ⟨_, _, norm2 rfl (by rw [← lit_nil]; rfl) (fun y h1 h2 => by simp [h1, h2]), rfl⟩
  rintro m' l' h tk ⟨t, u, rfl, hl⟩ F N
  obtain rfl := hl.symm
  k_sweep
  refine loopW (n₀ := n + 1) (fun m m' l k => ∃ x f t u, m' = DgM m x f t u ∧ l = news ∧ DgI b n x f ∧ k = x.toNat + (if f = [] then 1 else 0)) (fun m m' l => ∃ x t u, m' = DgM m x (digs b n) t u ∧ l = news) (by assumption) (by assumption) ?_ ?_ ?_
  · exact ⟨_, [], t, u, norm2 rfl rfl (fun y h1 h2 => by simp [h1, h2]), rfl, dg_start hn, by simp⟩
  · rintro k m₁ l₁ h₁ tk₁ ⟨x, f, t, u, rfl, hl, hI, rfl⟩ F N
    obtain rfl := hl.symm
    k_sweep
    have h0 := hI.nn
    have hlt := hI.lt
    have hlen := hI.len
    have hm0 : 0 ≤ x.fmod (b : Int) := Int.fmod_nonneg_of_pos _ (by omega)
    have hm1 : x.fmod (b : Int) < (b : Int) := Int.fmod_lt_of_pos _ (by omega)
    (try k_fold)
    k_steps
    · exact turn_end (by k_asm) (by k_asm) _ (fun _ h => h) _ (dg_meas hb.1 h0 (.inl (by assumption))) ⟨_, _, _, _, norm2 rfl rfl (fun y h1 h2 => by simp [DgM, h1, h2]), rfl, dg_turn hb hn hI (.inl (by assumption)), rfl⟩
    · have hf : f = [] := by simpa using (‹(f == []) = true›)
      exact turn_end (by k_asm) (by k_asm) _ (fun _ h => h) _ (dg_meas hb.1 h0 (.inr hf)) ⟨_, _, _, _, norm2 rfl rfl (fun y h1 h2 => by simp [DgM, h1, h2]), rfl, dg_turn hb hn hI (.inr hf), rfl⟩
    · have hf := dg_end hI (by assumption) (by rw [(‹(f == []) = false›)]; exact Bool.false_ne_true)
      subst hf
      exact done_end (by k_asm) (by k_asm) _ (fun _ h => h) ⟨_, _, _, rfl, rfl⟩
  rintro m' l' h tk ⟨x, t, u, rfl, hl⟩ F N
  obtain rfl := hl.symm
  k_sweep
  (try k_fold)
  k_steps
  refine Ct.fin hret (by k_asm) (by k_asm) ?_
  exact ⟨u, rfl, fun _ h => h, trivial⟩
theorem law_digits_abs (i y : Int) (t u : Tok) (news : Led) (hi : Small i) (hb : 2 ≤ y ∧ y ≤ 36) :
    Ct w p loose mean mg mb 235 [.int (if i < 0 then -i else i) t, .int y u] news 1 (fun t => .str (asc (digs y.toNat i.natAbs)) t) (fun _ => news) (fun _ => True) := by
  have e1 : (if i < 0 then -i else i) = ((i.natAbs : Nat) : Int) := by split <;> omega
  obtain ⟨b, rfl⟩ := Int.eq_ofNat_of_zero_le (by omega : 0 ≤ y)
  rw [e1, Int.toNat_natCast]
  exact law_digits_ct i.natAbs b t u news (by have := hi.lo; have := hi.hi; omega) (by omega)
end
section
set_option maxRecDepth 100000
set_option maxHeartbeats 8000000
variable {w : World} {p : Program} {loose : List Str} {mean : ExcName → Option Value} {mg mb : Str → Option Value}
theorem rows_C13_0 : True := by
  k_with_none
  k_with "enter" => (refine' code_defP ?k1Zq ?k2Zq ?k3Zq ?k4Zq ?k5Zq ?kAZq ?kFZq ?kKZq ?k6Zq ?p1Zq ?p2Zq ?p3Zq ?k7Zq ?k8Zq ?k9Zq ?kBZq ?_ ?c2Zq ?c3Zq ?c4Zq ?c5Zq; (case kAZq => exact rfl); (case kFZq => exact rfl); (case kKZq => assumption); (case k1Zq => k_asm); (case k2Zq => k_asm); (case k3Zq => k_asm); (case k4Zq => k_asm); (case k5Zq => k_asm); (case k6Zq => k_is); (case p1Zq => conv => lhs; whnf); (case p2Zq => conv => lhs; whnf); (case p3Zq => conv => lhs; whnf); (case k7Zq => k_is); (case k8Zq => ktr_room); (case k9Zq => exact BindsTo.of_eq rfl); (case c5Zq => decide); (case kBZq => exact locs rfl); (case c2Zq => exact rfl); (case c3Zq => exact rfl); (case c4Zq => exact rfl); k_whole; intro g' L' h' FG' F' N' B' X' T'; (try dsimp only); (try k_lift B'); (try k_fold))
  k_with "kenter" => (refine' code_defP ?k1Zq ?k2Zq ?k3Zq ?k4Zq ?k5Zq ?kAZq ?kFZq ?kKZq ?k6Zq ?p1Zq ?p2Zq ?p3Zq ?k7Zq ?k8Zq ?k9Zq ?kBZq ?_ ?c2Zq ?c3Zq ?c4Zq ?c5Zq; (case kAZq => exact rfl); (case kFZq => exact rfl); (case kKZq => exact rfl); (case k1Zq => k_asm); (case k2Zq => k_asm); (case k3Zq => k_asm); (case k4Zq => k_asm); (case k5Zq => k_asm); (case k6Zq => k_is); (case p1Zq => conv => lhs; whnf); (case p2Zq => conv => lhs; whnf); (case p3Zq => conv => lhs; whnf); (case k7Zq => k_is); (case k8Zq => k_room); (case k9Zq => first | exact BindsTo.of_eq rfl | exact binds_K (by k_in) rfl (by k_is) rfl rfl rfl); (case c5Zq => decide); (case kBZq => exact locs rfl); (case c2Zq => exact rfl); (case c3Zq => exact rfl); (case c4Zq => exact rfl); k_whole; intro g' L' h' FG' F' N' B' X' T'; (try dsimp only); (try k_lift B'); (try k_fold))
  k_with "compareOp In int bytes" => (k_here; k_dflt (first | refine in_bytes_u8 ?_ | refine in_bytes (by omega) ?_))
  k_with "mem" => (assumption)
  k_with "ite" => (first | with_reducible refine ite_tt ?_ | with_reducible refine ite_ff ?_ | with_reducible refine ite_T ?_ | with_reducible refine ite_F ?_ | with_reducible refine split_not ?_)
  k_with "binaryOp Add str str" => (k_here; (first | with_reducible refine' add_l lit_minus ?hsZq ?_ | with_reducible refine' add_l lit_nil ?hsZq ?_ | with_reducible refine' add_l lit_sp ?hsZq ?_ | with_reducible refine' add_r lit_sp ?hsZq ?_); (case hsZq => ((try simp only [List.length_append, List.length_cons, List.length_nil]); omega)); intro tA kA)
  k_with "getMethod str" => (k_here; with_reducible refine getMethod_encode ?_)
  k_with "call builtin:str.encode" => (k_here; k_dflt (refine' encode_ascii ?k1Zq ?k2Zq ?_; (case k1Zq => first | assumption | apply_assumption); (case k2Zq => ((try simp only [List.length_append, List.length_cons, List.length_nil]); omega)); k_whole); intro tE kE)
  k_with "call ref" => (
        k_here
        (with_reducible show wpAny _ _ (call (Value.ref 235) _) _ _ _)
        k_dflt (refine' Ct.use (law_digits_abs _ _ _ _ _ (by assumption) (by omega)) ?k1Zq ?k2Zq ?k3Zq ?k4Zq ?k5Zq ?kKZq ?kdZq ?kuZq ?_; (case k1Zq => k_asm); (case k2Zq => k_asm); (case k3Zq => k_asm); (case k4Zq => k_asm); (case k5Zq => k_asm); (case kKZq => first | exact rfl | assumption); (case kdZq => ktr_room); (case kuZq => ktr_units))
        intro x9 h9 tk9 P9 F9 N9; (first | (have q9 : True := P9; clear q9 P9) | skip); (try dsimp only at P9); (try dsimp only at N9); (try dsimp only); (try k_sweep); (try k_fold))
  k_with "eval Dict" => (k_here; k_dflt (refine' kdn_eval (knd := nbKind _ _) ?FZq ?NZq ?bZq ?aZq ?lZq ?eZq ?nZq ?_; (case FZq => k_asm); (case NZq => first | k_asm | exact News.nil); (case bZq => exact Top.nolimit (by k_asm)); (case aZq => rfl); (case lZq => rfl); (case eZq => exact List.cons_ne_nil _ _); (case nZq => exact Nat.le_of_ble_eq_true rfl)); intro d' h' o' F' N' l1 lo' hd'; (try k_lt l1))
  k_with "KdnMade" => (k_here; k_dflt (refine' made_nb3 ?FZq ?NZq ?UZq ?dZq ?_; (case FZq => k_asm); (case NZq => k_asm); (case UZq => k_updF); (case dZq => k_asm)); intro h' o' F' N' hd'; (try dsimp only at N'))
  k_with "subscriptTail" => (k_here; k_dflt (first | refine item_nb (k := none) (by k_asm) (.head _) (by assumption) rfl rfl ?_ | refine item_nb (k := some true) (by k_asm) (.head _) (by assumption) rfl rfl ?_ | refine item_nb (k := some false) (by k_asm) (.head _) (by assumption) rfl rfl ?_))
  k_with "all" => (exact fun p hp => Nat.ne_of_lt (by apply_assumption; exact hp))
  trivial
theorem shown_none_ct (news : Led) :
    Ct w p loose mean mg mb 249 [.none] news 2 (fun t => .bytes (V.none.text).toArray t) (fun _ => news) (fun _ => True) := by
  (unfold Ct; k_fill; intro dpZ unZ gdZ cnZ csZ aZ ccdZ clZ outerZ AZ baseZ hZ LZ mZ sZ QZ EZ BZ FZ XZ NZ TZ hkZ hdZ huZ hret; refine wpAny_call ?_; k_dflt k_extra "enter"; k_steps)
  all_goals (refine Ct.fin hret (by k_asm) (by k_asm) ?_; exact ⟨_, rfl, fun _ h => List.mem_cons_of_mem _ h, trivial⟩)
theorem shown_bool_ct (b : Bool) (news : Led) :
    Ct w p loose mean mg mb 249 [.bool b] news 2 (fun t => .bytes ((V.bool b).text).toArray t) (fun _ => news) (fun _ => True) := by
  cases b <;> ((unfold Ct; k_fill; intro dpZ unZ gdZ cnZ csZ aZ ccdZ clZ outerZ AZ baseZ hZ LZ mZ sZ QZ EZ BZ FZ XZ NZ TZ hkZ hdZ huZ hret; refine wpAny_call ?_; k_dflt k_extra "enter"; k_steps); all_goals (refine Ct.fin hret (by k_asm) (by k_asm) ?_; exact ⟨_, rfl, fun _ h => List.mem_cons_of_mem _ h, trivial⟩))
theorem shown_bytes_ct (l : List UInt8) (t : Tok) (news : Led) :
    Ct w p loose mean mg mb 249 [.bytes l.toArray t] news 2 (fun t => .bytes l.toArray t) (fun _ => news) (fun _ => True) := by
  (unfold Ct; k_fill; intro dpZ unZ gdZ cnZ csZ aZ ccdZ clZ outerZ AZ baseZ hZ LZ mZ sZ QZ EZ BZ FZ XZ NZ TZ hkZ hdZ huZ hret; refine wpAny_call ?_; k_dflt k_extra "enter"; k_steps)
  all_goals (refine Ct.fin hret (by k_asm) (by k_asm) ?_; exact ⟨_, rfl, fun _ h => h, trivial⟩)
theorem shown_int_ct (i : Int) (t : Tok) (news : Led) (hi : Small i) :
    Ct w p loose mean mg mb 249 [.int i t] news 2 (fun t => .bytes (decText i).toArray t) (fun _ => news) (fun _ => True) := by
  have hl : (digs (10 : Int).toNat i.natAbs).length ≤ 38 := digs_small i hi
  have ha1 : Asc ([45] ++ digs (10 : Int).toNat i.natAbs) := asc_append (by unfold Asc; decide) (digs_asc (b := 10) (by omega) _ _ (Nat.le_refl _))
  have ha2 : Asc (digs (10 : Int).toNat i.natAbs) := digs_asc (b := 10) (by omega) _ _ (Nat.le_refl _)
  (unfold Ct; k_fill; intro dpZ unZ gdZ cnZ csZ aZ ccdZ clZ outerZ AZ baseZ hZ LZ mZ sZ QZ EZ BZ FZ XZ NZ TZ hkZ hdZ huZ hret; refine wpAny_call ?_; k_dflt k_extra "enter"; k_steps)
  · refine Ct.fin hret (by k_asm) (by k_asm) ?_
    exact ⟨_, by rw [← shown_int, if_pos (by assumption)]; rfl, fun _ h => h, trivial⟩
  · refine Ct.fin hret (by k_asm) (by k_asm) ?_
    exact ⟨_, by rw [← shown_int, if_neg (by assumption)]; rfl, fun _ h => h, trivial⟩
end
section
set_option maxRecDepth 100000
set_option maxHeartbeats 8000000
variable {w : World} {p : Program} {loose : List Str} {mean : ExcName → Option Value} {mg mb : Str → Option Value}
theorem rows_C14_0 : True := by
  k_with_none
  k_with "enter" => (refine' code_defP ?k1Zq ?k2Zq ?k3Zq ?k4Zq ?k5Zq ?kAZq ?kFZq ?kKZq ?k6Zq ?p1Zq ?p2Zq ?p3Zq ?k7Zq ?k8Zq ?k9Zq ?kBZq ?_ ?c2Zq ?c3Zq ?c4Zq ?c5Zq; (case kAZq => exact rfl); (case kFZq => exact rfl); (case kKZq => assumption); (case k1Zq => k_asm); (case k2Zq => k_asm); (case k3Zq => k_asm); (case k4Zq => k_asm); (case k5Zq => k_asm); (case k6Zq => k_is); (case p1Zq => conv => lhs; whnf); (case p2Zq => conv => lhs; whnf); (case p3Zq => conv => lhs; whnf); (case k7Zq => k_is); (case k8Zq => ktr_room); (case k9Zq => exact BindsTo.of_eq rfl); (case c5Zq => decide); (case kBZq => exact locs rfl); (case c2Zq => exact rfl); (case c3Zq => exact rfl); (case c4Zq => exact rfl); k_whole; intro g' L' h' FG' F' N' B' X' T'; (try dsimp only); (try k_lift B'); (try k_fold))
  k_with "kenter" => (refine' code_defP ?k1Zq ?k2Zq ?k3Zq ?k4Zq ?k5Zq ?kAZq ?kFZq ?kKZq ?k6Zq ?p1Zq ?p2Zq ?p3Zq ?k7Zq ?k8Zq ?k9Zq ?kBZq ?_ ?c2Zq ?c3Zq ?c4Zq ?c5Zq; (case kAZq => exact rfl); (case kFZq => exact rfl); (case kKZq => exact rfl); (case k1Zq => k_asm); (case k2Zq => k_asm); (case k3Zq => k_asm); (case k4Zq => k_asm); (case k5Zq => k_asm); (case k6Zq => k_is); (case p1Zq => conv => lhs; whnf); (case p2Zq => conv => lhs; whnf); (case p3Zq => conv => lhs; whnf); (case k7Zq => k_is); (case k8Zq => k_room); (case k9Zq => first | exact BindsTo.of_eq rfl | exact binds_K (by k_in) rfl (by k_is) rfl rfl rfl); (case c5Zq => decide); (case kBZq => exact locs rfl); (case c2Zq => exact rfl); (case c3Zq => exact rfl); (case c4Zq => exact rfl); k_whole; intro g' L' h' FG' F' N' B' X' T'; (try dsimp only); (try k_lift B'); (try k_fold))
  k_with "compareOp In int bytes" => (k_here; k_dflt (first | refine in_bytes_u8 ?_ | refine in_bytes (by omega) ?_))
  k_with "mem" => (assumption)
  k_with "ite" => (first | with_reducible refine ite_tt ?_ | with_reducible refine ite_ff ?_ | with_reducible refine ite_T ?_ | with_reducible refine ite_F ?_ | with_reducible refine split_not ?_)
  k_with "getMethod bytes" => (k_here; refine KBd.method ?_)
  k_with "call builtin:bytes.decode" => (k_here; k_dflt (refine' decode_ascii ?k1Zq ?k2Zq ?_; (case k1Zq => assumption); (case k2Zq => omega); k_whole); intro tE kE)
  k_with "call builtin:str.strip" => (k_here; k_dflt (refine' strip_rule ?k2Zq ?_; (case k2Zq => omega); k_whole); intro tE kE)
  k_with "call builtin:str.lower" => (k_here; k_dflt (refine' lower_rule ?k1Zq ?k2Zq ?_; (case k1Zq => assumption); (case k2Zq => omega); k_whole); intro tE kE)
  k_with "subscriptTail" => (k_here; (with_reducible show wpAny _ _ (subscriptTail _ _ (Value.str (asc _) _) (Value.ref _)) _ _ _); k_dflt (first | refine cut_1 (by k_asm) (by k_asm) (by omega) ?_ | refine cut_2 (by k_asm) (by k_asm) (by omega) ?_ | refine cut_23 (by k_asm) (by k_asm) (by omega) ?_ | refine cut_d1 (by k_asm) (by k_asm) (by omega) (len_pos (by assumption)) ?_ | refine cut_d2 (by k_asm) (by k_asm) (by omega) (len_two (by assumption)) ?_); intro h' t' k' F' N'; (try k_sweep))
  k_with "subscriptTail Name Slice str ref" => (k_here; (with_reducible show wpAny _ _ (subscriptTail _ _ (Value.str (asc _) _) (Value.ref _)) _ _ _); k_dflt (first | refine cut_1 (by k_asm) (by k_asm) (by omega) ?_ | refine cut_2 (by k_asm) (by k_asm) (by omega) ?_ | refine cut_23 (by k_asm) (by k_asm) (by omega) ?_ | refine cut_d1 (by k_asm) (by k_asm) (by omega) (len_pos (by assumption)) ?_ | refine cut_d2 (by k_asm) (by k_asm) (by omega) (len_two (by assumption)) ?_); intro h' t' k' F' N'; (try k_sweep))
  k_with "compareOp Eq str str" => (k_here; first | with_reducible refine eq_lit lit_minus ?_ | with_reducible refine eq_lit lit_0x ?_ | with_reducible refine eq_lit lit_nil ?_)
  k_with "compareOp NotEq str str" => (k_here; first | with_reducible refine ne_lit lit_minus ?_ | with_reducible refine ne_lit lit_0x ?_ | with_reducible refine ne_lit lit_nil ?_)
  k_with "compareOp In str ref" => (k_here; first | k_dflt (refine in_pm (News.isTup (by k_asm) (.head _)) lit_minus lit_plus ?_) | k_dflt (refine in_hex (by assumption) (by assumption) ?_) | refine Hid.out ?_)
  trivial
theorem law_worth_ct (l : List UInt8) (base : Int) (t t' : Tok) (news : Led) (hl : l.length ≤ 12) (ha : Asc l) (hb : base = 0 ∨ (2 ≤ base ∧ base ≤ 36)) :
    Ct w p loose mean mg mb 242 [.bytes l.toArray t, .int base t'] news 2 (fun t => optV (worth l base) t) (fun _ => news) (fun _ => True) := by
  k_with "pyIter str" => k_state (fun pre f => WfP (wBase ((stripW l).map low) base) pre f) "found"
  k_with "state" => first | exact wf_start | exact wf_turn (by assumption) (by assumption) (by assumption) (by assumption) (by assumption) (by assumption) (by assumption) (by assumption)
  have hs := strip_len l
  have hsa := strip_asc_ok l ha
  unfold Ct
  k_fill
  intro dp un gd cn cs a ccd cl outer A₀ bs h₀ L m s Q E B F X N T hk hd hu hret
  refine wpAny_call ?_
  k_dflt k_extra "enter"
  refine cut2 (fun m m' l' => ∃ w0 t, m' = (fun y => if y = Str.ofString "word" then some (.str (asc w0) t) else m y) ∧ l' = news ∧ w0 = (stripW l).map low) (by assumption) (by assumption) ?_ ?_
  · (try k_fold)
    k_steps
    all_goals exact cut2_end (by k_asm) (by k_asm) _ (fun _ h => h) ⟨_, _, norm1 rfl (fun y h1 => by simp [h1]), rfl, rfl⟩
  rintro m' l' h tk ⟨w0, t, rfl, hl', hw⟩ F N
  obtain rfl := hl'.symm
  k_sweep
  have hwl : w0.length ≤ 12 := by rw [hw, List.length_map]; omega
  refine cut2 (fun m m' l' => ∃ t, m' = (fun y => if y = Str.ofString "word" then some (.str (asc (wSign w0)) t) else if y = Str.ofString "is_below" then some (.bool (wBelow w0)) else m y) ∧ l' = news) (by assumption) (by assumption) ?_ ?_
  · (try k_fold)
    k_steps
    · exact cut2_end (by k_asm) (by k_asm) _ (fun _ h => .tail _ (.tail _ h)) ⟨_, norm2 (str_map rfl (pm_yes (by assumption))) rfl (fun y h1 h2 => by simp [h1, h2]), rfl⟩
    · exact cut2_end (by k_asm) (by k_asm) _ (fun _ h => .tail _ (.tail _ h)) ⟨_, norm2 (str_map rfl (pm_nil (by assumption))) rfl (fun y h1 h2 => by simp [h1, h2]), rfl⟩
    · exact cut2_end (by k_asm) (by k_asm) _ (fun _ h => .tail _ (.tail _ h)) ⟨_, norm2 (str_map rfl (pm_no (by assumption))) rfl (fun y h1 h2 => by simp [h1, h2]), rfl⟩
  rintro m' l' h tk ⟨t, rfl, hl'⟩ F N
  obtain rfl := hl'.symm
  k_sweep
  have hwl1 := Nat.le_trans (wSign_len w0) hwl
  refine cut2 (fun m m' l' => ∃ t u, m' = (fun y => if y = Str.ofString "word" then some (.str (asc (wWord w0 base)) t) else if y = Str.ofString "base" then some (.int (wB1 w0 base) u) else m y) ∧ l' = news) (by assumption) (by assumption) ?_ ?_
  · (try k_fold)
    k_steps
    · exact cut2_end (by k_asm) (by k_asm) _ (fun _ h => by first | exact h | exact .tail _ h | exact .tail _ (.tail _ h) | exact .tail _ (.tail _ (.tail _ h))) ⟨_, _, norm2 (str_map rfl (wWord_yes (mk_yes (by assumption) (by assumption) (by assumption))).1) (int_map rfl (wWord_yes (mk_yes (by assumption) (by assumption) (by assumption))).2) (fun y h1 h2 => by simp [h1, h2]), rfl⟩
    · exact cut2_end (by k_asm) (by k_asm) _ (fun _ h => by first | exact h | exact .tail _ h | exact .tail _ (.tail _ h) | exact .tail _ (.tail _ (.tail _ h))) ⟨_, _, norm2 (str_map rfl (wWord_no (mk_no3 (by assumption))).1) (int_map rfl (wWord_no (mk_no3 (by assumption))).2) (fun y h1 h2 => by simp [h1, h2]), rfl⟩
    · exact cut2_end (by k_asm) (by k_asm) _ (fun _ h => by first | exact h | exact .tail _ h | exact .tail _ (.tail _ h) | exact .tail _ (.tail _ (.tail _ h))) ⟨_, _, norm2 (str_map rfl (wWord_no (mk_no2 (by assumption))).1) (int_map rfl (wWord_no (mk_no2 (by assumption))).2) (fun y h1 h2 => by simp [h1, h2]), rfl⟩
    · exact cut2_end (by k_asm) (by k_asm) _ (fun _ h => by first | exact h | exact .tail _ h | exact .tail _ (.tail _ h) | exact .tail _ (.tail _ (.tail _ h))) ⟨_, _, norm2 (str_map rfl (wWord_no (mk_no1 (by assumption))).1) (int_map rfl (wWord_no (mk_no1 (by assumption))).2) (fun y h1 h2 => by simp [h1, h2]), rfl⟩
  rintro m' l' h tk ⟨t, u, rfl, hl'⟩ F N
  obtain rfl := hl'.symm
  k_sweep
  have hwl2 := Nat.le_trans (wWord_len w0 base) hwl
  have hb1 := wB1_rng (w := w0) hb
  refine cut2 (fun m m' l' => ∃ t u, m' = (fun y => if y = Str.ofString "base" then some (.int (wBase w0 base) t) else if y = Str.ofString "found" then some (.int 0 u) else m y) ∧ l' = news) (by assumption) (by assumption) ?_ ?_
  · (try k_fold)
    k_steps
    all_goals exact cut2_end (by k_asm) (by k_asm) _ (fun _ h => by first | exact h | exact .tail _ h | exact .tail _ (.tail _ h) | exact .tail _ (.tail _ (.tail _ h))) ⟨_, _, norm2 (int_map rfl (by rw [wBase_eq]; first | rw [if_pos (by assumption)] | rw [if_neg (by assumption)])) rfl (fun y h1 h2 => by simp [h1, h2]), rfl⟩
  rintro m' l' h tk ⟨t, u, rfl, hl'⟩ F N
  obtain rfl := hl'.symm
  k_sweep
  have hb2 : 2 ≤ wBase w0 base ∧ wBase w0 base ≤ 36 := by rw [wBase_eq]; split <;> omega
  (try k_fold)
  k_steps
  all_goals refine Ct.fin hret (by k_asm) (by k_asm) ?_
  · exact ex_optN (worth_bad (by assumption) (by assumption) (by assumption) (.inl (by assumption))) (fun _ h => List.mem_append_left _ h)
  · exact ex_optN (worth_bad (by assumption) (by assumption) (by assumption) (.inr (by assumption))) (fun _ h => List.mem_append_left _ h)
  · exact ex_optN (worth_nil (by assumption) (by assumption) (by assumption)) (fun _ h => h)
  · exact ex_optS (worth_neg (by assumption) (by assumption) (by assumption) (by assumption)) (fun _ h => h)
  · exact ex_optS (worth_pos (by assumption) (by assumption) (by assumption) (by assumption)) (fun _ h => h)
end
section
set_option maxRecDepth 100000
set_option maxHeartbeats 8000000
variable {w : World} {p : Program} {loose : List Str} {mean : ExcName → Option Value} {mg mb : Str → Option Value}
theorem rows_C15_0 : True := by
  k_with_none
  k_with "enter" => (refine' code_defP ?k1Zq ?k2Zq ?k3Zq ?k4Zq ?k5Zq ?kAZq ?kFZq ?kKZq ?k6Zq ?p1Zq ?p2Zq ?p3Zq ?k7Zq ?k8Zq ?k9Zq ?kBZq ?_ ?c2Zq ?c3Zq ?c4Zq ?c5Zq; (case kAZq => exact rfl); (case kFZq => exact rfl); (case kKZq => assumption); (case k1Zq => k_asm); (case k2Zq => k_asm); (case k3Zq => k_asm); (case k4Zq => k_asm); (case k5Zq => k_asm); (case k6Zq => k_is); (case p1Zq => conv => lhs; whnf); (case p2Zq => conv => lhs; whnf); (case p3Zq => conv => lhs; whnf); (case k7Zq => k_is); (case k8Zq => ktr_room); (case k9Zq => exact BindsTo.of_eq rfl); (case c5Zq => decide); (case kBZq => exact locs rfl); (case c2Zq => exact rfl); (case c3Zq => exact rfl); (case c4Zq => exact rfl); k_whole; intro g' L' h' FG' F' N' B' X' T'; (try dsimp only); (try k_lift B'); (try k_fold))
  k_with "kenter" => (refine' code_defP ?k1Zq ?k2Zq ?k3Zq ?k4Zq ?k5Zq ?kAZq ?kFZq ?kKZq ?k6Zq ?p1Zq ?p2Zq ?p3Zq ?k7Zq ?k8Zq ?k9Zq ?kBZq ?_ ?c2Zq ?c3Zq ?c4Zq ?c5Zq; (case kAZq => exact rfl); (case kFZq => exact rfl); (case kKZq => exact rfl); (case k1Zq => k_asm); (case k2Zq => k_asm); (case k3Zq => k_asm); (case k4Zq => k_asm); (case k5Zq => k_asm); (case k6Zq => k_is); (case p1Zq => conv => lhs; whnf); (case p2Zq => conv => lhs; whnf); (case p3Zq => conv => lhs; whnf); (case k7Zq => k_is); (case k8Zq => k_room); (case k9Zq => first | exact BindsTo.of_eq rfl | exact binds_K (by k_in) rfl (by k_is) rfl rfl rfl); (case c5Zq => decide); (case kBZq => exact locs rfl); (case c2Zq => exact rfl); (case c3Zq => exact rfl); (case c4Zq => exact rfl); k_whole; intro g' L' h' FG' F' N' B' X' T'; (try dsimp only); (try k_lift B'); (try k_fold))
  k_with "compareOp In int bytes" => (k_here; k_dflt (first | refine in_bytes_u8 ?_ | refine in_bytes (by omega) ?_))
  k_with "mem" => (assumption)
  k_with "ite" => (first | with_reducible refine ite_tt ?_ | with_reducible refine ite_ff ?_ | with_reducible refine ite_T ?_ | with_reducible refine ite_F ?_ | with_reducible refine split_not ?_)
  k_with "binaryOp Add str str" => (k_here; (first | with_reducible refine' add_l lit_minus ?hsZq ?_ | with_reducible refine' add_l lit_nil ?hsZq ?_ | with_reducible refine' add_l lit_sp ?hsZq ?_ | with_reducible refine' add_r lit_sp ?hsZq ?_); (case hsZq => ((try simp only [List.length_append, List.length_cons, List.length_nil]); omega)); intro tA kA)
  k_with "getMethod str" => (k_here; with_reducible refine getMethod_encode ?_)
  k_with "call builtin:str.encode" => (k_here; k_dflt (refine' encode_ascii ?k1Zq ?k2Zq ?_; (case k1Zq => with_reducible assumption); (case k2Zq => ((try simp only [List.length_append, List.length_cons, List.length_nil]); omega)); k_whole); intro tE kE)
  k_with "call ref" => (
        k_here
        (with_reducible show wpAny _ _ (call (Value.ref 235) _) _ _ _)
        k_dflt (refine' Ct.use (law_digits_abs _ _ _ _ _ (by assumption) (by omega)) ?k1Zq ?k2Zq ?k3Zq ?k4Zq ?k5Zq ?kKZq ?kdZq ?kuZq ?_; (case k1Zq => k_asm); (case k2Zq => k_asm); (case k3Zq => k_asm); (case k4Zq => k_asm); (case k5Zq => k_asm); (case kKZq => first | exact rfl | assumption); (case kdZq => ktr_room); (case kuZq => ktr_units))
        intro x9 h9 tk9 P9 F9 N9; (first | (have q9 : True := P9; clear q9 P9) | skip); (try dsimp only at P9); (try dsimp only at N9); (try dsimp only); (try k_sweep); (try k_fold))
  k_with "call ref" => (
        k_here
        (with_reducible show wpAny _ _ (call (Value.ref 242) _) _ _ _)
        k_dflt (refine' Ct.use (law_worth_ct _ _ _ _ _ (by omega) (by assumption) (by omega)) ?k1Zq ?k2Zq ?k3Zq ?k4Zq ?k5Zq ?kKZq ?kdZq ?kuZq ?_; (case k1Zq => k_asm); (case k2Zq => k_asm); (case k3Zq => k_asm); (case k4Zq => k_asm); (case k5Zq => k_asm); (case kKZq => first | exact rfl | assumption); (case kdZq => ktr_room); (case kuZq => ktr_units))
        intro x9 h9 tk9 P9 F9 N9; (first | (have q9 : True := P9; clear q9 P9) | skip); (try dsimp only at P9); (try dsimp only at N9); (try dsimp only); (try k_sweep); (try k_fold))
  k_with "call ref" => (
        k_here
        (with_reducible show wpAny _ _ (call (Value.ref 190) _) _ _ _)
        k_dflt (refine' Ct.use (plain_text_int _ _ _ (by assumption)) ?k1Zq ?k2Zq ?k3Zq ?k4Zq ?k5Zq ?kKZq ?kdZq ?kuZq ?_; (case k1Zq => k_asm); (case k2Zq => k_asm); (case k3Zq => k_asm); (case k4Zq => k_asm); (case k5Zq => k_asm); (case kKZq => first | exact rfl | assumption); (case kdZq => ktr_room); (case kuZq => ktr_units))
        intro x9 h9 tk9 P9 F9 N9; (first | (have q9 : True := P9; clear q9 P9) | skip); (try dsimp only at P9); (try dsimp only at N9); (try dsimp only); (try k_sweep); (try k_fold))
  k_with "call ref" => (
        k_here
        (with_reducible show wpAny _ _ (call (Value.ref 197) _) _ _ _)
        k_dflt (refine' Ct.use (nt_base _ _ _ _ _ _ (by ((try simp only [List.length_append, List.length_cons, List.length_nil]); omega)) (by first | with_reducible assumption | with_reducible exact figN_f (by assumption) (by assumption) (by assumption) | with_reducible exact figP_f (by assumption) (by assumption) (by assumption)) (by omega) (by omega) (by assumption)) ?k1Zq ?k2Zq ?k3Zq ?k4Zq ?k5Zq ?kKZq ?kdZq ?kuZq ?_; (case k1Zq => k_asm); (case k2Zq => k_asm); (case k3Zq => k_asm); (case k4Zq => k_asm); (case k5Zq => k_asm); (case kKZq => first | exact rfl | assumption); (case kdZq => ktr_room); (case kuZq => ktr_units))
        intro x9 h9 tk9 P9 F9 N9; (first | (have q9 : True := P9; clear q9 P9) | skip); (try dsimp only at P9); (try dsimp only at N9); (try dsimp only); (try k_sweep); (try k_fold))
  k_with "call ref" => (
        k_here
        (with_reducible show wpAny _ _ (call (Value.ref 197) _) _ _ _)
        k_dflt (refine' Ct.use (nt10_bytes _ _ _ _ _ (by ((try simp only [List.length_append, List.length_cons, List.length_nil]); omega)) (by with_reducible assumption) (by assumption)) ?k1Zq ?k2Zq ?k3Zq ?k4Zq ?k5Zq ?kKZq ?kdZq ?kuZq ?_; (case k1Zq => k_asm); (case k2Zq => k_asm); (case k3Zq => k_asm); (case k4Zq => k_asm); (case k5Zq => k_asm); (case kKZq => first | exact rfl | assumption); (case kdZq => ktr_room); (case kuZq => ktr_units))
        intro x9 h9 tk9 P9 F9 N9; (first | (have q9 : True := P9; clear q9 P9) | skip); (try dsimp only at P9); (try dsimp only at N9); (try dsimp only); (try k_sweep); (try k_fold))
  k_with "call ref" => (
        k_here
        (with_reducible show wpAny _ _ (call (Value.ref 197) _) _ _ _)
        k_dflt (refine' Ct.use (nt10_int _ _ _ _ _) ?k1Zq ?k2Zq ?k3Zq ?k4Zq ?k5Zq ?kKZq ?kdZq ?kuZq ?_; (case k1Zq => k_asm); (case k2Zq => k_asm); (case k3Zq => k_asm); (case k4Zq => k_asm); (case k5Zq => k_asm); (case kKZq => first | exact rfl | assumption); (case kdZq => ktr_room); (case kuZq => ktr_units))
        intro x9 h9 tk9 P9 F9 N9; (first | (have q9 : True := P9; clear q9 P9) | skip); (try dsimp only at P9); (try dsimp only at N9); (try dsimp only); (try k_sweep); (try k_fold))
  k_with "call ref" => (
        k_here
        (with_reducible show wpAny _ _ (call (Value.ref 197) _) _ _ _)
        k_dflt (refine' Ct.use (nt10_bool _ _ _ _) ?k1Zq ?k2Zq ?k3Zq ?k4Zq ?k5Zq ?kKZq ?kdZq ?kuZq ?_; (case k1Zq => k_asm); (case k2Zq => k_asm); (case k3Zq => k_asm); (case k4Zq => k_asm); (case k5Zq => k_asm); (case kKZq => first | exact rfl | assumption); (case kdZq => ktr_room); (case kuZq => ktr_units))
        intro x9 h9 tk9 P9 F9 N9; (first | (have q9 : True := P9; clear q9 P9) | skip); (try dsimp only at P9); (try dsimp only at N9); (try dsimp only); (try k_sweep); (try k_fold))
  k_with "call ref" => (
        k_here
        (with_reducible show wpAny _ _ (call (Value.ref 197) _) _ _ _)
        k_dflt (refine' Ct.use (nt10_none _ _ _) ?k1Zq ?k2Zq ?k3Zq ?k4Zq ?k5Zq ?kKZq ?kdZq ?kuZq ?_; (case k1Zq => k_asm); (case k2Zq => k_asm); (case k3Zq => k_asm); (case k4Zq => k_asm); (case k5Zq => k_asm); (case kKZq => first | exact rfl | assumption); (case kdZq => ktr_room); (case kuZq => ktr_units))
        intro x9 h9 tk9 P9 F9 N9; (first | (have q9 : True := P9; clear q9 P9) | skip); (try dsimp only at P9); (try dsimp only at N9); (try dsimp only); (try k_sweep); (try k_fold))
  k_with "compareOp Eq" => (k_here; (with_reducible show wpAny _ _ (compareOp CmpOp.Eq (optV _ _) _) _ _ _); first | with_reducible refine eq_tw (by assumption) ?_ | with_reducible refine eq_ti (by assumption) ?_ | with_reducible refine eq_ti (figN_t (by assumption) (by assumption) (by assumption)) ?_ | with_reducible refine eq_ti (figP_t (by assumption) (by assumption) (by assumption)) ?_)
  k_with "compareOp NotEq" => (k_here; first | with_reducible refine ne_same ?_ | refine ne_ti (by assumption) ?_)
  k_with "compareOp NotEq int int" => (k_here; with_reducible refine ne_same ?_)
  trivial
theorem figN_t {base : Int} (hb : 2 ≤ base ∧ base ≤ 36) {i : Int} (hi : Small i) (hneg : i < 0) : TibIs (45 :: (digs base.toNat i.natAbs ++ [32])) base i := ⟨(fig_neg hb i hi hneg).1⟩
theorem figN_f {base : Int} (hb : 2 ≤ base ∧ base ≤ 36) {i : Int} (hi : Small i) (hneg : i < 0) : Fits (45 :: (digs base.toNat i.natAbs ++ [32])) base := (fig_neg hb i hi hneg).2
theorem figP_t {base : Int} (hb : 2 ≤ base ∧ base ≤ 36) {i : Int} (hi : Small i) (hneg : ¬ i < 0) : TibIs (32 :: (digs base.toNat i.natAbs ++ [32])) base i := ⟨(fig_pos hb i hi hneg).1⟩
theorem figP_f {base : Int} (hb : 2 ≤ base ∧ base ≤ 36) {i : Int} (hi : Small i) (hneg : ¬ i < 0) : Fits (32 :: (digs base.toNat i.natAbs ++ [32])) base := (fig_pos hb i hi hneg).2
theorem right_none_ct (base : Int) (lim : Addr) (t : Tok) (news : Led) (hb : 2 ≤ base ∧ base ≤ 36) :
    Ct w p loose mean mg mb 256 [.none, .int base t, .ref lim] news 7 (fun (_ : Unit) => .bool true) (fun _ => news) (fun _ => True) := by
  (unfold Ct; k_fill; intro dpZ unZ gdZ cnZ csZ aZ ccdZ clZ outerZ AZ baseZ hZ LZ mZ sZ QZ EZ BZ FZ XZ NZ TZ hkZ hdZ huZ hret; refine wpAny_call ?_; k_dflt k_extra "enter"; k_steps)
  all_goals (refine Ct.fin hret (by k_asm) (by k_asm) ?_; exact ex_bool rfl)
theorem right_bool_ct (b : Bool) (base : Int) (lim : Addr) (t : Tok) (news : Led) (hb : 2 ≤ base ∧ base ≤ 36) :
    Ct w p loose mean mg mb 256 [.bool b, .int base t, .ref lim] news 7 (fun (_ : Unit) => .bool true) (fun _ => news) (fun _ => True) := by
  (unfold Ct; k_fill; intro dpZ unZ gdZ cnZ csZ aZ ccdZ clZ outerZ AZ baseZ hZ LZ mZ sZ QZ EZ BZ FZ XZ NZ TZ hkZ hdZ huZ hret; refine wpAny_call ?_; k_dflt k_extra "enter"; k_steps)
  all_goals (refine Ct.fin hret (by k_asm) (by k_asm) ?_; exact ex_bool rfl)
theorem right_bytes_ct (l : List UInt8) (base : Int) (lim : Addr) (t t' : Tok) (news : Led) (hl : l.length ≤ 10) (hs : ∀ b ∈ l, SgB b) (hb : 2 ≤ base ∧ base ≤ 36) (hm : LimIn news lim) :
    Ct w p loose mean mg mb 256 [.bytes l.toArray t', .int base t, .ref lim] news 7 (fun (_ : Unit) => .bool true) (fun _ => news) (fun _ => True) := by
  have ha := sg_asc hs
  have e1 : SameT l 0 := ⟨sg_tib hs 0⟩
  have e2 : SameT l base := ⟨sg_tib hs base⟩
  have f1 : Fits l 0 := short_fits (by omega) (.inl rfl)
  have f2 : Fits l base := short_fits (by omega) (.inr hb)
  clear hs
  (unfold Ct; k_fill; intro dpZ unZ gdZ cnZ csZ aZ ccdZ clZ outerZ AZ baseZ hZ LZ mZ sZ QZ EZ BZ FZ XZ NZ TZ hkZ hdZ huZ hret; refine wpAny_call ?_; k_dflt k_extra "enter"; k_steps)
  all_goals refine Ct.fin hret (by k_asm) (by k_asm) ?_
  · exact ⟨(), by rw [show base = 10 by assumption]; rfl, fun _ h => h, trivial⟩
  · exact ex_bool rfl
theorem right_int_ct (i : Int) (base : Int) (lim : Addr) (t t' : Tok) (news : Led) (hi : Small i) (hb : 2 ≤ base ∧ base ≤ 36) (hm : LimIn news lim) :
    Ct w p loose mean mg mb 256 [.int i t', .int base t, .ref lim] news 7 (fun (_ : Unit) => .bool true) (fun _ => news) (fun _ => True) := by
  obtain ⟨e1', f1⟩ := dec_val i hi
  have e1 : TibIs (decText i) 0 i := ⟨e1'⟩
  clear e1'
  have l1 := dec_len i hi
  have l2 := fig_len (base := base) i hi
  have a0 : Asc (digs base.toNat i.natAbs) := digs_asc (by omega) _ _ (Nat.le_refl _)
  have a1 : Asc (45 :: (digs base.toNat i.natAbs ++ [32])) := asc_append (asc_append (a := [45]) (by unfold Asc; decide) a0) (by unfold Asc; decide)
  have a2 : Asc (32 :: (digs base.toNat i.natAbs ++ [32])) := asc_append (asc_append (a := [32]) (by unfold Asc; decide) a0) (by unfold Asc; decide)
  (unfold Ct; k_fill; intro dpZ unZ gdZ cnZ csZ aZ ccdZ clZ outerZ AZ baseZ hZ LZ mZ sZ QZ EZ BZ FZ XZ NZ TZ hkZ hdZ huZ hret; refine wpAny_call ?_; k_dflt k_extra "enter"; k_steps)
  · refine Ct.fin hret (by k_asm) (by k_asm) ?_
    exact ⟨(), by rw [show base = 10 by assumption]; rfl, fun _ h => h, trivial⟩
  · have hh : Fits (45 :: (digs base.toNat i.natAbs ++ [32])) base := figN_f (by assumption) (by assumption) (by assumption)
    have hT : TibIs (45 :: (digs base.toNat i.natAbs ++ [32])) base i := figN_t (by assumption) (by assumption) (by assumption)
    have hll : (45 :: (digs base.toNat i.natAbs ++ [32])).length ≤ 40 := by ((try simp only [List.length_append, List.length_cons, List.length_nil]); omega)
    have hn : base ≠ 10 := by omega
    (try ((
    k_here
    (with_reducible show wpAny _ _ (call (Value.ref 197) _) _ _ _)
    k_dflt (refine' Ct.use (nt_base _ _ _ _ _ _ hll hh hb hn hm) ?k1 ?k2 ?k3 ?k4 ?k5 ?kK ?kd ?ku ?_; (case k1 => k_asm); (case k2 => k_asm); (case k3 => k_asm); (case k4 => k_asm); (case k5 => k_asm); (case kK => first | exact rfl | assumption); (case kd => ktr_room); (case ku => ktr_units))
    intro x9 h9 tk9 P9 F9 N9; (first | (have q9 : True := P9; clear q9 P9) | skip); (try dsimp only at P9); (try dsimp only at N9); (try dsimp only); (try k_sweep); (try k_fold))))
    (try k_steps)
    refine Ct.fin hret (by k_asm) (by k_asm) ?_
    exact ex_bool rfl
  · refine Ct.fin hret (by k_asm) (by k_asm) ?_
    exact ⟨(), by rw [show base = 10 by assumption]; rfl, fun _ h => h, trivial⟩
  · have hh : Fits (32 :: (digs base.toNat i.natAbs ++ [32])) base := figP_f (by assumption) (by assumption) (by assumption)
    have hT : TibIs (32 :: (digs base.toNat i.natAbs ++ [32])) base i := figP_t (by assumption) (by assumption) (by assumption)
    have hll : (32 :: (digs base.toNat i.natAbs ++ [32])).length ≤ 40 := by ((try simp only [List.length_append, List.length_cons, List.length_nil]); omega)
    have hn : base ≠ 10 := by omega
    (try ((
    k_here
    (with_reducible show wpAny _ _ (call (Value.ref 197) _) _ _ _)
    k_dflt (refine' Ct.use (nt_base _ _ _ _ _ _ hll hh hb hn hm) ?k1 ?k2 ?k3 ?k4 ?k5 ?kK ?kd ?ku ?_; (case k1 => k_asm); (case k2 => k_asm); (case k3 => k_asm); (case k4 => k_asm); (case k5 => k_asm); (case kK => first | exact rfl | assumption); (case kd => ktr_room); (case ku => ktr_units))
    intro x9 h9 tk9 P9 F9 N9; (first | (have q9 : True := P9; clear q9 P9) | skip); (try dsimp only at P9); (try dsimp only at N9); (try dsimp only); (try k_sweep); (try k_fold))))
    (try k_steps)
    refine Ct.fin hret (by k_asm) (by k_asm) ?_
    exact ex_bool rfl
end
section
set_option maxRecDepth 100000
set_option maxHeartbeats 8000000
variable {w : World} {p : Program} {loose : List Str} {mean : ExcName → Option Value} {mg mb : Str → Option Value}
theorem rows_C16_0 : True := by
  k_with_none
  k_with "enter" => (refine' code_defP ?k1Zq ?k2Zq ?k3Zq ?k4Zq ?k5Zq ?kAZq ?kFZq ?kKZq ?k6Zq ?p1Zq ?p2Zq ?p3Zq ?k7Zq ?k8Zq ?k9Zq ?kBZq ?_ ?c2Zq ?c3Zq ?c4Zq ?c5Zq; (case kAZq => exact rfl); (case kFZq => exact rfl); (case kKZq => assumption); (case k1Zq => k_asm); (case k2Zq => k_asm); (case k3Zq => k_asm); (case k4Zq => k_asm); (case k5Zq => k_asm); (case k6Zq => k_is); (case p1Zq => conv => lhs; whnf); (case p2Zq => conv => lhs; whnf); (case p3Zq => conv => lhs; whnf); (case k7Zq => k_is); (case k8Zq => ktr_room); (case k9Zq => exact BindsTo.of_eq rfl); (case c5Zq => decide); (case kBZq => exact locs rfl); (case c2Zq => exact rfl); (case c3Zq => exact rfl); (case c4Zq => exact rfl); k_whole; intro g' L' h' FG' F' N' B' X' T'; (try dsimp only); (try k_lift B'); (try k_fold))
  k_with "kenter" => (refine' code_defP ?k1Zq ?k2Zq ?k3Zq ?k4Zq ?k5Zq ?kAZq ?kFZq ?kKZq ?k6Zq ?p1Zq ?p2Zq ?p3Zq ?k7Zq ?k8Zq ?k9Zq ?kBZq ?_ ?c2Zq ?c3Zq ?c4Zq ?c5Zq; (case kAZq => exact rfl); (case kFZq => exact rfl); (case kKZq => exact rfl); (case k1Zq => k_asm); (case k2Zq => k_asm); (case k3Zq => k_asm); (case k4Zq => k_asm); (case k5Zq => k_asm); (case k6Zq => k_is); (case p1Zq => conv => lhs; whnf); (case p2Zq => conv => lhs; whnf); (case p3Zq => conv => lhs; whnf); (case k7Zq => k_is); (case k8Zq => k_room); (case k9Zq => first | exact BindsTo.of_eq rfl | exact binds_K (by k_in) rfl (by k_is) rfl rfl rfl); (case c5Zq => decide); (case kBZq => exact locs rfl); (case c2Zq => exact rfl); (case c3Zq => exact rfl); (case c4Zq => exact rfl); k_whole; intro g' L' h' FG' F' N' B' X' T'; (try dsimp only); (try k_lift B'); (try k_fold))
  k_with "compareOp In int bytes" => (k_here; k_dflt (first | refine in_bytes_u8 ?_ | refine in_bytes (by omega) ?_))
  k_with "mem" => (assumption)
  k_with "ite" => (first | with_reducible refine ite_tt ?_ | with_reducible refine ite_ff ?_ | with_reducible refine ite_T ?_ | with_reducible refine ite_F ?_ | with_reducible refine split_not ?_)
  k_with "all" => (assumption)
  k_with "ne" => (assumption)
  k_with "call ref" => (
      k_here
      (with_reducible show wpAny _ _ (call (Value.ref 223) _) _ _ _)
      k_dflt (refine' Ct.use (law_take_6 _ _ _ _ _ _ _ _ _ _ _ _ _ _ _ _ _ _ _ ?hqZq ?hneZq ?hnlZq ?hkZq ?hmZq ?hvZq ?hrZq) ?k1Zq ?k2Zq ?k3Zq ?k4Zq ?k5Zq ?kKZq ?kdZq ?kuZq ?_; (case k1Zq => k_asm); (case k2Zq => k_asm); (case k3Zq => k_asm); (case k4Zq => k_asm); (case k5Zq => k_asm); (case kKZq => first | exact rfl | assumption); (case kdZq => ktr_room); (case kuZq => ktr_units); (case hqZq => (repeat' apply And.intro) <;> k_ne); (case hneZq => assumption); (case hnlZq => assumption); (case hkZq => assumption); (case hmZq => omega); (case hvZq => assumption); (case hrZq => assumption))
      intro x9 h9 tk9 P9 F9 N9
      obtain ⟨r9, k9, s9, t9, u9, v9⟩ := x9
      obtain ⟨p9, q9, d9⟩ := P9
      (try dsimp only at p9 q9 d9 N9); (try dsimp only); (try k_sweep); (try k_fold))
  k_with "call ref" => (
      k_here
      (with_reducible show wpAny _ _ (call (Value.ref 223) _) _ _ _)
      k_dflt (refine' Ct.use (law_take_5 _ _ _ _ _ _ _ _ _ _ _ _ _ _ _ _ _ _ ?hqZq ?hneZq ?hnlZq ?hkZq ?hmZq ?hvZq ?hrZq) ?k1Zq ?k2Zq ?k3Zq ?k4Zq ?k5Zq ?kKZq ?kdZq ?kuZq ?_; (case k1Zq => k_asm); (case k2Zq => k_asm); (case k3Zq => k_asm); (case k4Zq => k_asm); (case k5Zq => k_asm); (case kKZq => first | exact rfl | assumption); (case kdZq => ktr_room); (case kuZq => ktr_units); (case hqZq => (repeat' apply And.intro) <;> k_ne); (case hneZq => assumption); (case hnlZq => assumption); (case hkZq => assumption); (case hmZq => omega); (case hvZq => assumption); (case hrZq => assumption))
      intro x9 h9 tk9 P9 F9 N9
      obtain ⟨r9, k9, s9, t9, u9, v9⟩ := x9
      obtain ⟨p9, q9, d9⟩ := P9
      (try dsimp only at p9 q9 d9 N9); (try dsimp only); (try k_sweep); (try k_fold))
  k_with "call ref" => (
      k_here
      (with_reducible show wpAny _ _ (call (Value.ref 223) _) _ _ _)
      k_dflt (refine' Ct.use (law_take_4 _ _ _ _ _ _ _ _ _ _ _ _ _ _ _ _ _ ?hqZq ?hneZq ?hnlZq ?hkZq ?hmZq ?hvZq ?hrZq) ?k1Zq ?k2Zq ?k3Zq ?k4Zq ?k5Zq ?kKZq ?kdZq ?kuZq ?_; (case k1Zq => k_asm); (case k2Zq => k_asm); (case k3Zq => k_asm); (case k4Zq => k_asm); (case k5Zq => k_asm); (case kKZq => first | exact rfl | assumption); (case kdZq => ktr_room); (case kuZq => ktr_units); (case hqZq => (repeat' apply And.intro) <;> k_ne); (case hneZq => assumption); (case hnlZq => assumption); (case hkZq => assumption); (case hmZq => omega); (case hvZq => assumption); (case hrZq => assumption))
      intro x9 h9 tk9 P9 F9 N9
      obtain ⟨r9, k9, s9, t9, u9, v9⟩ := x9
      obtain ⟨p9, q9, d9⟩ := P9
      (try dsimp only at p9 q9 d9 N9); (try dsimp only); (try k_sweep); (try k_fold))
  k_with "call ref" => (
      k_here
      (with_reducible show wpAny _ _ (call (Value.ref 223) _) _ _ _)
      k_dflt (refine' Ct.use (law_take_3 _ _ _ _ _ _ _ _ _ _ _ _ _ _ _ _ ?hqZq ?hneZq ?hnlZq ?hkZq ?hmZq ?hvZq ?hrZq) ?k1Zq ?k2Zq ?k3Zq ?k4Zq ?k5Zq ?kKZq ?kdZq ?kuZq ?_; (case k1Zq => k_asm); (case k2Zq => k_asm); (case k3Zq => k_asm); (case k4Zq => k_asm); (case k5Zq => k_asm); (case kKZq => first | exact rfl | assumption); (case kdZq => ktr_room); (case kuZq => ktr_units); (case hqZq => (repeat' apply And.intro) <;> k_ne); (case hneZq => assumption); (case hnlZq => assumption); (case hkZq => assumption); (case hmZq => omega); (case hvZq => assumption); (case hrZq => assumption))
      intro x9 h9 tk9 P9 F9 N9
      obtain ⟨r9, k9, s9, t9, u9, v9⟩ := x9
      obtain ⟨p9, q9, d9⟩ := P9
      (try dsimp only at p9 q9 d9 N9); (try dsimp only); (try k_sweep); (try k_fold))
  k_with "call ref" => (
      k_here
      (with_reducible show wpAny _ _ (call (Value.ref 223) _) _ _ _)
      k_dflt (refine' Ct.use (law_take_2 _ _ _ _ _ _ _ _ _ _ _ _ _ _ _ ?hqZq ?hneZq ?hnlZq ?hkZq ?hmZq ?hvZq ?hrZq) ?k1Zq ?k2Zq ?k3Zq ?k4Zq ?k5Zq ?kKZq ?kdZq ?kuZq ?_; (case k1Zq => k_asm); (case k2Zq => k_asm); (case k3Zq => k_asm); (case k4Zq => k_asm); (case k5Zq => k_asm); (case kKZq => first | exact rfl | assumption); (case kdZq => ktr_room); (case kuZq => ktr_units); (case hqZq => (repeat' apply And.intro) <;> k_ne); (case hneZq => assumption); (case hnlZq => assumption); (case hkZq => assumption); (case hmZq => omega); (case hvZq => assumption); (case hrZq => assumption))
      intro x9 h9 tk9 P9 F9 N9
      obtain ⟨r9, k9, s9, t9, u9, v9⟩ := x9
      obtain ⟨p9, q9, d9⟩ := P9
      (try dsimp only at p9 q9 d9 N9); (try dsimp only); (try k_sweep); (try k_fold))
  k_with "call ref" => (
      k_here
      (with_reducible show wpAny _ _ (call (Value.ref 223) _) _ _ _)
      k_dflt (refine' Ct.use (law_take_1 _ _ _ _ _ _ _ _ _ _ _ _ _ _ ?hqZq ?hneZq ?hnlZq ?hkZq ?hmZq ?hvZq ?hrZq) ?k1Zq ?k2Zq ?k3Zq ?k4Zq ?k5Zq ?kKZq ?kdZq ?kuZq ?_; (case k1Zq => k_asm); (case k2Zq => k_asm); (case k3Zq => k_asm); (case k4Zq => k_asm); (case k5Zq => k_asm); (case kKZq => first | exact rfl | assumption); (case kdZq => ktr_room); (case kuZq => ktr_units); (case hqZq => (repeat' apply And.intro) <;> k_ne); (case hneZq => assumption); (case hnlZq => assumption); (case hkZq => assumption); (case hmZq => omega); (case hvZq => assumption); (case hrZq => assumption))
      intro x9 h9 tk9 P9 F9 N9
      obtain ⟨r9, k9, s9, t9, u9, v9⟩ := x9
      obtain ⟨p9, q9, d9⟩ := P9
      (try dsimp only at p9 q9 d9 N9); (try dsimp only); (try k_sweep); (try k_fold))
  k_with "call ref" => (
      k_here
      (with_reducible show wpAny _ _ (call (Value.ref 223) _) _ _ _)
      k_dflt (refine' Ct.use (law_take_ct  _ _ _ _ _ _ _ _ _ _ _ _ _ ?hneZq ?hnlZq ?hkZq ?hmZq ?hvZq ?hrZq) ?k1Zq ?k2Zq ?k3Zq ?k4Zq ?k5Zq ?kKZq ?kdZq ?kuZq ?_; (case k1Zq => k_asm); (case k2Zq => k_asm); (case k3Zq => k_asm); (case k4Zq => k_asm); (case k5Zq => k_asm); (case kKZq => first | exact rfl | assumption); (case kdZq => ktr_room); (case kuZq => ktr_units); (case hneZq => assumption); (case hnlZq => assumption); (case hkZq => assumption); (case hmZq => omega); (case hvZq => assumption); (case hrZq => assumption))
      intro x9 h9 tk9 P9 F9 N9
      obtain ⟨r9, k9, s9, t9, u9, v9⟩ := x9
      obtain ⟨p9, q9, d9⟩ := P9
      (try dsimp only at p9 q9 d9 N9); (try dsimp only); (try k_sweep); (try k_fold))
  k_with "call ref" => (
        k_here
        (with_reducible show wpAny _ _ (call (Value.ref 204) _) _ _ _)
        k_dflt (refine' Ct.use (picked_from_ct _ _ _ _ _) ?k1Zq ?k2Zq ?k3Zq ?k4Zq ?k5Zq ?kKZq ?kdZq ?kuZq ?_; (case k1Zq => k_asm); (case k2Zq => k_asm); (case k3Zq => k_asm); (case k4Zq => k_asm); (case k5Zq => k_asm); (case kKZq => first | exact rfl | assumption); (case kdZq => ktr_room); (case kuZq => ktr_units))
        intro x9 h9 tk9 P9 F9 N9; (first | (have q9 : True := P9; clear q9 P9) | skip); (try dsimp only at P9); (try dsimp only at N9); (try dsimp only); (try k_sweep); (try k_fold))
  k_with "call ref" => (
        k_here
        (with_reducible show wpAny _ _ (call (Value.ref 211) _) _ _ _)
        k_dflt (refine' Ct.use (key_count_ct _ _ _ _ _) ?k1Zq ?k2Zq ?k3Zq ?k4Zq ?k5Zq ?kKZq ?kdZq ?kuZq ?_; (case k1Zq => k_asm); (case k2Zq => k_asm); (case k3Zq => k_asm); (case k4Zq => k_asm); (case k5Zq => k_asm); (case kKZq => first | exact rfl | assumption); (case kdZq => ktr_room); (case kuZq => ktr_units))
        intro x9 h9 tk9 P9 F9 N9; (first | (have q9 : True := P9; clear q9 P9) | skip); (try dsimp only at P9); (try dsimp only at N9); (try dsimp only); (try k_sweep); (try k_fold))
  k_with "call builtin:len" => (k_here; k_dflt (refine' len_ints ?hlZq ?hiZq ?hbZq ?_; (case hlZq => is_list); (case hiZq => assumption); (case hbZq => ((simp only [List.length_drop, rangeKs_length]); omega)); k_whole); intro tL kL)
  k_with "compareOp Eq" => (k_here; (with_reducible show wpAny _ _ (compareOp CmpOp.Eq (optV _ _) _) _ _ _); first | refine eq_opt_int (row1 (by omega) (by omega) (by omega)) ?_ | refine eq_opt_int (row2 (by omega) (by omega) (by omega)) ?_ | refine eq_opt_none (row3 (by omega) (by omega) (by omega)) ?_)
  k_with "subscriptTail Name Slice ref ref" => (k_here; (with_reducible show wpAny _ _ (subscriptTail _ (PySem.Expr.Slice _ _ none _) (Value.ref _) (Value.ref _)) _ _ _); k_dflt (refine' kmk_slice_ints ?FZq ?NZq ?lZq ?pZq ?qZq ?iZq ?mZq ?cZq ?_ ?sZq ?tZq ?zZq; (case FZq => k_asm); (case NZq => k_asm); (case lZq => kmk_list); (case pZq => kmk_part); (case qZq => kmk_part); (case iZq => l_ints); (case mZq => first | exact kmk_from (by l_ints) (by omega) | exact kmk_from_neg (by l_ints) (by omega)); (case cZq => kmk_len); (case sZq => with_unfolding_all rfl); (case tZq => kmk_pure); (case zZq => kmk_size)); intro D' ws' h' F' N' l1 hI' hC' hL'; (try simp only [Int.reduceNeg, Int.neg_neg, Int.reduceToNat] at hI' hC' hL'); (try k_lt l1); (try k_sweep))
  trivial
structure Rx where
  k : Int
  sd : Int
  t : Tok
  u : Tok
theorem law_rows_ct (d nl : Addr) (k sd : Int) (t u : Tok) (e e2 : Nat) (vs : List Value) (ns : List Int) (rest : Led) (hne : ∀ p ∈ rest, p.1 ≠ d) (hnl : nl ≠ d) (hdk : DealOk k sd) (hv : IntsAre vs ns) (hr : Cards ns) :
    Ct w p loose mean mg mb 263 [.ref d] ((d, dealO nl k sd t u e) :: (nl, W.listOf vs.toArray e2) :: rest) 2 (fun (_ : Rx) => .bool true) (fun x => (d, dealO nl x.k x.sd x.t x.u e) :: (nl, W.listOf vs.toArray e2) :: rest) (fun x => DealOk x.k x.sd) := by
  (unfold Ct; k_fill; intro dpZ unZ gdZ cnZ csZ aZ ccdZ clZ outerZ AZ baseZ hZ LZ mZ sZ QZ EZ BZ FZ XZ NZ TZ hkZ hdZ huZ hret; refine wpAny_call ?_; k_dflt k_extra "enter"; k_steps)
  all_goals refine Ct.fin hret (by k_asm) (by k_asm) ?_
  all_goals first | exact ⟨⟨_, _, _, _⟩, keyc _ _, fun _ h => .tail _ (.tail _ (.tail _ (h))), by assumption⟩ | exact ⟨⟨_, _, _, _⟩, keyc _ _, fun _ h => .tail _ (.tail _ (.tail _ (.tail _ (h)))), by assumption⟩ | exact ⟨⟨_, _, _, _⟩, keyc _ _, fun _ h => .tail _ (.tail _ (.tail _ (.tail _ (.tail _ (h))))), by assumption⟩ | exact ⟨⟨_, _, _, _⟩, keyc _ _, fun _ h => .tail _ (.tail _ (.tail _ (.tail _ (.tail _ (.tail _ (h)))))), by assumption⟩
end
section
set_option maxRecDepth 100000
set_option maxHeartbeats 8000000
variable {w : World} {p : Program} {loose : List Str} {mean : ExcName → Option Value} {mg mb : Str → Option Value}
theorem rows_C17_0 : True := by
  k_with_none
  k_with "enter" => (refine' code_defP ?k1Zq ?k2Zq ?k3Zq ?k4Zq ?k5Zq ?kAZq ?kFZq ?kKZq ?k6Zq ?p1Zq ?p2Zq ?p3Zq ?k7Zq ?k8Zq ?k9Zq ?kBZq ?_ ?c2Zq ?c3Zq ?c4Zq ?c5Zq; (case kAZq => exact rfl); (case kFZq => exact rfl); (case kKZq => assumption); (case k1Zq => k_asm); (case k2Zq => k_asm); (case k3Zq => k_asm); (case k4Zq => k_asm); (case k5Zq => k_asm); (case k6Zq => k_is); (case p1Zq => conv => lhs; whnf); (case p2Zq => conv => lhs; whnf); (case p3Zq => conv => lhs; whnf); (case k7Zq => k_is); (case k8Zq => ktr_room); (case k9Zq => exact BindsTo.of_eq rfl); (case c5Zq => decide); (case kBZq => exact locs rfl); (case c2Zq => exact rfl); (case c3Zq => exact rfl); (case c4Zq => exact rfl); k_whole; intro g' L' h' FG' F' N' B' X' T'; (try dsimp only); (try k_lift B'); (try k_fold))
  k_with "kenter" => (refine' code_defP ?k1Zq ?k2Zq ?k3Zq ?k4Zq ?k5Zq ?kAZq ?kFZq ?kKZq ?k6Zq ?p1Zq ?p2Zq ?p3Zq ?k7Zq ?k8Zq ?k9Zq ?kBZq ?_ ?c2Zq ?c3Zq ?c4Zq ?c5Zq; (case kAZq => exact rfl); (case kFZq => exact rfl); (case kKZq => exact rfl); (case k1Zq => k_asm); (case k2Zq => k_asm); (case k3Zq => k_asm); (case k4Zq => k_asm); (case k5Zq => k_asm); (case k6Zq => k_is); (case p1Zq => conv => lhs; whnf); (case p2Zq => conv => lhs; whnf); (case p3Zq => conv => lhs; whnf); (case k7Zq => k_is); (case k8Zq => k_room); (case k9Zq => first | exact BindsTo.of_eq rfl | exact binds_K (by k_in) rfl (by k_is) rfl rfl rfl); (case c5Zq => decide); (case kBZq => exact locs rfl); (case c2Zq => exact rfl); (case c3Zq => exact rfl); (case c4Zq => exact rfl); k_whole; intro g' L' h' FG' F' N' B' X' T'; (try dsimp only); (try k_lift B'); (try k_fold))
  k_with "compareOp In int bytes" => (k_here; k_dflt (first | refine in_bytes_u8 ?_ | refine in_bytes (by omega) ?_))
  k_with "mem" => (assumption)
  k_with "ite" => (first | with_reducible refine ite_tt ?_ | with_reducible refine ite_ff ?_ | with_reducible refine ite_T ?_ | with_reducible refine ite_F ?_ | with_reducible refine split_not ?_)
  trivial
theorem right_V_ct (v : V) (base : Int) (lim : Addr) (t t' : Tok) (news : Led) (hv : v.good) (hb : 2 ≤ base ∧ base ≤ 36) (hm : LimIn news lim) :
    Ct w p loose mean mg mb 256 [v.val t', .int base t, .ref lim] news 7 (fun (_ : Unit) => .bool true) (fun _ => news) (fun _ => True) := by
  cases v with
  | none => exact right_none_ct base lim t news hb
  | bool b => exact right_bool_ct b base lim t news hb
  | int i => exact right_int_ct i base lim t t' news hv hb hm
  | bytes l => exact right_bytes_ct l base lim t t' news hv.1 hv.2 hb hm
theorem shown_V_ct (v : V) (t : Tok) (news : Led) (hv : v.good) :
    Ct w p loose mean mg mb 249 [v.val t] news 2 (fun t => .bytes v.text.toArray t) (fun _ => news) (fun _ => True) := by
  cases v with
  | none => exact shown_none_ct news
  | bool b => exact shown_bool_ct b news
  | int i => exact shown_int_ct i t news hv
  | bytes l => exact shown_bytes_ct l t news
noncomputable def V.isB : V → Bool
  | .bytes _ => true
  | _ => false
theorem eqv_self (v : V) : V.eqv v v = true := by cases v <;> simp [V.eqv]
theorem dec_head (i : Int) : ∃ c cs, decText i = c :: cs ∧ c ≠ 110 ∧ c ≠ 116 ∧ c ≠ 102 := by
  rw [← shown_int]
  by_cases h : i < 0
  · rw [if_pos h]; exact ⟨45, _, rfl, by decide, by decide, by decide⟩
  · rw [if_neg h]
    obtain ⟨c, cs, e⟩ := digs_cons 10 i.natAbs
    obtain ⟨d, hd, hc⟩ := digs_mem (b := 10) (by omega) _ _ (Nat.le_refl _) c (by rw [e]; exact List.mem_cons_self)
    refine ⟨c, cs, by rw [e]; rfl, ?_⟩
    rw [hc]
    have : ∀ i : _root_.Fin 10, digC i.val ≠ 110 ∧ digC i.val ≠ 116 ∧ digC i.val ≠ 102 := by decide
    exact this ⟨d, hd⟩
theorem dec_inj {i j : Int} (hi : Small i) (hj : Small j) (h : decText i = decText j) : i = j := by
  have e1 := (dec_val i hi).1
  have e2 := (dec_val j hj).1
  rw [h, e2] at e1
  injection e1 with e1; exact e1.symm
theorem eqv_text {a b : V} (ha : a.good) (hb : b.good) : V.eqv a b = ((a.text == b.text) && (a.isB == b.isB)) := by
  have ne : ∀ (i : Int) (x : List UInt8), (x = [110, 105, 108] ∨ x = [116, 114, 117, 101] ∨ x = [102, 97, 108, 115, 101]) → (decText i == x) = false ∧ (x == decText i) = false := by
    intro i x hx
    obtain ⟨c, cs, e, h1, h2, h3⟩ := dec_head i
    have : decText i ≠ x := by
      rw [e]
      rcases hx with rfl | rfl | rfl
      · intro q; injection q with q _; exact h1 q
      · intro q; injection q with q _; exact h2 q
      · intro q; injection q with q _; exact h3 q
    exact ⟨beq_false_of_ne this, beq_false_of_ne this.symm⟩
  cases a with
  | none =>
    cases b with
    | none => rfl
    | bool y => cases y <;> rfl
    | int j => show false = _; rw [show (V.none.text == (V.int j).text) = false from (ne j _ (.inl rfl)).2]; rfl
    | bytes l => show false = _; rw [show ((V.none.isB) == (V.bytes l).isB) = false from rfl, Bool.and_false]
  | bool x =>
    cases b with
    | none => cases x <;> rfl
    | bool y => cases x <;> cases y <;> rfl
    | int j => show false = _; rw [show ((V.bool x).text == (V.int j).text) = false from by cases x; exact (ne j _ (.inr (.inr rfl))).2; exact (ne j _ (.inr (.inl rfl))).2]; rfl
    | bytes l => show false = _; rw [show ((V.bool x).isB == (V.bytes l).isB) = false from rfl, Bool.and_false]
  | int i =>
    cases b with
    | none => show false = _; rw [show ((V.int i).text == V.none.text) = false from (ne i _ (.inl rfl)).1]; rfl
    | bool y => show false = _; rw [show ((V.int i).text == (V.bool y).text) = false from by cases y; exact (ne i _ (.inr (.inr rfl))).1; exact (ne i _ (.inr (.inl rfl))).1]; rfl
    | int j =>
      show (i == j) = ((decText i == decText j) && true)
      rw [Bool.and_true, Bool.eq_iff_iff, beq_iff_eq, beq_iff_eq]
      exact ⟨fun h => by rw [h], fun h => dec_inj ha hb h⟩
    | bytes l => show false = _; rw [show ((V.int i).isB == (V.bytes l).isB) = false from rfl, Bool.and_false]
  | bytes l =>
    cases b with
    | bytes l' => show (l == l') = ((l == l') && true); rw [Bool.and_true]
    | none => show false = _; rw [show ((V.bytes l).isB == V.none.isB) = false from rfl, Bool.and_false]
    | bool y => show false = _; rw [show ((V.bytes l).isB == (V.bool y).isB) = false from rfl, Bool.and_false]
    | int j => show false = _; rw [show ((V.bytes l).isB == (V.int j).isB) = false from rfl, Bool.and_false]
theorem raw_V_ct (a b : V) (t u : Tok) (news : Led) (ha : a.good) (hb : b.good) :
    Ct w p loose mean mg mb 120 [a.val t, b.val u] news 2 (fun (_ : Unit) => .bool ((a.text == b.text) && (a.isB == b.isB))) (fun _ => news) (fun _ => True) := by
  rw [← eqv_text ha hb]; exact raw_equal_ct a b t u news
theorem raw_self_ct (a : V) (t u : Tok) (news : Led) :
    Ct w p loose mean mg mb 120 [a.val t, a.val u] news 2 (fun (_ : Unit) => .bool true) (fun _ => news) (fun _ => True) := by
  have h := raw_equal_ct (w := w) (p := p) (loose := loose) (mean := mean) (mg := mg) (mb := mb) a a t u news
  rw [eqv_self a] at h
  exact h
theorem isB_V {prog : Program} {A : Around} {Q E : Value → Shared → Prop} {s : Shared} (v : V) (t : Tok) (h : ∀ k, Q (.bool v.isB) { s with toks := k }) : wpAny (model prog w) A (call (.builtin "isinstance") [v.val t, .type "bytes"]) Q E s := by
  cases v with
  | none => exact IsiPair.NoneType_bytes (h _)
  | bool b => exact IsiPair.bool_bytes (h _)
  | int i => exact IsiPair.int_bytes (h _)
  | bytes l => exact call_isinstance_yes (typeIs_bytes _ _ _) F.isi_meta_bytes PySem.F.sub_bytes_bytes (h s.toks)
theorem last_eq {x a b : Bool} (hx : x = true) : ((x && a == b) == (a == b)) = true := by rw [hx]; cases a <;> cases b <;> rfl
theorem last_ne {x a b : Bool} (hx : x = false) : ((x && a == b) == x) = true := by rw [hx]; rfl
end
section
set_option maxRecDepth 100000
set_option maxHeartbeats 8000000
variable {w : World} {p : Program} {loose : List Str} {mean : ExcName → Option Value} {mg mb : Str → Option Value}
theorem rows_C18_0 : True := by
  k_with_none
  k_with "enter" => (refine' code_defP ?k1Zq ?k2Zq ?k3Zq ?k4Zq ?k5Zq ?kAZq ?kFZq ?kKZq ?k6Zq ?p1Zq ?p2Zq ?p3Zq ?k7Zq ?k8Zq ?k9Zq ?kBZq ?_ ?c2Zq ?c3Zq ?c4Zq ?c5Zq; (case kAZq => exact rfl); (case kFZq => exact rfl); (case kKZq => assumption); (case k1Zq => k_asm); (case k2Zq => k_asm); (case k3Zq => k_asm); (case k4Zq => k_asm); (case k5Zq => k_asm); (case k6Zq => k_is); (case p1Zq => conv => lhs; whnf); (case p2Zq => conv => lhs; whnf); (case p3Zq => conv => lhs; whnf); (case k7Zq => k_is); (case k8Zq => ktr_room); (case k9Zq => exact BindsTo.of_eq rfl); (case c5Zq => decide); (case kBZq => exact locs rfl); (case c2Zq => exact rfl); (case c3Zq => exact rfl); (case c4Zq => exact rfl); k_whole; intro g' L' h' FG' F' N' B' X' T'; (try dsimp only); (try k_lift B'); (try k_fold))
  k_with "kenter" => (refine' code_defP ?k1Zq ?k2Zq ?k3Zq ?k4Zq ?k5Zq ?kAZq ?kFZq ?kKZq ?k6Zq ?p1Zq ?p2Zq ?p3Zq ?k7Zq ?k8Zq ?k9Zq ?kBZq ?_ ?c2Zq ?c3Zq ?c4Zq ?c5Zq; (case kAZq => exact rfl); (case kFZq => exact rfl); (case kKZq => exact rfl); (case k1Zq => k_asm); (case k2Zq => k_asm); (case k3Zq => k_asm); (case k4Zq => k_asm); (case k5Zq => k_asm); (case k6Zq => k_is); (case p1Zq => conv => lhs; whnf); (case p2Zq => conv => lhs; whnf); (case p3Zq => conv => lhs; whnf); (case k7Zq => k_is); (case k8Zq => k_room); (case k9Zq => first | exact BindsTo.of_eq rfl | exact binds_K (by k_in) rfl (by k_is) rfl rfl rfl); (case c5Zq => decide); (case kBZq => exact locs rfl); (case c2Zq => exact rfl); (case c3Zq => exact rfl); (case c4Zq => exact rfl); k_whole; intro g' L' h' FG' F' N' B' X' T'; (try dsimp only); (try k_lift B'); (try k_fold))
  k_with "compareOp In int bytes" => (k_here; k_dflt (first | refine in_bytes_u8 ?_ | refine in_bytes (by omega) ?_))
  k_with "mem" => (assumption)
  k_with "ite" => (first | with_reducible refine ite_tt ?_ | with_reducible refine ite_ff ?_ | with_reducible refine ite_T ?_ | with_reducible refine ite_F ?_ | with_reducible refine split_not ?_)
  trivial
theorem newsSub {h₀ h : Heap} {L : Addr} {l l' : Led} (N : News h₀ L h l) (hs : ∀ q ∈ l', q ∈ l) : News h₀ L h l' := fun q hq => N q (hs q hq)
theorem mem2 {α : Type} {a b c q : α} (h : q ∈ [a, b]) : q ∈ [a, b, c] := by
  simp only [List.mem_cons, List.not_mem_nil, or_false] at h ⊢
  rcases h with h | h
  · exact .inl h
  · exact .inr (.inl h)
theorem cards_deal {ns : List Int} (_ : ns.length ≤ 63) : Cards (List.map (fun k' => (if k' < 0 then -k' else k').fmod 1000003) (List.take 40 ns)) := by
  refine ⟨by rw [List.length_map, List.length_take]; omega, fun x hx => ?_⟩
  obtain ⟨y, _, rfl⟩ := List.mem_map.mp hx
  exact ⟨Int.fmod_nonneg_of_pos _ (by omega), Int.fmod_lt_of_pos _ (by omega)⟩
structure Dx where
  d : Addr
  nl : Addr
  vs : List Value
  ns : List Int
  e : Nat
  e2 : Nat
  k : Int
  sd : Int
  t : Tok
  u : Tok
theorem law_deal_ct (sa : Addr) (vs : List Value) (ns : List Int) (hI : IntsAre vs ns) (hlen : ns.length ≤ 63) :
    ∀ (dp un : Nat) (gd : Option (List Code)) (cn : Str) (cs : Scope) (a : Addr) (ccd : Value) (cl : List (Str × Addr)) (outer : List Env) (A₀ : Around) (base h₀ : Heap) (L : Addr) (m : Str → Option Value) (s : Shared) (Q E : Value → Shared → Prop),
    Below A₀ base outer h₀ → Fr h₀ L s.heap m → (hd.heap_39 w.params).In h₀ → News h₀ L s.heap [] → Top p loose mean mg mb h₀ → cs.kind = .function → dp + 1 < recursionLimit → un + 8 * 1 < cLine → base.IsList sa vs.toArray →
    (∀ (x : Dx) h' tk', (IntsAre x.vs x.ns ∧ Cards x.ns ∧ DealOk x.k x.sd ∧ x.nl ≠ x.d) → Fr h₀ L h' m → News h₀ L h' [(x.d, dealO x.nl x.k x.sd x.t x.u x.e), (x.nl, W.listOf x.vs.toArray x.e2)] → Q (.ref x.d) { s with heap := h', toks := tk' }) →
    wpAny (model PySem.Challenge.rw_pc0165_01.row.prog w) (ktrTop dp un gd cn cs L a ccd cl outer) (call (.ref 216) [.ref sa]) Q E s := by
  k_with "pyIter ref" => k_state (fun pre f => 0 ≤ f ∧ f < 2147483647) "seed"
  k_with "state" => first | exact ⟨by omega, by omega⟩ | exact ⟨Int.fmod_nonneg_of_pos _ (by omega), Int.fmod_lt_of_pos _ (by omega)⟩
  k_fill
  intro dp un gd cn cs a ccd cl outer A₀ base h₀ L m s Q E B F X N T hk hd hu hl hret
  refine wpAny_call ?_
  k_dflt k_extra "enter"
  k_steps
  refine hret ⟨_, _, _, List.map (fun k' => (if k' < 0 then -k' else k').fmod 1000003) (List.take 40 ns), _, _, _, _, _, _⟩ _ _ ?_ (by k_asm) (newsSub (by k_asm) (fun _ h => mem2 h))
  exact ⟨by assumption, cards_deal hlen, ⟨Int.le_refl 0, (by decide : (0 : Int) ≤ 1000), by assumption, by assumption⟩, by k_ne⟩
end
section
set_option maxRecDepth 100000
set_option maxHeartbeats 8000000
variable {w : World} {p : Program} {loose : List Str} {mean : ExcName → Option Value} {mg mb : Str → Option Value}
theorem rows_C21_0 : True := by
  k_with_none
  k_with "enter" => (refine' code_defP ?k1Zq ?k2Zq ?k3Zq ?k4Zq ?k5Zq ?kAZq ?kFZq ?kKZq ?k6Zq ?p1Zq ?p2Zq ?p3Zq ?k7Zq ?k8Zq ?k9Zq ?kBZq ?_ ?c2Zq ?c3Zq ?c4Zq ?c5Zq; (case kAZq => exact rfl); (case kFZq => exact rfl); (case kKZq => assumption); (case k1Zq => k_asm); (case k2Zq => k_asm); (case k3Zq => k_asm); (case k4Zq => k_asm); (case k5Zq => k_asm); (case k6Zq => k_is); (case p1Zq => conv => lhs; whnf); (case p2Zq => conv => lhs; whnf); (case p3Zq => conv => lhs; whnf); (case k7Zq => k_is); (case k8Zq => ktr_room); (case k9Zq => exact BindsTo.of_eq rfl); (case c5Zq => decide); (case kBZq => exact locs rfl); (case c2Zq => exact rfl); (case c3Zq => exact rfl); (case c4Zq => exact rfl); k_whole; intro g' L' h' FG' F' N' B' X' T'; (try dsimp only); (try k_lift B'); (try k_fold))
  k_with "kenter" => (refine' code_defP ?k1Zq ?k2Zq ?k3Zq ?k4Zq ?k5Zq ?kAZq ?kFZq ?kKZq ?k6Zq ?p1Zq ?p2Zq ?p3Zq ?k7Zq ?k8Zq ?k9Zq ?kBZq ?_ ?c2Zq ?c3Zq ?c4Zq ?c5Zq; (case kAZq => exact rfl); (case kFZq => exact rfl); (case kKZq => exact rfl); (case k1Zq => k_asm); (case k2Zq => k_asm); (case k3Zq => k_asm); (case k4Zq => k_asm); (case k5Zq => k_asm); (case k6Zq => k_is); (case p1Zq => conv => lhs; whnf); (case p2Zq => conv => lhs; whnf); (case p3Zq => conv => lhs; whnf); (case k7Zq => k_is); (case k8Zq => k_room); (case k9Zq => first | exact BindsTo.of_eq rfl | exact binds_K (by k_in) rfl (by k_is) rfl rfl rfl); (case c5Zq => decide); (case kBZq => exact locs rfl); (case c2Zq => exact rfl); (case c3Zq => exact rfl); (case c4Zq => exact rfl); k_whole; intro g' L' h' FG' F' N' B' X' T'; (try dsimp only); (try k_lift B'); (try k_fold))
  k_with "compareOp In int bytes" => (k_here; k_dflt (first | refine in_bytes_u8 ?_ | refine in_bytes (by omega) ?_))
  k_with "mem" => (assumption)
  k_with "ite" => (first | with_reducible refine ite_tt ?_ | with_reducible refine ite_ff ?_ | with_reducible refine ite_T ?_ | with_reducible refine ite_F ?_ | with_reducible refine split_not ?_)
  trivial
theorem mem4 {α : Type} {a b c e z q : α} (h : q ∈ [a, b, c, e]) : q ∈ [z, c, e, a, b] := by
  simp only [List.mem_cons, List.not_mem_nil, or_false] at h ⊢
  rcases h with h | h | h | h
  · exact .inr (.inr (.inr (.inl h)))
  · exact .inr (.inr (.inr (.inr h)))
  · exact .inr (.inl h)
  · exact .inr (.inr (.inl h))
theorem goodB {c : ClaimW} {k : Str → Option Addr} {mn : ExcName → Option Value} {ds : List WData} {s₁ s : Shared} {B : Bool} (e : B = true) (h : GoodW c k mn ds s₁ (.ok (.ret (.bool true))) s) : GoodW c k mn ds s₁ (.ok (.ret (.bool B))) s := by rw [e]; exact h
theorem limIn_mk {news : Led} {lim dx : Addr} {hh : Int} {tw tv : Tok} {es : List DictEntry} {n : Nat} (h1 : (lim, instObj 53 dx) ∈ news) (h2 : (dx, dictOf (⟨hh, .str (Str.ofString "width") tw, .int 64 tv⟩ :: es) n) ∈ news) : LimIn news lim := ⟨dx, hh, tw, tv, es, n, h1, h2⟩
theorem ne_bytes_same {prog : Program} {w : World} {A : Around} {E : Value → Shared → Prop} {s : Shared} {l : List UInt8} {t u : Tok} {Q : Value → Shared → Prop} (h : Q (.bool false) s) : wpAny (model prog w) A (compareOp .NotEq (.bytes l.toArray t) (.bytes l.toArray u)) Q E s :=
  ne_bytes (by rw [show (l.toArray.toList != l.toArray.toList) = false from by simp]; exact h)
theorem eq_bytes_l {prog : Program} {w : World} {A : Around} {E : Value → Shared → Prop} {s : Shared} {l l' : List UInt8} {t u : Tok} {Q : Value → Shared → Prop} (h : Q (.bool (l == l')) s) : wpAny (model prog w) A (compareOp .Eq (.bytes l.toArray t) (.bytes l'.toArray u)) Q E s :=
  eq_bytes (by simpa using h)
theorem rows_C21_1 : True := by
  k_with "all" => (assumption)
  k_with "ne" => (assumption)
  k_with "call ref" => (
      k_here
      (with_reducible show wpAny _ _ (call (Value.ref 223) _) _ _ _)
      k_dflt (refine' Ct.use (law_take_6 _ _ _ _ _ _ _ _ _ _ _ _ _ _ _ _ _ _ _ ?hqZq ?hneZq ?hnlZq ?hkZq ?hmZq ?hvZq ?hrZq) ?k1Zq ?k2Zq ?k3Zq ?k4Zq ?k5Zq ?kKZq ?kdZq ?kuZq ?_; (case k1Zq => k_asm); (case k2Zq => k_asm); (case k3Zq => k_asm); (case k4Zq => k_asm); (case k5Zq => k_asm); (case kKZq => first | exact rfl | assumption); (case kdZq => ktr_room); (case kuZq => ktr_units); (case hqZq => (repeat' apply And.intro) <;> k_ne); (case hneZq => assumption); (case hnlZq => assumption); (case hkZq => assumption); (case hmZq => omega); (case hvZq => assumption); (case hrZq => assumption))
      intro x9 h9 tk9 P9 F9 N9
      obtain ⟨r9, k9, s9, t9, u9, v9⟩ := x9
      obtain ⟨p9, q9, d9⟩ := P9
      (try dsimp only at p9 q9 d9 N9); (try dsimp only); (try k_sweep); (try k_fold))
  k_with "call ref" => (
      k_here
      (with_reducible show wpAny _ _ (call (Value.ref 223) _) _ _ _)
      k_dflt (refine' Ct.use (law_take_5 _ _ _ _ _ _ _ _ _ _ _ _ _ _ _ _ _ _ ?hqZq ?hneZq ?hnlZq ?hkZq ?hmZq ?hvZq ?hrZq) ?k1Zq ?k2Zq ?k3Zq ?k4Zq ?k5Zq ?kKZq ?kdZq ?kuZq ?_; (case k1Zq => k_asm); (case k2Zq => k_asm); (case k3Zq => k_asm); (case k4Zq => k_asm); (case k5Zq => k_asm); (case kKZq => first | exact rfl | assumption); (case kdZq => ktr_room); (case kuZq => ktr_units); (case hqZq => (repeat' apply And.intro) <;> k_ne); (case hneZq => assumption); (case hnlZq => assumption); (case hkZq => assumption); (case hmZq => omega); (case hvZq => assumption); (case hrZq => assumption))
      intro x9 h9 tk9 P9 F9 N9
      obtain ⟨r9, k9, s9, t9, u9, v9⟩ := x9
      obtain ⟨p9, q9, d9⟩ := P9
      (try dsimp only at p9 q9 d9 N9); (try dsimp only); (try k_sweep); (try k_fold))
  k_with "call ref" => (
      k_here
      (with_reducible show wpAny _ _ (call (Value.ref 223) _) _ _ _)
      k_dflt (refine' Ct.use (law_take_4 _ _ _ _ _ _ _ _ _ _ _ _ _ _ _ _ _ ?hqZq ?hneZq ?hnlZq ?hkZq ?hmZq ?hvZq ?hrZq) ?k1Zq ?k2Zq ?k3Zq ?k4Zq ?k5Zq ?kKZq ?kdZq ?kuZq ?_; (case k1Zq => k_asm); (case k2Zq => k_asm); (case k3Zq => k_asm); (case k4Zq => k_asm); (case k5Zq => k_asm); (case kKZq => first | exact rfl | assumption); (case kdZq => ktr_room); (case kuZq => ktr_units); (case hqZq => (repeat' apply And.intro) <;> k_ne); (case hneZq => assumption); (case hnlZq => assumption); (case hkZq => assumption); (case hmZq => omega); (case hvZq => assumption); (case hrZq => assumption))
      intro x9 h9 tk9 P9 F9 N9
      obtain ⟨r9, k9, s9, t9, u9, v9⟩ := x9
      obtain ⟨p9, q9, d9⟩ := P9
      (try dsimp only at p9 q9 d9 N9); (try dsimp only); (try k_sweep); (try k_fold))
  k_with "call ref" => (
      k_here
      (with_reducible show wpAny _ _ (call (Value.ref 223) _) _ _ _)
      k_dflt (refine' Ct.use (law_take_3 _ _ _ _ _ _ _ _ _ _ _ _ _ _ _ _ ?hqZq ?hneZq ?hnlZq ?hkZq ?hmZq ?hvZq ?hrZq) ?k1Zq ?k2Zq ?k3Zq ?k4Zq ?k5Zq ?kKZq ?kdZq ?kuZq ?_; (case k1Zq => k_asm); (case k2Zq => k_asm); (case k3Zq => k_asm); (case k4Zq => k_asm); (case k5Zq => k_asm); (case kKZq => first | exact rfl | assumption); (case kdZq => ktr_room); (case kuZq => ktr_units); (case hqZq => (repeat' apply And.intro) <;> k_ne); (case hneZq => assumption); (case hnlZq => assumption); (case hkZq => assumption); (case hmZq => omega); (case hvZq => assumption); (case hrZq => assumption))
      intro x9 h9 tk9 P9 F9 N9
      obtain ⟨r9, k9, s9, t9, u9, v9⟩ := x9
      obtain ⟨p9, q9, d9⟩ := P9
      (try dsimp only at p9 q9 d9 N9); (try dsimp only); (try k_sweep); (try k_fold))
  k_with "call ref" => (
      k_here
      (with_reducible show wpAny _ _ (call (Value.ref 223) _) _ _ _)
      k_dflt (refine' Ct.use (law_take_2 _ _ _ _ _ _ _ _ _ _ _ _ _ _ _ ?hqZq ?hneZq ?hnlZq ?hkZq ?hmZq ?hvZq ?hrZq) ?k1Zq ?k2Zq ?k3Zq ?k4Zq ?k5Zq ?kKZq ?kdZq ?kuZq ?_; (case k1Zq => k_asm); (case k2Zq => k_asm); (case k3Zq => k_asm); (case k4Zq => k_asm); (case k5Zq => k_asm); (case kKZq => first | exact rfl | assumption); (case kdZq => ktr_room); (case kuZq => ktr_units); (case hqZq => (repeat' apply And.intro) <;> k_ne); (case hneZq => assumption); (case hnlZq => assumption); (case hkZq => assumption); (case hmZq => omega); (case hvZq => assumption); (case hrZq => assumption))
      intro x9 h9 tk9 P9 F9 N9
      obtain ⟨r9, k9, s9, t9, u9, v9⟩ := x9
      obtain ⟨p9, q9, d9⟩ := P9
      (try dsimp only at p9 q9 d9 N9); (try dsimp only); (try k_sweep); (try k_fold))
  k_with "call ref" => (
      k_here
      (with_reducible show wpAny _ _ (call (Value.ref 223) _) _ _ _)
      k_dflt (refine' Ct.use (law_take_1 _ _ _ _ _ _ _ _ _ _ _ _ _ _ ?hqZq ?hneZq ?hnlZq ?hkZq ?hmZq ?hvZq ?hrZq) ?k1Zq ?k2Zq ?k3Zq ?k4Zq ?k5Zq ?kKZq ?kdZq ?kuZq ?_; (case k1Zq => k_asm); (case k2Zq => k_asm); (case k3Zq => k_asm); (case k4Zq => k_asm); (case k5Zq => k_asm); (case kKZq => first | exact rfl | assumption); (case kdZq => ktr_room); (case kuZq => ktr_units); (case hqZq => (repeat' apply And.intro) <;> k_ne); (case hneZq => assumption); (case hnlZq => assumption); (case hkZq => assumption); (case hmZq => omega); (case hvZq => assumption); (case hrZq => assumption))
      intro x9 h9 tk9 P9 F9 N9
      obtain ⟨r9, k9, s9, t9, u9, v9⟩ := x9
      obtain ⟨p9, q9, d9⟩ := P9
      (try dsimp only at p9 q9 d9 N9); (try dsimp only); (try k_sweep); (try k_fold))
  k_with "call ref" => (
      k_here
      (with_reducible show wpAny _ _ (call (Value.ref 223) _) _ _ _)
      k_dflt (refine' Ct.use (law_take_ct  _ _ _ _ _ _ _ _ _ _ _ _ _ ?hneZq ?hnlZq ?hkZq ?hmZq ?hvZq ?hrZq) ?k1Zq ?k2Zq ?k3Zq ?k4Zq ?k5Zq ?kKZq ?kdZq ?kuZq ?_; (case k1Zq => k_asm); (case k2Zq => k_asm); (case k3Zq => k_asm); (case k4Zq => k_asm); (case k5Zq => k_asm); (case kKZq => first | exact rfl | assumption); (case kdZq => ktr_room); (case kuZq => ktr_units); (case hneZq => assumption); (case hnlZq => assumption); (case hkZq => assumption); (case hmZq => omega); (case hvZq => assumption); (case hrZq => assumption))
      intro x9 h9 tk9 P9 F9 N9
      obtain ⟨r9, k9, s9, t9, u9, v9⟩ := x9
      obtain ⟨p9, q9, d9⟩ := P9
      (try dsimp only at p9 q9 d9 N9); (try dsimp only); (try k_sweep); (try k_fold))
  trivial
theorem norm3 {m m' : Str → Option Value} {a b c : Str} {v u x : Value} (h1 : m' a = some v) (h2 : m' b = some u) (h3 : m' c = some x) (h : ∀ y, y ≠ a → y ≠ b → y ≠ c → m' y = m y) : m' = fun y => if y = a then some v else if y = b then some u else if y = c then some x else m y := by
  funext y
  by_cases ha : y = a
  · rw [if_pos ha, ha, h1]
  · rw [if_neg ha]
    by_cases hb : y = b
    · rw [if_pos hb, hb, h2]
    · rw [if_neg hb]
      by_cases hc : y = c
      · rw [if_pos hc, hc, h3]
      · rw [if_neg hc, h y ha hb hc]
theorem rows_C21_2 : True := by
  k_with "call ref" => (
      k_here
      (with_reducible show wpAny _ _ (call (Value.ref 216) _) _ _ _)
      k_dflt (refine' law_deal_ct _ _ _ ?hIZq ?hlenZq _ _ _ _ _ _ _ _ _ _ _ _ _ _ _ _ _ ?k1Zq ?k2Zq ?k3Zq ?k4Zq ?k5Zq ?kKZq ?kdZq ?kuZq ?klZq ?_; (case k1Zq => k_asm); (case k2Zq => k_asm); (case k3Zq => k_asm); (case k4Zq => k_asm); (case k5Zq => k_asm); (case kKZq => first | exact rfl | assumption); (case kdZq => ktr_room); (case kuZq => ktr_units); (case klZq => assumption); (case hIZq => assumption); (case hlenZq => omega))
      intro x9 h9 tk9 P9 F9 N9
      obtain ⟨d9, nl9, vs9, ns9, e9, f9, k9, s9, t9, u9⟩ := x9
      obtain ⟨p9, q9, r9, z9⟩ := P9
      (try dsimp only at p9 q9 r9 z9 N9); (try dsimp only); (try k_sweep); (try k_fold))
  k_with "call ref" => (
      k_here
      (with_reducible show wpAny _ _ (call (Value.ref 228) _) _ _ _)
      k_dflt (refine' Ct.use (law_value_ct _ _ _ _ _ _ _ _ _ _ _ ?hneZq ?hnlZq ?hkZq ?hvZq ?hrZq) ?k1Zq ?k2Zq ?k3Zq ?k4Zq ?k5Zq ?kKZq ?kdZq ?kuZq ?_; (case k1Zq => k_asm); (case k2Zq => k_asm); (case k3Zq => k_asm); (case k4Zq => k_asm); (case k5Zq => k_asm); (case kKZq => first | exact rfl | assumption); (case kdZq => ktr_room); (case kuZq => ktr_units); (case hneZq => assumption); (case hnlZq => assumption); (case hkZq => assumption); (case hvZq => assumption); (case hrZq => assumption))
      intro x9 h9 tk9 P9 F9 N9
      obtain ⟨v9, w9, k9, s9, t9, u9⟩ := x9
      obtain ⟨p9, q9⟩ := P9
      (try dsimp only at p9 q9 N9); (try dsimp only); (try k_sweep); (try k_fold))
  k_with "call ref" => (
      k_here
      (with_reducible show wpAny _ _ (call (Value.ref 263) _) _ _ _)
      k_dflt (refine' Ct.use (law_rows_ct _ _ _ _ _ _ _ _ _ _ _ ?hneZq ?hnlZq ?hkZq ?hvZq ?hrZq) ?k1Zq ?k2Zq ?k3Zq ?k4Zq ?k5Zq ?kKZq ?kdZq ?kuZq ?_; (case k1Zq => k_asm); (case k2Zq => k_asm); (case k3Zq => k_asm); (case k4Zq => k_asm); (case k5Zq => k_asm); (case kKZq => first | exact rfl | assumption); (case kdZq => ktr_room); (case kuZq => ktr_units); (case hneZq => assumption); (case hnlZq => assumption); (case hkZq => assumption); (case hvZq => assumption); (case hrZq => assumption))
      intro x9 h9 tk9 P9 F9 N9
      obtain ⟨k9, s9, t9, u9⟩ := x9
      (try dsimp only at P9 N9); (try dsimp only); (try k_sweep); (try k_fold))
  k_with "call ref" => (
        k_here
        (with_reducible show wpAny _ _ (call (Value.ref 190) _) _ _ _)
        k_dflt (refine' Ct.use (plain_text_ct _ _ _ (by assumption)) ?k1Zq ?k2Zq ?k3Zq ?k4Zq ?k5Zq ?kKZq ?kdZq ?kuZq ?_; (case k1Zq => k_asm); (case k2Zq => k_asm); (case k3Zq => k_asm); (case k4Zq => k_asm); (case k5Zq => k_asm); (case kKZq => first | exact rfl | assumption); (case kdZq => ktr_room); (case kuZq => ktr_units))
        intro x9 h9 tk9 P9 F9 N9; (first | (have q9 : True := P9; clear q9 P9) | skip); (try dsimp only at P9); (try dsimp only at N9); (try dsimp only); (try k_sweep); (try k_fold))
  k_with "call ref" => (
        k_here
        (with_reducible show wpAny _ _ (call (Value.ref 249) _) _ _ _)
        k_dflt (refine' Ct.use (shown_V_ct _ _ _ (by assumption)) ?k1Zq ?k2Zq ?k3Zq ?k4Zq ?k5Zq ?kKZq ?kdZq ?kuZq ?_; (case k1Zq => k_asm); (case k2Zq => k_asm); (case k3Zq => k_asm); (case k4Zq => k_asm); (case k5Zq => k_asm); (case kKZq => first | exact rfl | assumption); (case kdZq => ktr_room); (case kuZq => ktr_units))
        intro x9 h9 tk9 P9 F9 N9; (first | (have q9 : True := P9; clear q9 P9) | skip); (try dsimp only at P9); (try dsimp only at N9); (try dsimp only); (try k_sweep); (try k_fold))
  k_with "call ref" => (
      k_here
      (with_reducible show wpAny _ _ (call (Value.ref 256) _) _ _ _)
      k_dflt (refine' Ct.use (right_V_ct _ _ _ _ _ _ ?hvZq ?hbZq ?hmZq) ?k1Zq ?k2Zq ?k3Zq ?k4Zq ?k5Zq ?kKZq ?kdZq ?kuZq ?_; (case k1Zq => k_asm); (case k2Zq => k_asm); (case k3Zq => k_asm); (case k4Zq => k_asm); (case k5Zq => k_asm); (case kKZq => first | exact rfl | assumption); (case kdZq => ktr_room); (case kuZq => ktr_units); (case hvZq => assumption); (case hbZq => assumption); (case hmZq => (apply limIn_mk; (repeat (first | exact List.Mem.head _ | apply List.Mem.tail)); (repeat (first | exact List.Mem.head _ | apply List.Mem.tail)))))
      intro x9 h9 tk9 P9 F9 N9
      clear P9
      (try dsimp only at N9); (try dsimp only); (try k_sweep); (try k_fold))
  k_with "call ref" => (
        k_here
        (with_reducible show wpAny _ _ (call (Value.ref 120) _) _ _ _)
        k_dflt (refine' Ct.use (raw_V_ct _ _ _ _ _ (by assumption) (by assumption)) ?k1Zq ?k2Zq ?k3Zq ?k4Zq ?k5Zq ?kKZq ?kdZq ?kuZq ?_; (case k1Zq => k_asm); (case k2Zq => k_asm); (case k3Zq => k_asm); (case k4Zq => k_asm); (case k5Zq => k_asm); (case kKZq => first | exact rfl | assumption); (case kdZq => ktr_room); (case kuZq => ktr_units))
        intro x9 h9 tk9 P9 F9 N9; (first | (have q9 : True := P9; clear q9 P9) | skip); (try dsimp only at P9); (try dsimp only at N9); (try dsimp only); (try k_sweep); (try k_fold))
  k_with "call ref" => (
        k_here
        (with_reducible show wpAny _ _ (call (Value.ref 120) _) _ _ _)
        k_dflt (refine' Ct.use (raw_self_ct _ _ _ _) ?k1Zq ?k2Zq ?k3Zq ?k4Zq ?k5Zq ?kKZq ?kdZq ?kuZq ?_; (case k1Zq => k_asm); (case k2Zq => k_asm); (case k3Zq => k_asm); (case k4Zq => k_asm); (case k5Zq => k_asm); (case kKZq => first | exact rfl | assumption); (case kdZq => ktr_room); (case kuZq => ktr_units))
        intro x9 h9 tk9 P9 F9 N9; (first | (have q9 : True := P9; clear q9 P9) | skip); (try dsimp only at P9); (try dsimp only at N9); (try dsimp only); (try k_sweep); (try k_fold))
  k_with "compareOp NotEq bytes bytes" => (k_here; refine ne_bytes_same ?_)
  k_with "compareOp Eq bytes bytes" => (k_here; refine eq_bytes_l ?_)
  trivial
theorem code_defB {prog : Program} {w : World} {A A₀ : Around} {s : Shared} {K : Frag} {L : Addr} {h₀ base : Heap} {m mg mb : Str → Option Value} {news : List (Addr × Obj)} {p : Program} {loose : List Str} {mean : ExcName → Option Value} {env : Env} {outer : List Env} {R : Result → Shared → Prop} {name qual : Str} {params params' : Arguments} {body body' : List Stmt} {scope scope' : Scope} {dV kV doc pm cdv ct oc : Value} {an od : Option Addr} {osl : Array (Option Value)} {f : Addr} {self : Value} {bs : Value → List (Str × Value)} {binds : List (Str × Value)}
    (B : Below A₀ base outer h₀) (F : Fr h₀ L s.heap m) (X₀ : K.In h₀) (N : News h₀ L s.heap news) (T : Top p loose mean mg mb h₀) (hA : A.frames = some (env :: outer)) (hf : env.frame = some L) (hke : env.scope.kind = .function)
    (ho : K.lookup f = some ⟨oc, od, .func (fnOf name qual params body scope dV kV doc pm an cdv ct), osl⟩) (e1 : params = params') (e2 : body = body') (e3 : scope = scope') (hcd : codeIn K cdv qual = true) (hroom : A.depth < recursionLimit)
    (hbind : BindsTo s (fnOf name qual params' body' scope' dV kV doc pm an cdv ct) ⟨[self], []⟩ binds) (e4 : binds = bs self) (hloc : ∀ y ∈ bs self, scope'.names.lookup y.1 = some .local)
    (h : ∀ g L' h₁, Fr h₀ L g m → Fr g L' h₁ (fun y => (bs self).reverse.lookup y) → News g L' h₁ news → Below A base (env :: outer) g → K.In g → Top p loose mean mg mb g →
      wpAny (model prog w) (A.deeper (envOf qual scope' L' f cdv)) (execs body' (envOf qual scope' L' f cdv))
        (fun fl s' => LeaveK h₀ L m g R (match fl with | .ret v => v | _ => .none) s')
        (fun e s' => wpAny (model prog w) (A.deeper (envOf qual scope' L' f cdv)) (leaving (envOf qual scope' L' f cdv) e) (fun _ s'' => R (.error e) s'') (fun e' s'' => R (.error e') s'') s')
        { s with heap := h₁, toks := s.toks + (bs self).length })
    (hco : scope'.isCoroutine = false) (hgen : scope'.isGenerator = false) (hk : scope'.kind = .function)
    (hcell : ∀ x ∈ scope'.names, x.2 ≠ .cell) : codeAny (model prog w) A (.call (.ref f) ⟨[self], []⟩) R s := by
  subst e1 e2 e3 e4
  exact code_def B F X₀ N T hA hf hke ho hcd hroom hbind hloc h hco hgen hk hcell
theorem rows_C21_3 : True := by
  k_with "kenter" => (refine' code_defB (bs := fun vZ => [(Str.ofString "self", vZ), (Str.ofString "width", .int 64 223), (Str.ofString "registers", .int 250 224), (Str.ofString "upvalues", .int 60 225), (Str.ofString "local_names", .int 200 226), (Str.ofString "ccalls", .int 40 227), (Str.ofString "frames", .int 200 228), (Str.ofString "stack", .int 2000 229), (Str.ofString "flush", .int 50 230), (Str.ofString "steps", .int 1000000000 231), (Str.ofString "text", .int 1000000 232)]) ?k1Zq ?k2Zq ?k3Zq ?k4Zq ?k5Zq ?kAZq ?kFZq ?kKZq ?k6Zq ?p1Zq ?p2Zq ?p3Zq ?k7Zq ?k8Zq ?k9Zq ?e4Zq ?kBZq ?_ ?c2Zq ?c3Zq ?c4Zq ?c5Zq; (case kAZq => exact rfl); (case kFZq => exact rfl); (case kKZq => exact rfl); (case k1Zq => k_asm); (case k2Zq => k_asm); (case k3Zq => k_asm); (case k4Zq => k_asm); (case k5Zq => k_asm); (case k6Zq => k_is); (case p1Zq => conv => lhs; whnf); (case p2Zq => conv => lhs; whnf); (case p3Zq => conv => lhs; whnf); (case k7Zq => k_is); (case k8Zq => k_room); (case k9Zq => exact binds_K (by k_in) rfl (by k_is) rfl rfl rfl); (case e4Zq => kernel_rfl); (case c5Zq => decide); (case kBZq => exact locs rfl); (case c2Zq => exact rfl); (case c3Zq => exact rfl); (case c4Zq => exact rfl); k_whole; intro g' L' h' FG' F' N' B' X' T'; (try dsimp only); (try k_lift B'); (try k_fold))
  k_with "call builtin:isinstance" => (k_here; (with_reducible show wpAny _ _ (call _ [V.val _ _, Value.type "bytes"]) _ _ _); k_dflt (refine isB_V _ _ ?_); intro kI; (try dsimp only))
  trivial
theorem holds_here : PySem.Challenge.rw_pc0165_01.Holds := by
  w_on
  o_law
  refine holds_open (q := hd.view_39) (loose := [Str.ofString "HeapObject"]) (Xt := fun s => xlAt hd.view_39 [] s && recOk (RowW.records PySem.Challenge.rw_pc0165_01.row.toRowW) s) (XP := XL hd.view_39 []) (Yf := Hook.obs (kHook hd.heap_39 hd.addrs hd.addrs_eq)) (Ya := Hook.val (kHook hd.heap_39 hd.addrs hd.addrs_eq)) (YP := Hook.says (kHook hd.heap_39 hd.addrs hd.addrs_eq)) (N := 3470) hd.left (Hook.of (kHook hd.heap_39 hd.addrs hd.addrs_eq)) (Hook.keeps (kHook hd.heap_39 hd.addrs hd.addrs_eq)) (fun s e => xl_of s (Bool.and_eq_true_iff.mp e).1) XL.keeps (by rfl) (by rfl) (by rfl) (fun s e => recFacts_of (Bool.and_eq_true_iff.mp e).2) (by rfl) (by first | assumption | decide +kernel) (by decide +kernel) ⟨rfl, rfl, rfl, rfl, rfl, by decide +kernel⟩ ?hw ?hc
  case hw => w_witness2
  case hc =>
    k_fill
    k_go0
    (all_goals try k_fold)
    refine cut2 (fun m m' l' => ∃ (d nl : Addr) (vs : List Value) (ns : List Int) (e e2 : Nat) (k sd : Int) (t u : Tok) (lim dx : Addr) (hh : Int) (tw tv : Tok) (es : List DictEntry) (nn : Nat), m' = (fun y => if y = Str.ofString "deal" then some (.ref d) else if y = Str.ofString "limits" then some (.ref lim) else m y) ∧ l' = (d, dealO nl k sd t u e) :: (nl, W.listOf vs.toArray e2) :: [(lim, instObj 53 dx), (dx, dictOf (⟨hh, .str (Str.ofString "width") tw, .int 64 tv⟩ :: es) nn)] ∧ IntsAre vs ns ∧ Cards ns ∧ DealOk k sd ∧ nl ≠ d ∧ ∀ p ∈ ([(lim, instObj 53 dx), (dx, dictOf (⟨hh, .str (Str.ofString "width") tw, .int 64 tv⟩ :: es) nn)] : Led), p.1 ≠ d) (by assumption) (by assumption) ?_ ?_
    · (try k_fold)
      k_steps
      exact cut2_end (by k_asm) (by k_asm) _ (fun _ h => mem4 h) ⟨_, _, _, _, _, _, _, _, _, _, _, _, _, _, _, _, _, norm2 rfl rfl (fun y h1 h2 => by simp [h1, h2]), rfl, by assumption, by assumption, by assumption, by assumption, by k_all⟩
    rintro m' l' h tk ⟨d, nl, vs, ns, e, e2, k, sd, t, u, lim, dx, hh, tw, tv, es, nn, rfl, rfl, hI, hC, hdk, hnl, hne⟩ F N
    k_sweep
    refine cut2 (fun m m' l' => ∃ (v1 v2 : V) (t1 t2 : Tok) (b : Int) (tb : Tok) (k sd : Int) (t u : Tok), m' = (fun y => if y = Str.ofString "one" then some (v1.val t1) else if y = Str.ofString "other" then some (v2.val t2) else if y = Str.ofString "base" then some (.int b tb) else m y) ∧ l' = (d, dealO nl k sd t u e) :: (nl, W.listOf vs.toArray e2) :: [(lim, instObj 53 dx), (dx, dictOf (⟨hh, .str (Str.ofString "width") tw, .int 64 tv⟩ :: es) nn)] ∧ v1.good ∧ v2.good ∧ DealOk k sd ∧ 2 ≤ b ∧ b ≤ 36) (by assumption) (by assumption) ?_ ?_
    · (try k_fold)
      k_steps
      exact cut2_end (by k_asm) (by k_asm) _ (fun _ h => .tail _ h) ⟨_, _, _, _, _, _, _, _, _, _, norm3 rfl rfl rfl (fun y h1 h2 h3 => by simp [h1, h2, h3]), rfl, by assumption, by assumption, by assumption, by omega, by omega⟩
    rintro m' l' h tk ⟨v1, v2, t1, t2, b, tb, k, sd, t, u, rfl, rfl, hv1, hv2, hdk, hb1, hb2⟩ F N
    k_sweep
    refine cut2 (fun m m' l' => ∃ (k sd : Int) (t u : Tok), m' = m ∧ l' = (d, dealO nl k sd t u e) :: (nl, W.listOf vs.toArray e2) :: [(lim, instObj 53 dx), (dx, dictOf (⟨hh, .str (Str.ofString "width") tw, .int 64 tv⟩ :: es) nn)]) (by assumption) (by assumption) ?_ ?_
    · (try k_fold)
      k_steps
      all_goals exact cut2_end (by k_asm) (by k_asm) _ (fun _ h => h) ⟨_, _, _, _, rfl, rfl⟩
    rintro m' l' h tk ⟨k, sd, t, u, rfl, rfl⟩ F N
    k_sweep
    have hLim2 : LimIn ((d, dealO nl k sd t u e) :: (nl, W.listOf vs.toArray e2) :: [(lim, instObj 53 dx), (dx, dictOf (⟨hh, .str (Str.ofString "width") tw, .int 64 tv⟩ :: es) nn)]) lim := ⟨dx, hh, tw, tv, es, nn, .tail _ (.tail _ (.head _)), .tail _ (.tail _ (.tail _ (.head _)))⟩
    have hbb : 2 ≤ b ∧ b ≤ 36 := ⟨hb1, hb2⟩
    have hok1 := V.good.ok hv1
    have hok2 := V.good.ok hv2
    refine cut2 (fun m m' l' => ∃ (v : Value), m' = (fun y => if y = Str.ofString "value" then some v else m y) ∧ l' = (d, dealO nl k sd t u e) :: (nl, W.listOf vs.toArray e2) :: [(lim, instObj 53 dx), (dx, dictOf (⟨hh, .str (Str.ofString "width") tw, .int 64 tv⟩ :: es) nn)]) (by assumption) (by assumption) ?_ ?_
    · (try k_fold)
      k_steps
      exact cut2_end (by k_asm) (by k_asm) _ (fun _ h => .tail _ h) ⟨_, norm1 rfl (fun y h1 => by simp [h1]), rfl⟩
    rintro m' l' h tk ⟨v, rfl, rfl⟩ F N
    k_sweep
    (try k_fold)
    k_steps
    all_goals (refine goodB ?_ ?_)
    all_goals first | exact last_eq (by assumption) | exact last_ne (by assumption) | k_steps
end
end Mine
theorem PySem.Challenge.cw_pc0165_01_holds : PySem.Challenge.rw_pc0165_01.Holds := by
  exact Mine.holds_here
