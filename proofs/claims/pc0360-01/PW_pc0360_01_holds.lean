import PyProof.Rows.All
import Wide.All
import OpenK.AllK
import Wide.FinOn
import PySem.Challenge.RW_pc0360_01
open PySem PySem.W PyProof.Rows
set_option Elab.async false
namespace Pc
/-- the n-th of some statements -/
def nth : List Stmt → Nat → Stmt
  | [], _ => .Pass default
  | s :: _, 0 => s
  | _ :: r, n + 1 => nth r n
/-- the statements of a class -/
def kids : Stmt → List Stmt
  | .ClassDef _ _ _ b _ _ _ _ _ _ _ => b
  | _ => []
/-- parameters, body and scope of a def -/
def parts : Stmt → Arguments × List Stmt × Scope
  | .FunctionDef _ a b _ _ _ s _ _ _ => (a, b, s)
  | _ => default
/-- the n-th statement of the text -/
abbrev top (n : Nat) : Stmt := nth PySem.Challenge.pw_pc0360_01.main.body n
/-- the text without the assignments to __name__ -/
noncomputable def view : Program := { PySem.Challenge.pw_pc0360_01 with main := { PySem.Challenge.pw_pc0360_01.main with body := (top 1 :: top 2 :: top 3 :: top 5 :: top 6 :: top 7 :: top 8 :: top 9 :: top 10 :: top 12 :: top 13 :: top 14 :: top 15 :: top 16 :: top 17 :: top 18 :: top 19 :: top 20 :: top 21 :: top 22 :: top 23 :: top 24 :: top 25 :: top 26 :: top 27 :: top 29 :: top 30 :: top 31 :: top 32 :: top 33 :: top 34 :: top 35 :: top 36 :: top 37 :: []) } }
set_option maxRecDepth 100000 in
/-- the part of the heap that is written out behind the top -/
noncomputable def heapK : Params → Frag := by
  refine' (fun (xa28 : Arguments) (xb28 : List Stmt) (xs28 : Scope) (xa63 : Arguments) (xb63 : List Stmt) (xs63 : Scope) (xa70 : Arguments) (xb70 : List Stmt) (xs70 : Scope) (xa77 : Arguments) (xb77 : List Stmt) (xs77 : Scope) (xa84 : Arguments) (xb84 : List Stmt) (xs84 : Scope) (xa91 : Arguments) (xb91 : List Stmt) (xs91 : Scope) (xa98 : Arguments) (xb98 : List Stmt) (xs98 : Scope) (xa113 : Arguments) (xb113 : List Stmt) (xs113 : Scope) (xa120 : Arguments) (xb120 : List Stmt) (xs120 : Scope) (xa134 : Arguments) (xb134 : List Stmt) (xs134 : Scope) (xa141 : Arguments) (xb141 : List Stmt) (xs141 : Scope) (xa148 : Arguments) (xb148 : List Stmt) (xs148 : Scope) (xa155 : Arguments) (xb155 : List Stmt) (xs155 : Scope) (xa162 : Arguments) (xb162 : List Stmt) (xs162 : Scope) (xa169 : Arguments) (xb169 : List Stmt) (xs169 : Scope) (xa176 : Arguments) (xb176 : List Stmt) (xs176 : Scope) (xa183 : Arguments) (xb183 : List Stmt) (xs183 : Scope) (xa190 : Arguments) (xb190 : List Stmt) (xs190 : Scope) (xa197 : Arguments) (xb197 : List Stmt) (xs197 : Scope) (xa202 : Arguments) (xb202 : List Stmt) (xs202 : Scope) (xa209 : Arguments) (xb209 : List Stmt) (xs209 : Scope) (xa216 : Arguments) (xb216 : List Stmt) (xs216 : Scope) (xa223 : Arguments) (xb223 : List Stmt) (xs223 : Scope) (xa230 : Arguments) (xb230 : List Stmt) (xs230 : Scope) (_ : (xa28, xb28, xs28) = parts (nth (kids (top 1)) 0)) (_ : (xa63, xb63, xs63) = parts (top 5)) (_ : (xa70, xb70, xs70) = parts (top 6)) (_ : (xa77, xb77, xs77) = parts (top 7)) (_ : (xa84, xb84, xs84) = parts (top 8)) (_ : (xa91, xb91, xs91) = parts (top 9)) (_ : (xa98, xb98, xs98) = parts (top 10)) (_ : (xa113, xb113, xs113) = parts (nth (kids (top 21)) 0)) (_ : (xa120, xb120, xs120) = parts (nth (kids (top 21)) 1)) (_ : (xa134, xb134, xs134) = parts (top 22)) (_ : (xa141, xb141, xs141) = parts (top 23)) (_ : (xa148, xb148, xs148) = parts (top 24)) (_ : (xa155, xb155, xs155) = parts (top 25)) (_ : (xa162, xb162, xs162) = parts (top 26)) (_ : (xa169, xb169, xs169) = parts (top 27)) (_ : (xa176, xb176, xs176) = parts (top 29)) (_ : (xa183, xb183, xs183) = parts (top 30)) (_ : (xa190, xb190, xs190) = parts (top 31)) (_ : (xa197, xb197, xs197) = parts (top 32)) (_ : (xa202, xb202, xs202) = parts (top 33)) (_ : (xa209, xb209, xs209) = parts (top 34)) (_ : (xa216, xb216, xs216) = parts (top 35)) (_ : (xa223, xb223, xs223) = parts (top 36)) (_ : (xa230, xb230, xs230) = parts (top 37)) => fun (P : Params) => ((nat_lit 2, { cls := Value.none, data := Data.dict #[{ hash := PyData.keyHash P (Str.ofString "type.__subclasses__.Exception.0"), key := Value.str (Str.ofString "type.__subclasses__.Exception.0") 214, val := Value.int 31 0 }, { hash := PyData.keyHash P (Str.ofString "type.__subclasses__.Exception.n"), key := Value.str (Str.ofString "type.__subclasses__.Exception.n") 215, val := Value.int 1 0 }] 2 }) ::
    (nat_lit 3, { cls := Value.type "dict", data := Data.dict (List.toArray ({ hash := PyData.keyHash P (Str.ofString "__name__"), key := Value.str (Str.ofString "__name__") 165, val := Value.str (Str.ofString "law_pc0360_01") 425 } :: { hash := PyData.keyHash P (Str.ofString "__doc__"), key := Value.str (Str.ofString "__doc__") 166, val := Value.none } :: { hash := PyData.keyHash P (Str.ofString "__package__"), key := Value.str (Str.ofString "__package__") 167, val := Value.none } :: { hash := PyData.keyHash P (Str.ofString "__loader__"), key := Value.str (Str.ofString "__loader__") 168, val := Value.builtin "__main__.__loader__#opaque" } :: { hash := PyData.keyHash P (Str.ofString "__spec__"), key := Value.str (Str.ofString "__spec__") 169, val := Value.none } :: { hash := PyData.keyHash P (Str.ofString "__annotations__"), key := Value.str (Str.ofString "__annotations__") 170, val := Value.ref 6 } :: { hash := PyData.keyHash P (Str.ofString "__builtins__"), key := Value.str (Str.ofString "__builtins__") 171, val := Value.ref 4 } :: { hash := PyData.keyHash P (Str.ofString "__file__"), key := Value.str (Str.ofString "__file__") 173, val := Value.str (Str.ofString "/claim/cut.py") 172 } :: { hash := PyData.keyHash P (Str.ofString "__cached__"), key := Value.str (Str.ofString "__cached__") 174, val := Value.none } :: { hash := PyData.keyHash P (Str.ofString "SwitchError"), key := Value.str (Str.ofString "SwitchError") 217, val := Value.ref 31 } :: { hash := PyData.keyHash P (Str.ofString "FormError"), key := Value.str (Str.ofString "FormError") 233, val := Value.ref 44 } :: { hash := PyData.keyHash P (Str.ofString "SizeError"), key := Value.str (Str.ofString "SizeError") 249, val := Value.ref 56 } :: { hash := PyData.keyHash P (Str.ofString "put_number"), key := Value.str (Str.ofString "put_number") 257, val := Value.ref 63 } :: { hash := PyData.keyHash P (Str.ofString "get_number"), key := Value.str (Str.ofString "get_number") 268, val := Value.ref 70 } :: { hash := PyData.keyHash P (Str.ofString "put16"), key := Value.str (Str.ofString "put16") 275, val := Value.ref 77 } :: { hash := PyData.keyHash P (Str.ofString "put48"), key := Value.str (Str.ofString "put48") 282, val := Value.ref 84 } :: { hash := PyData.keyHash P (Str.ofString "get16"), key := Value.str (Str.ofString "get16") 290, val := Value.ref 91 } :: { hash := PyData.keyHash P (Str.ofString "get48"), key := Value.str (Str.ofString "get48") 298, val := Value.ref 98 } :: { hash := PyData.keyHash P (Str.ofString "SUBTYPE"), key := Value.str (Str.ofString "SUBTYPE") 302, val := Value.int 1 301 } :: { hash := PyData.keyHash P (Str.ofString "VERSION"), key := Value.str (Str.ofString "VERSION") 304, val := Value.int 1 303 } :: { hash := PyData.keyHash P (Str.ofString "ACTOR_PART"), key := Value.str (Str.ofString "ACTOR_PART") 306, val := Value.int 1 305 } :: { hash := PyData.keyHash P (Str.ofString "PARTNER_PART"), key := Value.str (Str.ofString "PARTNER_PART") 308, val := Value.int 2 307 } :: { hash := PyData.keyHash P (Str.ofString "COLLECTOR_PART"), key := Value.str (Str.ofString "COLLECTOR_PART") 310, val := Value.int 3 309 } :: { hash := PyData.keyHash P (Str.ofString "INFO_SIZE"), key := Value.str (Str.ofString "INFO_SIZE") 312, val := Value.int 20 311 } :: { hash := PyData.keyHash P (Str.ofString "COLLECTOR_SIZE"), key := Value.str (Str.ofString "COLLECTOR_SIZE") 314, val := Value.int 16 313 } :: { hash := PyData.keyHash P (Str.ofString "LAST_ROOM"), key := Value.str (Str.ofString "LAST_ROOM") 316, val := Value.int 52 315 } :: { hash := PyData.keyHash P (Str.ofString "WHOLE_SIZE"), key := Value.str (Str.ofString "WHOLE_SIZE") 323, val := Value.int 110 322 } :: { hash := PyData.keyHash P (Str.ofString "Lacpdu"), key := Value.str (Str.ofString "Lacpdu") 364, val := Value.ref 123 } :: { hash := PyData.keyHash P (Str.ofString "has_bit"), key := Value.str (Str.ofString "has_bit") 372, val := Value.ref 134 } :: { hash := PyData.keyHash P (Str.ofString "with_bit"), key := Value.str (Str.ofString "with_bit") 382, val := Value.ref 141 } :: { hash := PyData.keyHash P (Str.ofString "packed_info"), key := Value.str (Str.ofString "packed_info") 395, val := Value.ref 148 } :: { hash := PyData.keyHash P (Str.ofString "info_at"), key := Value.str (Str.ofString "info_at") 406, val := Value.ref 155 } :: { hash := PyData.keyHash P (Str.ofString "pack_lacpdu"), key := Value.str (Str.ofString "pack_lacpdu") 414, val := Value.ref 162 } :: { hash := PyData.keyHash P (Str.ofString "unpack_lacpdu"), key := Value.str (Str.ofString "unpack_lacpdu") 424, val := Value.ref 169 } :: { hash := PyData.keyHash P (Str.ofString "_law_pool"), key := Value.str (Str.ofString "_law_pool") 437, val := Value.ref 176 } :: { hash := PyData.keyHash P (Str.ofString "_law_take"), key := Value.str (Str.ofString "_law_take") 446, val := Value.ref 183 } :: { hash := PyData.keyHash P (Str.ofString "_law_one"), key := Value.str (Str.ofString "_law_one") 454, val := Value.ref 190 } :: { hash := PyData.keyHash P (Str.ofString "_law_info"), key := Value.str (Str.ofString "_law_info") 463, val := Value.ref 197 } :: { hash := PyData.keyHash P (Str.ofString "_law_number"), key := Value.str (Str.ofString "_law_number") 469, val := Value.ref 202 } :: { hash := PyData.keyHash P (Str.ofString "_law_rows"), key := Value.str (Str.ofString "_law_rows") 481, val := Value.ref 209 } :: { hash := PyData.keyHash P (Str.ofString "_law_is_refused"), key := Value.str (Str.ofString "_law_is_refused") 488, val := Value.ref 216 } :: { hash := PyData.keyHash P (Str.ofString "_law_message_right"), key := Value.str (Str.ofString "_law_message_right") 507, val := Value.ref 223 } :: { hash := PyData.keyHash P (Str.ofString "law"), key := Value.str (Str.ofString "law") 518, val := Value.ref 230 } :: [])) 43 }) ::
    (nat_lit 15, { cls := Value.type "tuple", data := Data.seq #[Value.type "Exception"] }) ::
    (nat_lit 22, { cls := Value.type "tuple", data := Data.seq #[] }) ::
    (nat_lit 24, { cls := Value.type "tuple", data := Data.seq #[Value.str (Str.ofString "self") 204, Value.str (Str.ofString "message") 205] }) ::
    (nat_lit 25, { cls := Value.type "tuple", data := Data.seq #[] }) ::
    (nat_lit 27, { cls := Value.type "code", data := Data.fields (List.toArray (Value.str (Str.ofString "__init__") 201 :: Value.str (Str.ofString "SwitchError.__init__") 202 :: Value.str (Str.ofString "/claim/cut.py") 203 :: Value.int 4 0 :: Value.int 2 0 :: Value.int 0 0 :: Value.int 0 0 :: Value.int 3 0 :: Value.ref 22 :: Value.bool true :: Value.int 181 0 :: Value.ref 23 :: Value.none :: Value.ref 24 :: Value.ref 25 :: Value.ref 26 :: Value.int 206 0 :: Value.int 4 0 :: Value.str (Str.ofString "/claim/cut.py") 207 :: [])) }) ::
    (nat_lit 28, { cls := Value.type "function", data := Data.func { name := Str.ofString "__init__", qualname := Str.ofString "SwitchError.__init__", params := xa28, body := FuncBody.stmts xb28, scope := xs28, globals := 3, closure := [], defaults := Value.none, kwdefaults := Value.none, pyModule := Value.str (Str.ofString "switchloom.errors") 187, code := Value.ref 27 } }) ::
    (nat_lit 29, { cls := Value.type "tuple", data := Data.seq #[Value.str (Str.ofString "message") 209] }) ::
    (nat_lit 30, { cls := Value.type "dict", data := Data.dict #[{ hash := PyData.keyHash P (Str.ofString "__module__"), key := Value.str (Str.ofString "__module__") 196, val := Value.str (Str.ofString "switchloom.errors") 187 }, { hash := PyData.keyHash P (Str.ofString "__firstlineno__"), key := Value.str (Str.ofString "__firstlineno__") 200, val := Value.int 2 199 }, { hash := PyData.keyHash P (Str.ofString "__init__"), key := Value.str (Str.ofString "__init__") 208, val := Value.ref 28 }, { hash := PyData.keyHash P (Str.ofString "__static_attributes__"), key := Value.str (Str.ofString "__static_attributes__") 210, val := Value.ref 29 }, { hash := PyData.keyHash P (Str.ofString "__weakref__"), key := Value.str (Str.ofString "__weakref__") 212, val := Value.ref 32 }, { hash := PyData.keyHash P (Str.ofString "__doc__"), key := Value.str (Str.ofString "__doc__") 213, val := Value.none }] 3 }) ::
    (nat_lit 31, { cls := Value.type "type", data := Data.cls { name := Str.ofString "SwitchError", bases := [Value.type "Exception"], mro := [Value.ref 31, Value.type "Exception", Value.type "BaseException", Value.type "object"], ns := 30, qualname := Str.ofString "SwitchError", subclasses := [Value.ref 44, Value.ref 56] }, slots := #[some (Value.ref 15), none, some (Value.str (Str.ofString "SwitchError") 189), some (Value.str (Str.ofString "SwitchError") 197), some (Value.builtin "Exception.__new__"), some (Value.bool true)] }) ::
    (nat_lit 32, { cls := Value.type "getset_descriptor", data := Data.fields #[Value.str (Str.ofString "__weakref__") 211, Value.ref 31, Value.builtin "ExceptionGroup.__weakref__", Value.none] }) ::
    (nat_lit 35, { cls := Value.type "tuple", data := Data.seq #[Value.ref 31] }) ::
    (nat_lit 42, { cls := Value.type "tuple", data := Data.seq #[] }) ::
    (nat_lit 43, { cls := Value.type "dict", data := Data.dict #[{ hash := PyData.keyHash P (Str.ofString "__module__"), key := Value.str (Str.ofString "__module__") 225, val := Value.str (Str.ofString "switchloom.errors") 187 }, { hash := PyData.keyHash P (Str.ofString "__firstlineno__"), key := Value.str (Str.ofString "__firstlineno__") 229, val := Value.int 7 228 }, { hash := PyData.keyHash P (Str.ofString "__static_attributes__"), key := Value.str (Str.ofString "__static_attributes__") 230, val := Value.ref 42 }, { hash := PyData.keyHash P (Str.ofString "__doc__"), key := Value.str (Str.ofString "__doc__") 231, val := Value.none }] 2 }) ::
    (nat_lit 44, { cls := Value.type "type", data := Data.cls { name := Str.ofString "FormError", bases := [Value.ref 31], mro := [Value.ref 44, Value.ref 31, Value.type "Exception", Value.type "BaseException", Value.type "object"], ns := 43, qualname := Str.ofString "FormError" }, slots := #[some (Value.ref 35), none, some (Value.str (Str.ofString "FormError") 218), some (Value.str (Str.ofString "FormError") 226), some (Value.builtin "Exception.__new__"), some (Value.bool true)] }) ::
    (nat_lit 47, { cls := Value.type "tuple", data := Data.seq #[Value.ref 31] }) ::
    (nat_lit 54, { cls := Value.type "tuple", data := Data.seq #[] }) ::
    (nat_lit 55, { cls := Value.type "dict", data := Data.dict #[{ hash := PyData.keyHash P (Str.ofString "__module__"), key := Value.str (Str.ofString "__module__") 241, val := Value.str (Str.ofString "switchloom.errors") 187 }, { hash := PyData.keyHash P (Str.ofString "__firstlineno__"), key := Value.str (Str.ofString "__firstlineno__") 245, val := Value.int 9 244 }, { hash := PyData.keyHash P (Str.ofString "__static_attributes__"), key := Value.str (Str.ofString "__static_attributes__") 246, val := Value.ref 54 }, { hash := PyData.keyHash P (Str.ofString "__doc__"), key := Value.str (Str.ofString "__doc__") 247, val := Value.none }] 2 }) ::
    (nat_lit 56, { cls := Value.type "type", data := Data.cls { name := Str.ofString "SizeError", bases := [Value.ref 31], mro := [Value.ref 56, Value.ref 31, Value.type "Exception", Value.type "BaseException", Value.type "object"], ns := 55, qualname := Str.ofString "SizeError" }, slots := #[some (Value.ref 47), none, some (Value.str (Str.ofString "SizeError") 234), some (Value.str (Str.ofString "SizeError") 242), some (Value.builtin "Exception.__new__"), some (Value.bool true)] }) ::
    (nat_lit 59, { cls := Value.type "tuple", data := Data.seq #[] }) ::
    (nat_lit 62, { cls := Value.type "code", data := Data.fields (List.toArray (Value.str (Str.ofString "put_number") 252 :: Value.str (Str.ofString "put_number") 253 :: Value.str (Str.ofString "/claim/cut.py") 254 :: Value.int 12 0 :: Value.int 2 0 :: Value.int 0 0 :: Value.int 0 0 :: Value.int 3 0 :: Value.ref 59 :: Value.bool true :: Value.int 181 0 :: Value.ref 60 :: Value.none :: Value.none :: Value.none :: Value.ref 61 :: Value.int 255 0 :: Value.int 12 0 :: Value.str (Str.ofString "/claim/cut.py") 256 :: [])) }) ::
    (nat_lit 63, { cls := Value.type "function", data := Data.func { name := Str.ofString "put_number", qualname := Str.ofString "put_number", params := xa63, body := FuncBody.stmts xb63, scope := xs63, globals := 3, closure := [], defaults := Value.none, kwdefaults := Value.none, pyModule := Value.str (Str.ofString "switchloom.octets") 250, code := Value.ref 62 } }) ::
    (nat_lit 64, { cls := Value.type "tuple", data := Data.seq #[] }) ::
    (nat_lit 66, { cls := Value.type "tuple", data := Data.seq #[Value.str (Str.ofString "octets") 261, Value.str (Str.ofString "at") 262, Value.str (Str.ofString "many") 263, Value.str (Str.ofString "found") 264, Value.str (Str.ofString "octet") 265] }) ::
    (nat_lit 67, { cls := Value.type "tuple", data := Data.seq #[] }) ::
    (nat_lit 69, { cls := Value.type "code", data := Data.fields (List.toArray (Value.str (Str.ofString "get_number") 258 :: Value.str (Str.ofString "get_number") 259 :: Value.str (Str.ofString "/claim/cut.py") 260 :: Value.int 16 0 :: Value.int 3 0 :: Value.int 0 0 :: Value.int 0 0 :: Value.int 3 0 :: Value.ref 64 :: Value.bool true :: Value.int 181 0 :: Value.ref 65 :: Value.none :: Value.ref 66 :: Value.ref 67 :: Value.ref 68 :: Value.int 266 0 :: Value.int 16 0 :: Value.str (Str.ofString "/claim/cut.py") 267 :: [])) }) ::
    (nat_lit 70, { cls := Value.type "function", data := Data.func { name := Str.ofString "get_number", qualname := Str.ofString "get_number", params := xa70, body := FuncBody.stmts xb70, scope := xs70, globals := 3, closure := [], defaults := Value.none, kwdefaults := Value.none, pyModule := Value.str (Str.ofString "switchloom.octets") 250, code := Value.ref 69 } }) ::
    (nat_lit 71, { cls := Value.type "tuple", data := Data.seq #[] }) ::
    (nat_lit 73, { cls := Value.type "tuple", data := Data.seq #[Value.str (Str.ofString "number") 272] }) ::
    (nat_lit 74, { cls := Value.type "tuple", data := Data.seq #[] }) ::
    (nat_lit 76, { cls := Value.type "code", data := Data.fields (List.toArray (Value.str (Str.ofString "put16") 269 :: Value.str (Str.ofString "put16") 270 :: Value.str (Str.ofString "/claim/cut.py") 271 :: Value.int 23 0 :: Value.int 1 0 :: Value.int 0 0 :: Value.int 0 0 :: Value.int 3 0 :: Value.ref 71 :: Value.bool true :: Value.int 181 0 :: Value.ref 72 :: Value.none :: Value.ref 73 :: Value.ref 74 :: Value.ref 75 :: Value.int 273 0 :: Value.int 23 0 :: Value.str (Str.ofString "/claim/cut.py") 274 :: [])) }) ::
    (nat_lit 77, { cls := Value.type "function", data := Data.func { name := Str.ofString "put16", qualname := Str.ofString "put16", params := xa77, body := FuncBody.stmts xb77, scope := xs77, globals := 3, closure := [], defaults := Value.none, kwdefaults := Value.none, pyModule := Value.str (Str.ofString "switchloom.octets") 250, code := Value.ref 76 } }) ::
    (nat_lit 78, { cls := Value.type "tuple", data := Data.seq #[] }) ::
    (nat_lit 80, { cls := Value.type "tuple", data := Data.seq #[Value.str (Str.ofString "number") 279] }) ::
    (nat_lit 81, { cls := Value.type "tuple", data := Data.seq #[] }) ::
    (nat_lit 83, { cls := Value.type "code", data := Data.fields (List.toArray (Value.str (Str.ofString "put48") 276 :: Value.str (Str.ofString "put48") 277 :: Value.str (Str.ofString "/claim/cut.py") 278 :: Value.int 25 0 :: Value.int 1 0 :: Value.int 0 0 :: Value.int 0 0 :: Value.int 3 0 :: Value.ref 78 :: Value.bool true :: Value.int 181 0 :: Value.ref 79 :: Value.none :: Value.ref 80 :: Value.ref 81 :: Value.ref 82 :: Value.int 280 0 :: Value.int 25 0 :: Value.str (Str.ofString "/claim/cut.py") 281 :: [])) }) ::
    (nat_lit 84, { cls := Value.type "function", data := Data.func { name := Str.ofString "put48", qualname := Str.ofString "put48", params := xa84, body := FuncBody.stmts xb84, scope := xs84, globals := 3, closure := [], defaults := Value.none, kwdefaults := Value.none, pyModule := Value.str (Str.ofString "switchloom.octets") 250, code := Value.ref 83 } }) ::
    (nat_lit 85, { cls := Value.type "tuple", data := Data.seq #[] }) ::
    (nat_lit 87, { cls := Value.type "tuple", data := Data.seq #[Value.str (Str.ofString "octets") 286, Value.str (Str.ofString "at") 287] }) ::
    (nat_lit 88, { cls := Value.type "tuple", data := Data.seq #[] }) ::
    (nat_lit 90, { cls := Value.type "code", data := Data.fields (List.toArray (Value.str (Str.ofString "get16") 283 :: Value.str (Str.ofString "get16") 284 :: Value.str (Str.ofString "/claim/cut.py") 285 :: Value.int 27 0 :: Value.int 2 0 :: Value.int 0 0 :: Value.int 0 0 :: Value.int 3 0 :: Value.ref 85 :: Value.bool true :: Value.int 181 0 :: Value.ref 86 :: Value.none :: Value.ref 87 :: Value.ref 88 :: Value.ref 89 :: Value.int 288 0 :: Value.int 27 0 :: Value.str (Str.ofString "/claim/cut.py") 289 :: [])) }) ::
    (nat_lit 91, { cls := Value.type "function", data := Data.func { name := Str.ofString "get16", qualname := Str.ofString "get16", params := xa91, body := FuncBody.stmts xb91, scope := xs91, globals := 3, closure := [], defaults := Value.none, kwdefaults := Value.none, pyModule := Value.str (Str.ofString "switchloom.octets") 250, code := Value.ref 90 } }) ::
    (nat_lit 92, { cls := Value.type "tuple", data := Data.seq #[] }) ::
    (nat_lit 94, { cls := Value.type "tuple", data := Data.seq #[Value.str (Str.ofString "octets") 294, Value.str (Str.ofString "at") 295] }) ::
    (nat_lit 95, { cls := Value.type "tuple", data := Data.seq #[] }) ::
    (nat_lit 97, { cls := Value.type "code", data := Data.fields (List.toArray (Value.str (Str.ofString "get48") 291 :: Value.str (Str.ofString "get48") 292 :: Value.str (Str.ofString "/claim/cut.py") 293 :: Value.int 29 0 :: Value.int 2 0 :: Value.int 0 0 :: Value.int 0 0 :: Value.int 3 0 :: Value.ref 92 :: Value.bool true :: Value.int 181 0 :: Value.ref 93 :: Value.none :: Value.ref 94 :: Value.ref 95 :: Value.ref 96 :: Value.int 296 0 :: Value.int 29 0 :: Value.str (Str.ofString "/claim/cut.py") 297 :: [])) }) ::
    (nat_lit 98, { cls := Value.type "function", data := Data.func { name := Str.ofString "get48", qualname := Str.ofString "get48", params := xa98, body := FuncBody.stmts xb98, scope := xs98, globals := 3, closure := [], defaults := Value.none, kwdefaults := Value.none, pyModule := Value.str (Str.ofString "switchloom.octets") 250, code := Value.ref 97 } }) ::
    (nat_lit 106, { cls := Value.type "tuple", data := Data.seq #[Value.int 0 336] }) ::
    (nat_lit 107, { cls := Value.type "tuple", data := Data.seq #[] }) ::
    (nat_lit 109, { cls := Value.type "tuple", data := Data.seq #[Value.str (Str.ofString "self") 340, Value.str (Str.ofString "actor") 341, Value.str (Str.ofString "partner") 342, Value.str (Str.ofString "most_delay") 343] }) ::
    (nat_lit 110, { cls := Value.type "tuple", data := Data.seq #[] }) ::
    (nat_lit 112, { cls := Value.type "code", data := Data.fields (List.toArray (Value.str (Str.ofString "__init__") 337 :: Value.str (Str.ofString "Lacpdu.__init__") 338 :: Value.str (Str.ofString "/claim/cut.py") 339 :: Value.int 43 0 :: Value.int 4 0 :: Value.int 0 0 :: Value.int 0 0 :: Value.int 3 0 :: Value.ref 107 :: Value.bool true :: Value.int 181 0 :: Value.ref 108 :: Value.none :: Value.ref 109 :: Value.ref 110 :: Value.ref 111 :: Value.int 344 0 :: Value.int 43 0 :: Value.str (Str.ofString "/claim/cut.py") 345 :: [])) }) ::
    (nat_lit 113, { cls := Value.type "function", data := Data.func { name := Str.ofString "__init__", qualname := Str.ofString "Lacpdu.__init__", params := xa113, body := FuncBody.stmts xb113, scope := xs113, globals := 3, closure := [], defaults := Value.ref 106, kwdefaults := Value.none, pyModule := Value.str (Str.ofString "switchloom.lacpdus") 299, code := Value.ref 112 } }) ::
    (nat_lit 114, { cls := Value.type "tuple", data := Data.seq #[] }) ::
    (nat_lit 116, { cls := Value.type "tuple", data := Data.seq #[Value.str (Str.ofString "self") 350] }) ::
    (nat_lit 117, { cls := Value.type "tuple", data := Data.seq #[] }) ::
    (nat_lit 119, { cls := Value.type "code", data := Data.fields (List.toArray (Value.str (Str.ofString "told") 347 :: Value.str (Str.ofString "Lacpdu.told") 348 :: Value.str (Str.ofString "/claim/cut.py") 349 :: Value.int 48 0 :: Value.int 1 0 :: Value.int 0 0 :: Value.int 0 0 :: Value.int 3 0 :: Value.ref 114 :: Value.bool true :: Value.int 181 0 :: Value.ref 115 :: Value.none :: Value.ref 116 :: Value.ref 117 :: Value.ref 118 :: Value.int 351 0 :: Value.int 48 0 :: Value.str (Str.ofString "/claim/cut.py") 352 :: [])) }) ::
    (nat_lit 120, { cls := Value.type "function", data := Data.func { name := Str.ofString "told", qualname := Str.ofString "Lacpdu.told", params := xa120, body := FuncBody.stmts xb120, scope := xs120, globals := 3, closure := [], defaults := Value.none, kwdefaults := Value.none, pyModule := Value.str (Str.ofString "switchloom.lacpdus") 299, code := Value.ref 119 } }) ::
    (nat_lit 121, { cls := Value.type "tuple", data := Data.seq #[Value.str (Str.ofString "actor") 354, Value.str (Str.ofString "most_delay") 355, Value.str (Str.ofString "partner") 356] }) ::
    (nat_lit 122, { cls := Value.type "dict", data := Data.dict #[{ hash := PyData.keyHash P (Str.ofString "__module__"), key := Value.str (Str.ofString "__module__") 331, val := Value.str (Str.ofString "switchloom.lacpdus") 299 }, { hash := PyData.keyHash P (Str.ofString "__firstlineno__"), key := Value.str (Str.ofString "__firstlineno__") 335, val := Value.int 41 334 }, { hash := PyData.keyHash P (Str.ofString "__init__"), key := Value.str (Str.ofString "__init__") 346, val := Value.ref 113 }, { hash := PyData.keyHash P (Str.ofString "told"), key := Value.str (Str.ofString "told") 353, val := Value.ref 120 }, { hash := PyData.keyHash P (Str.ofString "__static_attributes__"), key := Value.str (Str.ofString "__static_attributes__") 357, val := Value.ref 121 }, { hash := PyData.keyHash P (Str.ofString "__dict__"), key := Value.str (Str.ofString "__dict__") 359, val := Value.ref 124 }, { hash := PyData.keyHash P (Str.ofString "__weakref__"), key := Value.str (Str.ofString "__weakref__") 361, val := Value.ref 125 }, { hash := PyData.keyHash P (Str.ofString "__doc__"), key := Value.str (Str.ofString "__doc__") 362, val := Value.none }] 4 }) ::
    (nat_lit 123, { cls := Value.type "type", data := Data.cls { name := Str.ofString "Lacpdu", bases := [Value.type "object"], mro := [Value.ref 123, Value.type "object"], ns := 122, qualname := Str.ofString "Lacpdu" }, slots := #[none, none, some (Value.str (Str.ofString "Lacpdu") 324), some (Value.str (Str.ofString "Lacpdu") 332), some (Value.builtin "object.__new__"), some (Value.bool true)] }) ::
    (nat_lit 124, { cls := Value.type "getset_descriptor", data := Data.fields #[Value.str (Str.ofString "__dict__") 358, Value.ref 123, Value.builtin "function.__dict__", Value.builtin "function.__dict__#set"] }) ::
    (nat_lit 125, { cls := Value.type "getset_descriptor", data := Data.fields #[Value.str (Str.ofString "__weakref__") 360, Value.ref 123, Value.builtin "ExceptionGroup.__weakref__", Value.none] }) ::
    (nat_lit 128, { cls := Value.type "tuple", data := Data.seq #[] }) ::
    (nat_lit 130, { cls := Value.type "tuple", data := Data.seq #[Value.str (Str.ofString "info") 368, Value.str (Str.ofString "bit") 369] }) ::
    (nat_lit 131, { cls := Value.type "tuple", data := Data.seq #[] }) ::
    (nat_lit 133, { cls := Value.type "code", data := Data.fields (List.toArray (Value.str (Str.ofString "has_bit") 365 :: Value.str (Str.ofString "has_bit") 366 :: Value.str (Str.ofString "/claim/cut.py") 367 :: Value.int 50 0 :: Value.int 2 0 :: Value.int 0 0 :: Value.int 0 0 :: Value.int 3 0 :: Value.ref 128 :: Value.bool true :: Value.int 181 0 :: Value.ref 129 :: Value.none :: Value.ref 130 :: Value.ref 131 :: Value.ref 132 :: Value.int 370 0 :: Value.int 50 0 :: Value.str (Str.ofString "/claim/cut.py") 371 :: [])) }) ::
    (nat_lit 134, { cls := Value.type "function", data := Data.func { name := Str.ofString "has_bit", qualname := Str.ofString "has_bit", params := xa134, body := FuncBody.stmts xb134, scope := xs134, globals := 3, closure := [], defaults := Value.none, kwdefaults := Value.none, pyModule := Value.str (Str.ofString "switchloom.lacpdus") 299, code := Value.ref 133 } }) ::
    (nat_lit 135, { cls := Value.type "tuple", data := Data.seq #[] }) ::
    (nat_lit 137, { cls := Value.type "tuple", data := Data.seq #[Value.str (Str.ofString "info") 376, Value.str (Str.ofString "bit") 377, Value.str (Str.ofString "is_set") 378, Value.str (Str.ofString "state") 379] }) ::
    (nat_lit 138, { cls := Value.type "tuple", data := Data.seq #[] }) ::
    (nat_lit 140, { cls := Value.type "code", data := Data.fields (List.toArray (Value.str (Str.ofString "with_bit") 373 :: Value.str (Str.ofString "with_bit") 374 :: Value.str (Str.ofString "/claim/cut.py") 375 :: Value.int 52 0 :: Value.int 3 0 :: Value.int 0 0 :: Value.int 0 0 :: Value.int 3 0 :: Value.ref 135 :: Value.bool true :: Value.int 181 0 :: Value.ref 136 :: Value.none :: Value.ref 137 :: Value.ref 138 :: Value.ref 139 :: Value.int 380 0 :: Value.int 52 0 :: Value.str (Str.ofString "/claim/cut.py") 381 :: [])) }) ::
    (nat_lit 141, { cls := Value.type "function", data := Data.func { name := Str.ofString "with_bit", qualname := Str.ofString "with_bit", params := xa141, body := FuncBody.stmts xb141, scope := xs141, globals := 3, closure := [], defaults := Value.none, kwdefaults := Value.none, pyModule := Value.str (Str.ofString "switchloom.lacpdus") 299, code := Value.ref 140 } }) ::
    (nat_lit 142, { cls := Value.type "tuple", data := Data.seq #[] }) ::
    (nat_lit 144, { cls := Value.type "tuple", data := Data.seq #[Value.str (Str.ofString "part") 386, Value.str (Str.ofString "info") 387, Value.str (Str.ofString "system") 388, Value.str (Str.ofString "key") 389, Value.str (Str.ofString "port") 390, Value.str (Str.ofString "state") 391, Value.str (Str.ofString "found") 392] }) ::
    (nat_lit 145, { cls := Value.type "tuple", data := Data.seq #[] }) ::
    (nat_lit 147, { cls := Value.type "code", data := Data.fields (List.toArray (Value.str (Str.ofString "packed_info") 383 :: Value.str (Str.ofString "packed_info") 384 :: Value.str (Str.ofString "/claim/cut.py") 385 :: Value.int 55 0 :: Value.int 2 0 :: Value.int 0 0 :: Value.int 0 0 :: Value.int 3 0 :: Value.ref 142 :: Value.bool true :: Value.int 181 0 :: Value.ref 143 :: Value.none :: Value.ref 144 :: Value.ref 145 :: Value.ref 146 :: Value.int 393 0 :: Value.int 55 0 :: Value.str (Str.ofString "/claim/cut.py") 394 :: [])) }) ::
    (nat_lit 148, { cls := Value.type "function", data := Data.func { name := Str.ofString "packed_info", qualname := Str.ofString "packed_info", params := xa148, body := FuncBody.stmts xb148, scope := xs148, globals := 3, closure := [], defaults := Value.none, kwdefaults := Value.none, pyModule := Value.str (Str.ofString "switchloom.lacpdus") 299, code := Value.ref 147 } }) ::
    (nat_lit 149, { cls := Value.type "tuple", data := Data.seq #[] }) ::
    (nat_lit 151, { cls := Value.type "tuple", data := Data.seq #[Value.str (Str.ofString "octets") 399, Value.str (Str.ofString "at") 400, Value.str (Str.ofString "part") 401, Value.str (Str.ofString "system") 402, Value.str (Str.ofString "port") 403] }) ::
    (nat_lit 152, { cls := Value.type "tuple", data := Data.seq #[] }) ::
    (nat_lit 154, { cls := Value.type "code", data := Data.fields (List.toArray (Value.str (Str.ofString "info_at") 396 :: Value.str (Str.ofString "info_at") 397 :: Value.str (Str.ofString "/claim/cut.py") 398 :: Value.int 59 0 :: Value.int 3 0 :: Value.int 0 0 :: Value.int 0 0 :: Value.int 3 0 :: Value.ref 149 :: Value.bool true :: Value.int 181 0 :: Value.ref 150 :: Value.none :: Value.ref 151 :: Value.ref 152 :: Value.ref 153 :: Value.int 404 0 :: Value.int 59 0 :: Value.str (Str.ofString "/claim/cut.py") 405 :: [])) }) ::
    (nat_lit 155, { cls := Value.type "function", data := Data.func { name := Str.ofString "info_at", qualname := Str.ofString "info_at", params := xa155, body := FuncBody.stmts xb155, scope := xs155, globals := 3, closure := [], defaults := Value.none, kwdefaults := Value.none, pyModule := Value.str (Str.ofString "switchloom.lacpdus") 299, code := Value.ref 154 } }) ::
    (nat_lit 156, { cls := Value.type "tuple", data := Data.seq #[] }) ::
    (nat_lit 158, { cls := Value.type "tuple", data := Data.seq #[Value.str (Str.ofString "pdu") 410, Value.str (Str.ofString "found") 411] }) ::
    (nat_lit 159, { cls := Value.type "tuple", data := Data.seq #[] }) ::
    (nat_lit 161, { cls := Value.type "code", data := Data.fields (List.toArray (Value.str (Str.ofString "pack_lacpdu") 407 :: Value.str (Str.ofString "pack_lacpdu") 408 :: Value.str (Str.ofString "/claim/cut.py") 409 :: Value.int 65 0 :: Value.int 1 0 :: Value.int 0 0 :: Value.int 0 0 :: Value.int 3 0 :: Value.ref 156 :: Value.bool true :: Value.int 181 0 :: Value.ref 157 :: Value.none :: Value.ref 158 :: Value.ref 159 :: Value.ref 160 :: Value.int 412 0 :: Value.int 65 0 :: Value.str (Str.ofString "/claim/cut.py") 413 :: [])) }) ::
    (nat_lit 162, { cls := Value.type "function", data := Data.func { name := Str.ofString "pack_lacpdu", qualname := Str.ofString "pack_lacpdu", params := xa162, body := FuncBody.stmts xb162, scope := xs162, globals := 3, closure := [], defaults := Value.none, kwdefaults := Value.none, pyModule := Value.str (Str.ofString "switchloom.lacpdus") 299, code := Value.ref 161 } }) ::
    (nat_lit 163, { cls := Value.type "tuple", data := Data.seq #[] }) ::
    (nat_lit 165, { cls := Value.type "tuple", data := Data.seq #[Value.str (Str.ofString "octets") 418, Value.str (Str.ofString "actor") 419, Value.str (Str.ofString "partner") 420, Value.str (Str.ofString "at") 421] }) ::
    (nat_lit 166, { cls := Value.type "tuple", data := Data.seq #[] }) ::
    (nat_lit 168, { cls := Value.type "code", data := Data.fields (List.toArray (Value.str (Str.ofString "unpack_lacpdu") 415 :: Value.str (Str.ofString "unpack_lacpdu") 416 :: Value.str (Str.ofString "/claim/cut.py") 417 :: Value.int 69 0 :: Value.int 1 0 :: Value.int 0 0 :: Value.int 0 0 :: Value.int 3 0 :: Value.ref 163 :: Value.bool true :: Value.int 181 0 :: Value.ref 164 :: Value.none :: Value.ref 165 :: Value.ref 166 :: Value.ref 167 :: Value.int 422 0 :: Value.int 69 0 :: Value.str (Str.ofString "/claim/cut.py") 423 :: [])) }) ::
    (nat_lit 169, { cls := Value.type "function", data := Data.func { name := Str.ofString "unpack_lacpdu", qualname := Str.ofString "unpack_lacpdu", params := xa169, body := FuncBody.stmts xb169, scope := xs169, globals := 3, closure := [], defaults := Value.none, kwdefaults := Value.none, pyModule := Value.str (Str.ofString "switchloom.lacpdus") 299, code := Value.ref 168 } }) ::
    (nat_lit 170, { cls := Value.type "tuple", data := Data.seq #[] }) ::
    (nat_lit 172, { cls := Value.type "tuple", data := Data.seq #[Value.str (Str.ofString "script") 430, Value.str (Str.ofString "k") 431, Value.str (Str.ofString "cell") 432, Value.str (Str.ofString "big") 433, Value.str (Str.ofString "mixed") 434] }) ::
    (nat_lit 173, { cls := Value.type "tuple", data := Data.seq #[] }) ::
    (nat_lit 175, { cls := Value.type "code", data := Data.fields (List.toArray (Value.str (Str.ofString "_law_pool") 427 :: Value.str (Str.ofString "_law_pool") 428 :: Value.str (Str.ofString "/claim/cut.py") 429 :: Value.int 80 0 :: Value.int 2 0 :: Value.int 0 0 :: Value.int 0 0 :: Value.int 3 0 :: Value.ref 170 :: Value.bool true :: Value.int 181 0 :: Value.ref 171 :: Value.none :: Value.ref 172 :: Value.ref 173 :: Value.ref 174 :: Value.int 435 0 :: Value.int 80 0 :: Value.str (Str.ofString "/claim/cut.py") 436 :: [])) }) ::
    (nat_lit 176, { cls := Value.type "function", data := Data.func { name := Str.ofString "_law_pool", qualname := Str.ofString "_law_pool", params := xa176, body := FuncBody.stmts xb176, scope := xs176, globals := 3, closure := [], defaults := Value.none, kwdefaults := Value.none, pyModule := Value.str (Str.ofString "law_pc0360_01") 425, code := Value.ref 175 } }) ::
    (nat_lit 177, { cls := Value.type "tuple", data := Data.seq #[] }) ::
    (nat_lit 179, { cls := Value.type "tuple", data := Data.seq #[Value.str (Str.ofString "source") 441, Value.str (Str.ofString "top") 442, Value.str (Str.ofString "drawn") 443] }) ::
    (nat_lit 180, { cls := Value.type "tuple", data := Data.seq #[] }) ::
    (nat_lit 182, { cls := Value.type "code", data := Data.fields (List.toArray (Value.str (Str.ofString "_law_take") 438 :: Value.str (Str.ofString "_law_take") 439 :: Value.str (Str.ofString "/claim/cut.py") 440 :: Value.int 85 0 :: Value.int 2 0 :: Value.int 0 0 :: Value.int 0 0 :: Value.int 3 0 :: Value.ref 177 :: Value.bool true :: Value.int 181 0 :: Value.ref 178 :: Value.none :: Value.ref 179 :: Value.ref 180 :: Value.ref 181 :: Value.int 444 0 :: Value.int 85 0 :: Value.str (Str.ofString "/claim/cut.py") 445 :: [])) }) ::
    (nat_lit 183, { cls := Value.type "function", data := Data.func { name := Str.ofString "_law_take", qualname := Str.ofString "_law_take", params := xa183, body := FuncBody.stmts xb183, scope := xs183, globals := 3, closure := [], defaults := Value.none, kwdefaults := Value.none, pyModule := Value.str (Str.ofString "law_pc0360_01") 425, code := Value.ref 182 } }) ::
    (nat_lit 184, { cls := Value.type "tuple", data := Data.seq #[] }) ::
    (nat_lit 186, { cls := Value.type "tuple", data := Data.seq #[Value.str (Str.ofString "source") 450, Value.str (Str.ofString "things") 451] }) ::
    (nat_lit 187, { cls := Value.type "tuple", data := Data.seq #[] }) ::
    (nat_lit 189, { cls := Value.type "code", data := Data.fields (List.toArray (Value.str (Str.ofString "_law_one") 447 :: Value.str (Str.ofString "_law_one") 448 :: Value.str (Str.ofString "/claim/cut.py") 449 :: Value.int 92 0 :: Value.int 2 0 :: Value.int 0 0 :: Value.int 0 0 :: Value.int 3 0 :: Value.ref 184 :: Value.bool true :: Value.int 181 0 :: Value.ref 185 :: Value.none :: Value.ref 186 :: Value.ref 187 :: Value.ref 188 :: Value.int 452 0 :: Value.int 92 0 :: Value.str (Str.ofString "/claim/cut.py") 453 :: [])) }) ::
    (nat_lit 190, { cls := Value.type "function", data := Data.func { name := Str.ofString "_law_one", qualname := Str.ofString "_law_one", params := xa190, body := FuncBody.stmts xb190, scope := xs190, globals := 3, closure := [], defaults := Value.none, kwdefaults := Value.none, pyModule := Value.str (Str.ofString "law_pc0360_01") 425, code := Value.ref 189 } }) ::
    (nat_lit 191, { cls := Value.type "tuple", data := Data.seq #[] }) ::
    (nat_lit 193, { cls := Value.type "tuple", data := Data.seq #[Value.str (Str.ofString "source") 458, Value.str (Str.ofString "system") 459, Value.str (Str.ofString "port") 460] }) ::
    (nat_lit 194, { cls := Value.type "tuple", data := Data.seq #[] }) ::
    (nat_lit 196, { cls := Value.type "code", data := Data.fields (List.toArray (Value.str (Str.ofString "_law_info") 455 :: Value.str (Str.ofString "_law_info") 456 :: Value.str (Str.ofString "/claim/cut.py") 457 :: Value.int 94 0 :: Value.int 1 0 :: Value.int 0 0 :: Value.int 0 0 :: Value.int 3 0 :: Value.ref 191 :: Value.bool true :: Value.int 181 0 :: Value.ref 192 :: Value.none :: Value.ref 193 :: Value.ref 194 :: Value.ref 195 :: Value.int 461 0 :: Value.int 94 0 :: Value.str (Str.ofString "/claim/cut.py") 462 :: [])) }) ::
    (nat_lit 197, { cls := Value.type "function", data := Data.func { name := Str.ofString "_law_info", qualname := Str.ofString "_law_info", params := xa197, body := FuncBody.stmts xb197, scope := xs197, globals := 3, closure := [], defaults := Value.none, kwdefaults := Value.none, pyModule := Value.str (Str.ofString "law_pc0360_01") 425, code := Value.ref 196 } }) ::
    (nat_lit 198, { cls := Value.type "tuple", data := Data.seq #[] }) ::
    (nat_lit 201, { cls := Value.type "code", data := Data.fields (List.toArray (Value.str (Str.ofString "_law_number") 464 :: Value.str (Str.ofString "_law_number") 465 :: Value.str (Str.ofString "/claim/cut.py") 466 :: Value.int 98 0 :: Value.int 2 0 :: Value.int 0 0 :: Value.int 0 0 :: Value.int 3 0 :: Value.ref 198 :: Value.bool true :: Value.int 181 0 :: Value.ref 199 :: Value.none :: Value.none :: Value.none :: Value.ref 200 :: Value.int 467 0 :: Value.int 98 0 :: Value.str (Str.ofString "/claim/cut.py") 468 :: [])) }) ::
    (nat_lit 202, { cls := Value.type "function", data := Data.func { name := Str.ofString "_law_number", qualname := Str.ofString "_law_number", params := xa202, body := FuncBody.stmts xb202, scope := xs202, globals := 3, closure := [], defaults := Value.none, kwdefaults := Value.none, pyModule := Value.str (Str.ofString "law_pc0360_01") 425, code := Value.ref 201 } }) ::
    (nat_lit 203, { cls := Value.type "tuple", data := Data.seq #[] }) ::
    (nat_lit 205, { cls := Value.type "tuple", data := Data.seq #[Value.str (Str.ofString "actor") 473, Value.str (Str.ofString "partner") 474, Value.str (Str.ofString "most_delay") 475, Value.str (Str.ofString "found") 476, Value.str (Str.ofString "part") 477, Value.str (Str.ofString "info") 478] }) ::
    (nat_lit 206, { cls := Value.type "tuple", data := Data.seq #[] }) ::
    (nat_lit 208, { cls := Value.type "code", data := Data.fields (List.toArray (Value.str (Str.ofString "_law_rows") 470 :: Value.str (Str.ofString "_law_rows") 471 :: Value.str (Str.ofString "/claim/cut.py") 472 :: Value.int 100 0 :: Value.int 3 0 :: Value.int 0 0 :: Value.int 0 0 :: Value.int 3 0 :: Value.ref 203 :: Value.bool true :: Value.int 181 0 :: Value.ref 204 :: Value.none :: Value.ref 205 :: Value.ref 206 :: Value.ref 207 :: Value.int 479 0 :: Value.int 100 0 :: Value.str (Str.ofString "/claim/cut.py") 480 :: [])) }) ::
    (nat_lit 209, { cls := Value.type "function", data := Data.func { name := Str.ofString "_law_rows", qualname := Str.ofString "_law_rows", params := xa209, body := FuncBody.stmts xb209, scope := xs209, globals := 3, closure := [], defaults := Value.none, kwdefaults := Value.none, pyModule := Value.str (Str.ofString "law_pc0360_01") 425, code := Value.ref 208 } }) ::
    (nat_lit 210, { cls := Value.type "tuple", data := Data.seq #[] }) ::
    (nat_lit 212, { cls := Value.type "tuple", data := Data.seq #[Value.str (Str.ofString "rows") 485] }) ::
    (nat_lit 213, { cls := Value.type "tuple", data := Data.seq #[] }) ::
    (nat_lit 215, { cls := Value.type "code", data := Data.fields (List.toArray (Value.str (Str.ofString "_law_is_refused") 482 :: Value.str (Str.ofString "_law_is_refused") 483 :: Value.str (Str.ofString "/claim/cut.py") 484 :: Value.int 106 0 :: Value.int 1 0 :: Value.int 0 0 :: Value.int 0 0 :: Value.int 3 0 :: Value.ref 210 :: Value.bool true :: Value.int 181 0 :: Value.ref 211 :: Value.none :: Value.ref 212 :: Value.ref 213 :: Value.ref 214 :: Value.int 486 0 :: Value.int 106 0 :: Value.str (Str.ofString "/claim/cut.py") 487 :: [])) }) ::
    (nat_lit 216, { cls := Value.type "function", data := Data.func { name := Str.ofString "_law_is_refused", qualname := Str.ofString "_law_is_refused", params := xa216, body := FuncBody.stmts xb216, scope := xs216, globals := 3, closure := [], defaults := Value.none, kwdefaults := Value.none, pyModule := Value.str (Str.ofString "law_pc0360_01") 425, code := Value.ref 215 } }) ::
    (nat_lit 217, { cls := Value.type "tuple", data := Data.seq #[] }) ::
    (nat_lit 219, { cls := Value.type "tuple", data := Data.seq (List.toArray (Value.str (Str.ofString "source") 492 :: Value.str (Str.ofString "actor") 493 :: Value.str (Str.ofString "partner") 494 :: Value.str (Str.ofString "most_delay") 495 :: Value.str (Str.ofString "rows") 496 :: Value.str (Str.ofString "free") 497 :: Value.str (Str.ofString "place") 498 :: Value.str (Str.ofString "odd") 499 :: Value.str (Str.ofString "some") 500 :: Value.str (Str.ofString "octet") 501 :: Value.str (Str.ofString "bit") 502 :: Value.str (Str.ofString "is_set") 503 :: Value.str (Str.ofString "turned") 504 :: [])) }) ::
    (nat_lit 220, { cls := Value.type "tuple", data := Data.seq #[] }) ::
    (nat_lit 222, { cls := Value.type "code", data := Data.fields (List.toArray (Value.str (Str.ofString "_law_message_right") 489 :: Value.str (Str.ofString "_law_message_right") 490 :: Value.str (Str.ofString "/claim/cut.py") 491 :: Value.int 112 0 :: Value.int 1 0 :: Value.int 0 0 :: Value.int 0 0 :: Value.int 3 0 :: Value.ref 217 :: Value.bool true :: Value.int 181 0 :: Value.ref 218 :: Value.none :: Value.ref 219 :: Value.ref 220 :: Value.ref 221 :: Value.int 505 0 :: Value.int 112 0 :: Value.str (Str.ofString "/claim/cut.py") 506 :: [])) }) ::
    (nat_lit 223, { cls := Value.type "function", data := Data.func { name := Str.ofString "_law_message_right", qualname := Str.ofString "_law_message_right", params := xa223, body := FuncBody.stmts xb223, scope := xs223, globals := 3, closure := [], defaults := Value.none, kwdefaults := Value.none, pyModule := Value.str (Str.ofString "law_pc0360_01") 425, code := Value.ref 222 } }) ::
    (nat_lit 224, { cls := Value.type "tuple", data := Data.seq #[] }) ::
    (nat_lit 226, { cls := Value.type "tuple", data := Data.seq #[Value.str (Str.ofString "script") 511, Value.str (Str.ofString "k") 512, Value.str (Str.ofString "source") 513, Value.str (Str.ofString "turn") 514, Value.str (Str.ofString "info") 515] }) ::
    (nat_lit 227, { cls := Value.type "tuple", data := Data.seq #[] }) ::
    (nat_lit 229, { cls := Value.type "code", data := Data.fields (List.toArray (Value.str (Str.ofString "law") 508 :: Value.str (Str.ofString "law") 509 :: Value.str (Str.ofString "/claim/cut.py") 510 :: Value.int 133 0 :: Value.int 1 0 :: Value.int 0 0 :: Value.int 0 0 :: Value.int 3 0 :: Value.ref 224 :: Value.bool true :: Value.int 181 0 :: Value.ref 225 :: Value.none :: Value.ref 226 :: Value.ref 227 :: Value.ref 228 :: Value.int 516 0 :: Value.int 133 0 :: Value.str (Str.ofString "/claim/cut.py") 517 :: [])) }) ::
    (nat_lit 230, { cls := Value.type "function", data := Data.func { name := Str.ofString "law", qualname := Str.ofString "law", params := xa230, body := FuncBody.stmts xb230, scope := xs230, globals := 3, closure := [], defaults := Value.none, kwdefaults := Value.none, pyModule := Value.str (Str.ofString "law_pc0360_01") 425, code := Value.ref 229 } }) :: [] : List (Nat × Obj))) _ _ _ _ _ _ _ _ _ _ _ _ _ _ _ _ _ _ _ _ _ _ _ _ _ _ _ _ _ _ _ _ _ _ _ _ _ _ _ _ _ _ _ _ _ _ _ _ _ _ _ _ _ _ _ _ _ _ _ _ _ _ _ _ _ _ _ _ _ _ _ _ ?h28 ?h63 ?h70 ?h77 ?h84 ?h91 ?h98 ?h113 ?h120 ?h134 ?h141 ?h148 ?h155 ?h162 ?h169 ?h176 ?h183 ?h190 ?h197 ?h202 ?h209 ?h216 ?h223 ?h230
  case h28 => exact rfl
  case h63 => exact rfl
  case h70 => exact rfl
  case h77 => exact rfl
  case h84 => exact rfl
  case h91 => exact rfl
  case h98 => exact rfl
  case h113 => exact rfl
  case h120 => exact rfl
  case h134 => exact rfl
  case h141 => exact rfl
  case h148 => exact rfl
  case h155 => exact rfl
  case h162 => exact rfl
  case h169 => exact rfl
  case h176 => exact rfl
  case h183 => exact rfl
  case h190 => exact rfl
  case h197 => exact rfl
  case h202 => exact rfl
  case h209 => exact rfl
  case h216 => exact rfl
  case h223 => exact rfl
  case h230 => exact rfl
noncomputable def heapAs : List Addr := nat_lit 2 :: nat_lit 3 :: nat_lit 15 :: nat_lit 22 :: nat_lit 24 :: nat_lit 25 :: nat_lit 27 :: nat_lit 28 :: nat_lit 29 :: nat_lit 30 :: nat_lit 31 :: nat_lit 32 :: nat_lit 35 :: nat_lit 42 :: nat_lit 43 :: nat_lit 44 :: nat_lit 47 :: nat_lit 54 :: nat_lit 55 :: nat_lit 56 :: nat_lit 59 :: nat_lit 62 :: nat_lit 63 :: nat_lit 64 :: nat_lit 66 :: nat_lit 67 :: nat_lit 69 :: nat_lit 70 :: nat_lit 71 :: nat_lit 73 :: nat_lit 74 :: nat_lit 76 :: nat_lit 77 :: nat_lit 78 :: nat_lit 80 :: nat_lit 81 :: nat_lit 83 :: nat_lit 84 :: nat_lit 85 :: nat_lit 87 :: nat_lit 88 :: nat_lit 90 :: nat_lit 91 :: nat_lit 92 :: nat_lit 94 :: nat_lit 95 :: nat_lit 97 :: nat_lit 98 :: nat_lit 106 :: nat_lit 107 :: nat_lit 109 :: nat_lit 110 :: nat_lit 112 :: nat_lit 113 :: nat_lit 114 :: nat_lit 116 :: nat_lit 117 :: nat_lit 119 :: nat_lit 120 :: nat_lit 121 :: nat_lit 122 :: nat_lit 123 :: nat_lit 124 :: nat_lit 125 :: nat_lit 128 :: nat_lit 130 :: nat_lit 131 :: nat_lit 133 :: nat_lit 134 :: nat_lit 135 :: nat_lit 137 :: nat_lit 138 :: nat_lit 140 :: nat_lit 141 :: nat_lit 142 :: nat_lit 144 :: nat_lit 145 :: nat_lit 147 :: nat_lit 148 :: nat_lit 149 :: nat_lit 151 :: nat_lit 152 :: nat_lit 154 :: nat_lit 155 :: nat_lit 156 :: nat_lit 158 :: nat_lit 159 :: nat_lit 161 :: nat_lit 162 :: nat_lit 163 :: nat_lit 165 :: nat_lit 166 :: nat_lit 168 :: nat_lit 169 :: nat_lit 170 :: nat_lit 172 :: nat_lit 173 :: nat_lit 175 :: nat_lit 176 :: nat_lit 177 :: nat_lit 179 :: nat_lit 180 :: nat_lit 182 :: nat_lit 183 :: nat_lit 184 :: nat_lit 186 :: nat_lit 187 :: nat_lit 189 :: nat_lit 190 :: nat_lit 191 :: nat_lit 193 :: nat_lit 194 :: nat_lit 196 :: nat_lit 197 :: nat_lit 198 :: nat_lit 201 :: nat_lit 202 :: nat_lit 203 :: nat_lit 205 :: nat_lit 206 :: nat_lit 208 :: nat_lit 209 :: nat_lit 210 :: nat_lit 212 :: nat_lit 213 :: nat_lit 215 :: nat_lit 216 :: nat_lit 217 :: nat_lit 219 :: nat_lit 220 :: nat_lit 222 :: nat_lit 223 :: nat_lit 224 :: nat_lit 226 :: nat_lit 227 :: nat_lit 229 :: nat_lit 230 :: []
end Pc

section
local macro_rules | `(tactic| k_room) => `(tactic| ktr_room)
local macro_rules | `(tactic| k_units) => `(tactic| ktr_units)
local macro_rules | `(tactic| walk_at $s:str) => `(tactic| k_extra $s)

section
open PySem PySem.W PySem.Spec PySem.Calls PyProof.Rows
namespace Pc
/-- what the text keeps of its loose names -/
noncomputable abbrev seen8 : List (Str × WData) := [(Str.ofString "WHOLE_SIZE", WData.int 110)]
noncomputable abbrev hook8 : Hook := kHook heapK heapAs (fun _ => by kernel_rfl)
/-- the top, run by the kernel, upon the library's own twins of what runs it -/
theorem left8 : LeftO (OpenRow.toRowW (OpenLaw.row PySem.Challenge.rw_pc0360_01)).prog view [Str.ofString "WHOLE_SIZE"] (fun s => xlAt view seen8 s && recOk (RowW.records (OpenRow.toRowW (OpenLaw.row PySem.Challenge.rw_pc0360_01))) s) (Hook.obs hook8) (Hook.val hook8) 3554 := by
  intro w
  delta openEnds fencedOpening topFrom topStub
  rw [Fast.te14364793385576792824, Fast.te10274390034422433532, Fast.te1435165496053646825, Fast.te14289696077712309145, Fast.te14082659384304107361, Fast.te4187177175401517315, Fast.te5923862056798008813, Fast.te17154629097778926822, Fast.te12822647523644345616]
  kernel_rfl
end Pc
end

section
open PySem PySem.W PySem.Spec PySem.Calls PyProof.Rows
namespace Pc
abbrev Led := List (Addr × Obj)
abbrev srcO (a b : Int) (ta tb : Tok) (n : Nat) : Obj := listOf #[.int a ta, .int b tb] n
theorem fmod_nn (x : Int) {k : Int} (h : 0 < k) : 0 ≤ x.fmod k := by rw [Int.fmod_eq_emod_of_nonneg _ (by omega)]; exact Int.emod_nonneg _ (by omega)
theorem fmod_lt (x : Int) {k : Int} (h : 0 < k) : x.fmod k < k := by rw [Int.fmod_eq_emod_of_nonneg _ (by omega)]; exact Int.emod_lt_of_pos _ h
theorem mul_ok_fmod (x y : Int) {k : Int} (h : 0 < k) (h2 : k ≤ 2 ^ 63) : IntMulOk (x.fmod k) y :=
  IntMulOk.of_left (intBits_le_64 (by have := fmod_nn x h; omega) (by have := fmod_lt x h; omega))
local macro_rules | `(tactic| k_all) => `(tactic| assumption)
local macro_rules | `(tactic| mul_fits) => `(tactic| k_dflt (exact mul_ok_fmod _ _ (by decide) (by decide)))

set_option maxRecDepth 100000 in
set_option maxHeartbeats 4000000 in
theorem take_spec {w : World} {p : Program} {loose : List Str} {mean : ExcName → Option Value} {mg mb : Str → Option Value}
    {x : Addr} {a b top : Int} {ta tb tt : Tok} {n : Nat} {rest : Led} (hrest : ∀ q ∈ rest, q.1 ≠ x)
    (h1 : 1 ≤ top) (h2 : top ≤ 65536) (hb : 0 ≤ b) (hb' : b < 2147483647)
    (dp un : Nat) (gd : Option (List Code)) (cn : Str) (cs : Scope) (ad : Addr) (ccd : Value) (cl : List (Str × Addr)) (outer : List Env) (A₀ : Around) (base h₀ : Heap) (L : Addr) (m : Str → Option Value) (s : Shared) (Q E : Value → Shared → Prop)
    (B : Below A₀ base outer h₀) (F : Fr h₀ L s.heap m) (X : (heapK w.params).In h₀) (T : Top p loose mean mg mb h₀) (hk : cs.kind = .function) (N : News h₀ L s.heap ((x, srcO a b ta tb n) :: rest))
    (hd : dp + 1 < recursionLimit) (hu : un + 8 < cLine)
    (hret : ∀ v t a' b' ta' tb' n' h' tk', 0 ≤ v → v < top → 0 ≤ b' → b' < 2147483647 → Fr h₀ L h' m → News h₀ L h' ((x, srcO a' b' ta' tb' n') :: rest) → Q (.int v t) { s with heap := h', toks := tk' }) :
    wpAny (model PySem.Challenge.rw_pc0360_01.row.prog w) (ktrTop dp un gd cn cs L ad ccd cl outer) (PySem.call (.ref 183) [.ref x, .int top tt]) Q E s := by
  k_with_none
  revert X; k_fill; w_top off; intro X
  refine wpAny_call ?_
  k_dflt ktr_enter
  k_steps
  · exact hret _ _ _ _ _ _ _ _ _ (fmod_nn _ (by omega)) (fmod_lt _ (by omega)) hb hb' (by assumption) (by assumption)
  · exact hret _ _ _ _ _ _ _ _ _ (fmod_nn _ (by omega)) (fmod_lt _ (by omega)) (fmod_nn _ (by decide)) (fmod_lt _ (by decide)) (by assumption) (by assumption)
end Pc
end

section
open PySem PySem.W PySem.Spec PySem.Calls PyProof.Rows
namespace Pc
theorem getD_mem {ns : List Int} {v : Int} (h0 : 0 ≤ v) (h1 : v < (ns.length : Int)) : ns.getD v.toNat 0 ∈ ns := by
  have : v.toNat < ns.length := by omega
  rw [List.getD_eq_getElem?_getD, List.getElem?_eq_getElem this]
  exact List.getElem_mem this
theorem drop2 {h₀ h : Heap} {L : Addr} {e d : Addr × Obj} {rest : Led} (N : News h₀ L h (e :: d :: rest)) : News h₀ L h (e :: rest) := fun p hp => N p (by
  rcases List.mem_cons.mp hp with rfl | hp
  · exact .head _
  · exact .tail _ (.tail _ hp))
local macro_rules | `(tactic| k_all) => `(tactic| assumption)

set_option maxRecDepth 100000 in
set_option maxHeartbeats 4000000 in
theorem one_spec {w : World} {p : Program} {loose : List Str} {mean : ExcName → Option Value} {mg mb : Str → Option Value}
    {x : Addr} {a b : Int} {ta tb : Tok} {n : Nat} {rest : Led} {th : Addr} {vs : List Value} {ns : List Int} {k : Nat}
    (hth : x < th) (hrest : ∀ q ∈ rest, q.1 ≠ x) (hi : IntsAre vs ns) (hl : 1 ≤ ns.length) (hl2 : ns.length ≤ 65536)
    (hb : 0 ≤ b) (hb' : b < 2147483647)
    (dp un : Nat) (gd : Option (List Code)) (cn : Str) (cs : Scope) (ad : Addr) (ccd : Value) (cl : List (Str × Addr)) (outer : List Env) (A₀ : Around) (base h₀ : Heap) (L : Addr) (m : Str → Option Value) (s : Shared) (Q E : Value → Shared → Prop)
    (B : Below A₀ base outer h₀) (F : Fr h₀ L s.heap m) (X : (heapK w.params).In h₀) (T : Top p loose mean mg mb h₀) (hk : cs.kind = .function) (N : News h₀ L s.heap ((x, srcO a b ta tb n) :: (th, listOf vs.toArray k) :: rest))
    (hd : dp + 2 < recursionLimit) (hu : un + 16 < cLine)
    (hret : ∀ v t a' b' ta' tb' n' h' tk', v ∈ ns → 0 ≤ b' → b' < 2147483647 → Fr h₀ L h' m → News h₀ L h' ((x, srcO a' b' ta' tb' n') :: rest) → Q (.int v t) { s with heap := h', toks := tk' }) :
    wpAny (model PySem.Challenge.rw_pc0360_01.row.prog w) (ktrTop dp un gd cn cs L ad ccd cl outer) (PySem.call (.ref 190) [.ref x, .ref th]) Q E s := by
  k_with_none
  k_with "call ref" => (k_here; (with_reducible show wpAny _ _ (PySem.call (Value.ref 183) [_, _]) _ _ _); k_dflt (refine' take_spec ?_ ?_ ?_ ?_ ?_ _ _ _ _ _ _ _ _ _ _ _ _ _ _ _ _ _ ?_ ?_ ?_ ?_ ?_ ?_ ?_ ?_ ?_; rotate_right 9; (focus ((k_asm); done)); (focus ((k_asm); done)); (focus ((k_asm); done)); (focus ((k_asm); done)); (focus ((first | rfl | assumption); done)); (focus ((k_asm); done)); (focus ((ktr_room); done)); (focus ((ktr_units); done)); (all_goals skip); rotate_right 5; (focus ((k_all); done)); (focus ((first | assumption | omega); done)); (focus ((first | assumption | omega); done)); (focus ((first | assumption | omega); done)); (focus ((first | assumption | omega); done)); intro v9 t9 a9 b9 ta9 tb9 n9 h9 tk9 hv9 hv9' hb9 hb9' F9 N9; (try dsimp only); (try k_fold)))
  revert X; k_fill; w_top off; intro X
  have hrest' : ∀ q ∈ (th, listOf vs.toArray k) :: rest, q.1 ≠ x := by
    intro q hq
    rcases List.mem_cons.mp hq with rfl | hq
    · exact Nat.ne_of_gt hth
    · exact hrest q hq
  refine wpAny_call ?_
  k_dflt ktr_enter
  k_steps
  refine hret _ _ _ _ _ _ _ _ _ (getD_mem (by assumption) ?_) (by assumption) (by assumption) (by assumption) (drop2 (by assumption))
  simp only [IntsAre.length hi] at *; omega
end Pc
end

section
open PySem PySem.W PySem.Spec PySem.Calls PyProof.Rows
namespace Pc
theorem upd_mem {x : Addr} {o o' : Obj} {l l' : Led} (U : Upd x o o' l l') : ∀ p ∈ l', p = (x, o') ∨ (p ∈ l ∧ p.1 ≠ x) := by
  obtain ⟨pre, post, h1, h2, h3, h4⟩ := U.split
  subst h1 h2
  intro p hp
  rcases List.mem_append.mp hp with hp | hp
  · exact .inr ⟨List.mem_append.mpr (.inl hp), h3 p hp⟩
  · rcases List.mem_cons.mp hp with rfl | hp
    · exact .inl rfl
    · exact .inr ⟨List.mem_append.mpr (.inr (.tail _ hp)), h4 p hp⟩
theorem upd_old {x : Addr} {o o' : Obj} {l l' : Led} (U : Upd x o o' l l') : (x, o) ∈ l := by
  obtain ⟨pre, post, h1, h2, h3, h4⟩ := U.split
  subst h1
  exact List.mem_append.mpr (.inr (.head _))
abbrev others (x : Addr) (l : Led) : Led := l.filter fun p => !(Nat.beq p.1 x)
theorem others_ne {x : Addr} {l : Led} : ∀ q ∈ others x l, q.1 ≠ x := fun q hq e => by
  have := (List.mem_filter.mp hq).2
  rw [e, Nat.beq_refl] at this
  cases this
theorem others_mem {x : Addr} {l : Led} {p : Addr × Obj} (h : p ∈ l) (hn : p.1 ≠ x) : p ∈ others x l := List.mem_filter.mpr ⟨h, by
  cases e : Nat.beq p.1 x with
  | false => rfl
  | true => exact absurd (Nat.eq_of_beq_eq_true e) hn⟩
theorem news_front {h₀ h : Heap} {L x : Addr} {o o' : Obj} {l l' : Led} (U : Upd x o o' l l') (N : News h₀ L h l) : News h₀ L h ((x, o) :: others x l) := fun p hp => by
  rcases List.mem_cons.mp hp with rfl | hp
  · exact N _ (upd_old U)
  · exact N _ (List.mem_filter.mp hp).1
theorem news_back {h₀ h : Heap} {L x : Addr} {o o' : Obj} {l l' : Led} (U : Upd x o o' l l') (N : News h₀ L h ((x, o') :: others x l)) : News h₀ L h l' := fun p hp => by
  rcases upd_mem U p hp with rfl | ⟨hp, hn⟩
  · exact N _ (.head _)
  · exact N _ (.tail _ (others_mem hp hn))

theorem take_upd {w : World} {p : Program} {loose : List Str} {mean : ExcName → Option Value} {mg mb : Str → Option Value}
    {x : Addr} {a b top : Int} {ta tb tt : Tok} {n : Nat} {news : Led} {upd : Obj → Led}
    (h1 : 1 ≤ top) (h2 : top ≤ 65536) (hb : 0 ≤ b) (hb' : b < 2147483647)
    (dp un : Nat) (gd : Option (List Code)) (cn : Str) (cs : Scope) (ad : Addr) (ccd : Value) (cl : List (Str × Addr)) (outer : List Env) (A₀ : Around) (base h₀ : Heap) (L : Addr) (m : Str → Option Value) (s : Shared) (Q E : Value → Shared → Prop)
    (B : Below A₀ base outer h₀) (F : Fr h₀ L s.heap m) (X : (heapK w.params).In h₀) (T : Top p loose mean mg mb h₀) (hk : cs.kind = .function) (N : News h₀ L s.heap news) (hU : ∀ o', Upd x (srcO a b ta tb n) o' news (upd o'))
    (hd : dp + 1 < recursionLimit) (hu : un + 8 < cLine)
    (hret : ∀ v t a' b' ta' tb' n' h' tk', 0 ≤ v → v < top → 0 ≤ b' → b' < 2147483647 → Fr h₀ L h' m → News h₀ L h' (upd (srcO a' b' ta' tb' n')) → Q (.int v t) { s with heap := h', toks := tk' }) :
    wpAny (model PySem.Challenge.rw_pc0360_01.row.prog w) (ktrTop dp un gd cn cs L ad ccd cl outer) (PySem.call (.ref 183) [.ref x, .int top tt]) Q E s :=
  take_spec others_ne h1 h2 hb hb' dp un gd cn cs ad ccd cl outer A₀ base h₀ L m s Q E B F X T hk (news_front (hU (srcO a b ta tb n)) N) hd hu
    fun v t a' b' ta' tb' n' h' tk' p1 p2 p3 p4 F' N' => hret v t a' b' ta' tb' n' h' tk' p1 p2 p3 p4 F' (news_back (hU _) N')

theorem one_upd {w : World} {p : Program} {loose : List Str} {mean : ExcName → Option Value} {mg mb : Str → Option Value}
    {x : Addr} {a b : Int} {ta tb : Tok} {n : Nat} {news : Led} {upd : Obj → Led} {th : Addr} {vs : List Value} {ns : List Int} {k : Nat}
    (hi : IntsAre vs ns) (hl : 1 ≤ ns.length) (hl2 : ns.length ≤ 65536)
    (hb : 0 ≤ b) (hb' : b < 2147483647)
    (dp un : Nat) (gd : Option (List Code)) (cn : Str) (cs : Scope) (ad : Addr) (ccd : Value) (cl : List (Str × Addr)) (outer : List Env) (A₀ : Around) (base h₀ : Heap) (L : Addr) (m : Str → Option Value) (s : Shared) (Q E : Value → Shared → Prop)
    (B : Below A₀ base outer h₀) (F : Fr h₀ L s.heap m) (X : (heapK w.params).In h₀) (T : Top p loose mean mg mb h₀) (hk : cs.kind = .function) (N : News h₀ L s.heap news) (hU : ∀ o', Upd x (srcO a b ta tb n) o' news (upd o')) (hth : x < th) (hm : (th, listOf vs.toArray k) ∈ news)
    (hd : dp + 2 < recursionLimit) (hu : un + 16 < cLine)
    (hret : ∀ v t a' b' ta' tb' n' h' tk', v ∈ ns → 0 ≤ b' → b' < 2147483647 → Fr h₀ L h' m → News h₀ L h' (upd (srcO a' b' ta' tb' n')) → Q (.int v t) { s with heap := h', toks := tk' }) :
    wpAny (model PySem.Challenge.rw_pc0360_01.row.prog w) (ktrTop dp un gd cn cs L ad ccd cl outer) (PySem.call (.ref 190) [.ref x, .ref th]) Q E s :=
  one_spec (rest := others x news) hth others_ne hi hl hl2 hb hb' dp un gd cn cs ad ccd cl outer A₀ base h₀ L m s Q E B F X T hk
    (fun p hp => by
      rcases List.mem_cons.mp hp with rfl | hp
      · exact N _ (upd_old (hU (srcO a b ta tb n)))
      · rcases List.mem_cons.mp hp with rfl | hp
        · exact N _ hm
        · exact N _ (List.mem_filter.mp hp).1) hd hu
    fun v t a' b' ta' tb' n' h' tk' p1 p3 p4 F' N' => hret v t a' b' ta' tb' n' h' tk' p1 p3 p4 F' (news_back (hU _) N')
theorem lt_of_all {d a : Addr} {o : Obj} : ∀ {l : Led}, AllLt d l → (a, o) ∈ l → @LT.lt Nat _ a d
  | [], _, h => nomatch h
  | p :: r, h, m => by
    rcases List.mem_cons.mp m with rfl | m
    · exact h.1
    · exact lt_of_all h.2 m
theorem ne_r {d a : Addr} {o : Obj} {l : Led} (h : AllLt d l) (m : (a, o) ∈ l) : @Ne Nat a d := Nat.ne_of_lt (lt_of_all h m)
theorem ne_l {d a : Addr} {o : Obj} {l : Led} (h : AllLt d l) (m : (a, o) ∈ l) : @Ne Nat d a := Nat.ne_of_gt (lt_of_all h m)
end Pc
end

section
open PySem PySem.W PySem.Spec PySem.Calls PyProof.Rows
namespace Pc
abbrev tupO (vs : List Value) : Obj := { cls := .type "tuple", data := .seq vs.toArray }
theorem news_cons {h₀ h : Heap} {L : Addr} {p : Addr × Obj} {l l' : Led} (N : News h₀ L h l) (hp : p ∈ l) (N' : News h₀ L h l') : News h₀ L h (p :: l') := fun q hq => by
  rcases List.mem_cons.mp hq with rfl | hq
  · exact N _ hp
  · exact N' _ hq
theorem news_tail {h₀ h : Heap} {L : Addr} {p : Addr × Obj} {l : Led} (N : News h₀ L h (p :: l)) : News h₀ L h l := fun q hq => N q (.tail _ hq)
local macro_rules | `(tactic| k_all) => `(tactic| assumption)
local macro_rules | `(tactic| k_lt $h:ident) => `(tactic| (replace $h := allLt_of $h))
local macro_rules | `(tactic| k_ne) => `(tactic| (refine neN ?_; (try dsimp only); first | with_reducible assumption | with_reducible exact Ne.symm (by with_reducible assumption) | with_reducible exact Nat.ne_of_lt (by with_reducible assumption) | with_reducible exact Nat.ne_of_gt (by with_reducible assumption) | exact ne_r (by assumption) (by k_mem) | exact ne_l (by assumption) (by k_mem) | omega | (simp only [AllLt, and_true] at *; omega)))

set_option maxRecDepth 100000 in
set_option maxHeartbeats 4000000 in
theorem info_spec {w : World} {p : Program} {loose : List Str} {mean : ExcName → Option Value} {mg mb : Str → Option Value}
    {x : Addr} {a b : Int} {ta tb : Tok} {n : Nat} {rest : Led} (hrest : ∀ q ∈ rest, q.1 ≠ x)
    (hb : 0 ≤ b) (hb' : b < 2147483647)
    (dp un : Nat) (gd : Option (List Code)) (cn : Str) (cs : Scope) (ad : Addr) (ccd : Value) (cl : List (Str × Addr)) (outer : List Env) (A₀ : Around) (base h₀ : Heap) (L : Addr) (m : Str → Option Value) (s : Shared) (Q E : Value → Shared → Prop)
    (B : Below A₀ base outer h₀) (F : Fr h₀ L s.heap m) (X : (heapK w.params).In h₀) (T : Top p loose mean mg mb h₀) (hk : cs.kind = .function) (N : News h₀ L s.heap ((x, srcO a b ta tb n) :: rest))
    (hd : dp + 3 < recursionLimit) (hu : un + 24 < cLine)
    (hret : ∀ (ti sy po : Addr) (x0 x1 k p0 p1 st : Int) (t0 t1 t2 t3 t4 t5 : Tok) (a' b' : Int) (ta' tb' : Tok) (n' : Nat) (h' : Heap) (tk' : Nat),
      News h₀ L h' ((ti, tupO [.ref sy, .int k t2, .ref po, .int st t5]) :: (sy, tupO [.int x0 t0, .int x1 t1]) :: (po, tupO [.int p0 t3, .int p1 t4]) :: (x, srcO a' b' ta' tb' n') :: rest) → Fr h₀ L h' m →
      @LT.lt Nat _ x ti → @LT.lt Nat _ x sy → @LT.lt Nat _ x po → 0 ≤ x0 → x0 < 65536 → 0 ≤ x1 → x1 < 281474976710656 → 0 ≤ k → k < 65536 → 0 ≤ p0 → p0 < 65536 → 0 ≤ p1 → p1 < 65536 → 0 ≤ st → st < 256 → 0 ≤ b' → b' < 2147483647 → Q (.ref ti) { s with heap := h', toks := tk' }) :
    wpAny (model PySem.Challenge.rw_pc0360_01.row.prog w) (ktrTop dp un gd cn cs L ad ccd cl outer) (PySem.call (.ref 197) [.ref x]) Q E s := by
  k_with_none
  k_with "call ref" => (k_here; (with_reducible show wpAny _ _ (PySem.call (Value.ref 183) [_, _]) _ _ _); k_dflt (refine' take_upd ?_ ?_ ?_ ?_ _ _ _ _ _ _ _ _ _ _ _ _ _ _ _ _ _ ?_ ?_ ?_ ?_ ?_ ?_ ?_ ?_ ?_ ?_; rotate_right 10; (focus ((k_asm); done)); (focus ((k_asm); done)); (focus ((k_asm); done)); (focus ((k_asm); done)); (focus ((first | rfl | assumption); done)); (focus ((k_asm); done)); (focus (((intro o9; k_upd)); done)); (focus ((ktr_room); done)); (focus ((ktr_units); done)); (all_goals skip); rotate_right 4; (focus ((first | assumption | omega | (simp only [List.mem_cons, List.not_mem_nil, or_false] at *; omega)); done)); (focus ((first | assumption | omega | (simp only [List.mem_cons, List.not_mem_nil, or_false] at *; omega)); done)); (focus ((first | assumption | omega | (simp only [List.mem_cons, List.not_mem_nil, or_false] at *; omega)); done)); (focus ((first | assumption | omega | (simp only [List.mem_cons, List.not_mem_nil, or_false] at *; omega)); done)); k_whole; intro v9 t9 a9 b9 ta9 tb9 n9 h9 tk9 hv9 hv9' hb9 hb9' F9 N9; (try dsimp only at N9); (try k_sweep); (try dsimp only); (try k_fold)))
  k_with "call ref" => (k_here; (with_reducible show wpAny _ _ (PySem.call (Value.ref 190) [_, _]) _ _ _); k_dflt (refine' one_upd ?_ ?_ ?_ ?_ ?_ _ _ _ _ _ _ _ _ _ _ _ _ _ _ _ _ _ ?_ ?_ ?_ ?_ ?_ ?_ ?_ ?_ ?_ ?_ ?_ ?_; rotate_right 12; (focus ((k_asm); done)); (focus ((k_asm); done)); (focus ((k_asm); done)); (focus ((k_asm); done)); (focus ((first | rfl | assumption); done)); (focus ((k_asm); done)); (focus (((intro o9; k_upd)); done)); rotate_left 1; (focus ((k_mem); done)); rotate_right 1; (focus ((first | exact lt_of_all (by assumption) (by k_mem) | (refine ltN ?_; omega)); done)); (focus ((ktr_room); done)); (focus ((ktr_units); done)); (all_goals skip); rotate_right 5; (focus ((repeat constructor); done)); (focus (((simp only [List.length_cons, List.length_nil]; omega)); done)); (focus (((simp only [List.length_cons, List.length_nil]; omega)); done)); (focus ((first | assumption | omega | (simp only [List.mem_cons, List.not_mem_nil, or_false] at *; omega)); done)); (focus ((first | assumption | omega | (simp only [List.mem_cons, List.not_mem_nil, or_false] at *; omega)); done)); k_whole; intro v9 t9 a9 b9 ta9 tb9 n9 h9 tk9 hv9 hb9 hb9' F9 N9; (try dsimp only at N9); (try k_sweep); (try dsimp only); (try k_fold)))
  revert X; k_fill; w_top off; intro X
  refine wpAny_call ?_
  k_dflt ktr_enter
  k_steps
  rename News h₀ L _ _ => NN
  refine' hret _ _ _ _ _ _ _ _ _ _ _ _ _ _ _ _ _ _ _ _ _ _ (news_cons NN (by k_mem) (news_cons NN (by k_mem) (news_cons NN (by k_mem) (news_cons NN (by k_mem) ?N)))) ?F ?_ ?_ ?_ ?_ ?_ ?_ ?_ ?_ ?_ ?_ ?_ ?_ ?_ ?_ ?_ ?_ ?_
  case N => repeat (first | exact NN | (replace NN := news_tail NN))
  case F => assumption
  all_goals first | exact lt_of_all (by assumption) (by k_mem) | omega | (simp only [List.mem_cons, List.not_mem_nil, or_false, Int.reduceToNat, Int.reducePow, Int.reduceSub] at *; omega)
end Pc
end

section
open PySem PySem.W PySem.Spec PySem.Calls PyProof.Rows
namespace Pc
def SrcD (prog : Program) (w : World) (A : Around) (h₀ : Heap) (L : Addr) (m : Str → Option Value) (env : Env) (elt : Expr) (x : Str) (scope : Scope) (cl : List (Str × Addr)) (Q : Value → Shared → Prop) (xv : Value) (s₁ : Shared) : Prop :=
  ∃ r a b t u v n news, xv = .ref r ∧ A.handled = none ∧ Fr h₀ L s₁.heap m ∧ News h₀ L s₁.heap news ∧ IsRange s₁.heap r a b (-1) t u v ∧ Builtin.Range.small a b (-1) = true ∧ Builtin.Range.rangeSize a b (-1) = ((n : Nat) : Int) ∧ n ≤ sizeLine ∧
    ∀ s₂ : Shared, (∃ h, s₂ = { s₁ with heap := h }) → LCg.CompRest prog w A h₀ L m env elt x scope cl s₂ (fun _ => True) (fun i v => ∃ t, v = .int (a - (i : Int)) t) (LCg.FinE h₀ L m s₂ Q) n 0 [] news
theorem down_walks {prog : Program} {w : World} {A : Around} {I : Addr} (hh : A.handled = none) (a : Int) (n : Nat) : Walks prog w A I [I] [I] n (fun i v => ∃ t, v = .int (a - (i : Int)) t) (fun i h => IsRangeIter h I (a + (i : Nat) * (-1)) ((n : Int) - (i : Nat)) (-1)) :=
  let W : Walks prog w A I [I] [I] n (fun i v => i < n ∧ ∃ t, v = .int (a + i * (-1)) t) (fun i h => IsRangeIter h I (a + (i : Nat) * (-1)) ((n : Int) - (i : Nat)) (-1)) := (Walks.range hh I a (-1) n).bound
  { sub := W.sub, frame := W.frame, done := W.done, self := W.self,
    item := fun i s Q E hi st hQ => W.item i s Q E hi st fun v h' tk hP => hQ v h' tk (by
      obtain ⟨_, t, rfl⟩ := hP
      exact ⟨t, by rw [show a - (i : Int) = a + i * (-1) by omega]⟩) }
theorem down_st {I L : Addr} {h₀ : Heap} {a : Int} {n : Nat} : ∀ i (h h' : Heap) (o : Obj) (nw : Led), IsRangeIter h I (a + (i : Nat) * (-1)) ((n : Int) - (i : Nat)) (-1) → h.get? I = some o → h'.get? I = some o → (∀ b o, h₀.get? b = some o → h'.get? b = some o) → News h₀ L h' nw → True → IsRangeIter h' I (a + (i : Nat) * (-1)) ((n : Int) - (i : Nat)) (-1) :=
  fun i h h' o nw st e e' _ _ _ => by
    have st' : h.get? I = some _ := st
    show h'.get? I = some _
    rw [e', ← e]; exact st'
theorem listComp_down {prog : Program} {w : World} {A : Around} {E : Value → Shared → Prop} {s : Shared} {h₀ : Heap} {L : Addr} {m : Str → Option Value} {env : Env}
    {elt iter : Expr} {x : Str} {px : Pos} {scope : Scope} {cl : List (Str × Addr)} {pos : Pos} {Q : Value → Shared → Prop} (F₀ : Fr h₀ L s.heap m)
    (hclos : closureFor scope env = pure cl) (hcell : ∀ y ∈ scope.names, y.2 ≠ .cell) (hkind : scope.kind = .function)
    (hnames : ∀ y ∈ scope.names, y.2 = .local → scope.names.lookup y.1 = some .local) (hx : scope.names.lookup x = some .local)
    (h : wpAny (model prog w) A (eval iter env) (SrcD prog w A h₀ L m env elt x scope cl Q) E s)
    (hs : ∀ x, foldedSetIterable iter env x = pure x := by intro _; rfl) :
    wpAny (model prog w) A (eval (.ListComp elt [⟨.Name x px, iter, [], 0⟩] scope pos) env) Q E s := by
  rw [eval_ListComp]
  refine wpAny_comprehension_free (use := none) rfl hs hclos hkind hnames (wpAny_mono h (fun xv s₁ h₁ => ?_) fun _ _ e => e)
  obtain ⟨r, a, b, t, u, v, n, news, rfl, hh, F, N, hr, hsm, hn, hsz, R⟩ := h₁
  refine wpAny_pyIter_range hr hsm ?_
  refine LCg.block_U (down_walks hh a n) hsz (fun i h st => ⟨_, st⟩) down_st hcell hkind hx (by show IsRangeIter _ _ _ _ _; rw [hn]; simpa using Heap.get?_push_size _ rfl) (fun b hb => ?_)
    (F.keeps fun _ _ e => Heap.get?_push_of_some _ e) (N.grown fun _ _ e => Heap.get?_push_of_some _ e) (Nat.ne_of_lt F.ns.lt) (next_is_new F) (fun p hp => Nat.ne_of_lt (Heap.lt_size (N p hp).1)) trivial (R _ ⟨_, rfl⟩) ?_
  · rw [List.mem_singleton.mp hb]
    show s₁.heap.objs.size < (s₁.heap.push _).objs.size
    rw [Heap.size_push]; exact Nat.lt_succ_self _
  · intro D C h tk m' ys news' F' N' o1 hn hC₀ hD₀ hCL hDL hCD offC fin
    refine ⟨m', hn, fun h'' hs'' => fin D h'' tk (F'.change hs'' hCL hC₀) (fun p hp => ?_) o1⟩
    refine ⟨hs''.extBut _ _ ?_ (N' p hp).1, (N' p hp).2⟩
    rcases List.mem_cons.mp hp with rfl | hp
    · exact Ne.symm hCD
    · exact offC p hp
end Pc
end

section
open PySem PySem.W PySem.Spec PySem.Calls PyProof.Rows
namespace Pc
theorem in_nil : KBa.In [] := fun _ h => nomatch h
theorem in_cons {a : Int} {l : List Int} (h0 : 0 ≤ a) (h1 : a < 256) (h : KBa.In l) : KBa.In (a :: l) := fun n hn => by
  rcases List.mem_cons.mp hn with rfl | hn
  · exact ⟨h0, h1⟩
  · exact h n hn
theorem b255_lo (x : Int) : 0 ≤ Builtin.bitAnd x 255 := by rw [bitAnd_m8]; omega
theorem b255_hi (x : Int) : Builtin.bitAnd x 255 < 256 := by rw [bitAnd_m8]; omega

set_option maxRecDepth 100000 in
set_option maxHeartbeats 4000000 in
theorem put_spec2 {w : World} {p : Program} {loose : List Str} {mean : ExcName → Option Value} {mg mb : Str → Option Value}
    {v : Int} {t u : Tok} {news : Led} (hv : 0 ≤ v) (hv' : v < 65536)
    (dp un : Nat) (gd : Option (List Code)) (cn : Str) (cs : Scope) (ad : Addr) (ccd : Value) (cl : List (Str × Addr)) (outer : List Env) (A₀ : Around) (base h₀ : Heap) (L : Addr) (m : Str → Option Value) (s : Shared) (Q E : Value → Shared → Prop)
    (B : Below A₀ base outer h₀) (F : Fr h₀ L s.heap m) (X : (heapK w.params).In h₀) (T : Top p loose mean mg mb h₀) (hk : cs.kind = .function) (N : News h₀ L s.heap news)
    (hd : dp + 3 < recursionLimit) (hu : un + 24 < cLine)
    (hret : ∀ (b : Array UInt8) (t' : Tok) (h' : Heap) (tk' : Nat),
      News h₀ L h' news → Fr h₀ L h' m → KBw.bInts b = [v / 256, v % 256] → Q (.bytes b t') { s with heap := h', toks := tk' }) :
    wpAny (model PySem.Challenge.rw_pc0360_01.row.prog w) (ktrTop dp un gd cn cs L ad ccd cl outer) (PySem.call (.ref 63) [.int v t, .int 2 u]) Q E s := by
  k_with_none
  k_with "CompEnd" => (k_dflt (refine LCg.CompEnd.intro (by assumption) (by assumption) _ (fun _ h => h) (by assumption) True.intro ?_))
  k_with "call type:bytes" => (k_here; (with_reducible show wpAny _ _ (PySem.call (Value.type "bytes") [Value.ref _]) _ _ _); k_dflt (refine' KBa.make_K ?_ ?_ ?_ ?_ ?_ ?_ ?_ ?_; rotate_right 8; (focus ((k_asm); done)); (focus ((k_asm); done)); (focus ((rfl); done)); (focus ((exact News.isList (by k_asm) (by k_mem)); done)); (focus ((repeat constructor); done)); (focus (((repeat' (first | exact in_nil | refine in_cons ?_ ?_ ?_)) <;> (first | exact b255_lo _ | exact b255_hi _ | omega)); done)); (focus (((simp only [List.length_cons, List.length_nil]; omega)); done))); intro _ _ _ F' N' kbaIn; (try k_sweep); (try dsimp only); (try k_fold))
  revert X; k_fill; w_top off; intro X
  refine wpAny_call ?_
  k_dflt (refine' code_defC ?k1 ?k2 ?k3 ?k4 ?k5 ?kA ?kF ?kK ?k6 ?k7 ?k8 ?k9 ?kB ?kD ?_ ?c2 ?c3 ?c4; (case kA => exact rfl); (case kF => exact rfl); (case kK => assumption); (case k1 => k_asm); (case k2 => k_asm); (case k3 => k_asm); (case k4 => k_asm); (case k5 => k_asm); (case k6 => k_is); (case k7 => k_is); (case k8 => ktr_room); (case k9 => exact BindsTo.of_eq rfl); (case kB => exact rfl); (case kD => decide +kernel); (case c2 => exact rfl); (case c3 => exact rfl); (case c4 => exact rfl); k_whole; intro g' L' h' tk' cells' FG' F' N' Y' B' X' T' l1; (try k_lt l1); k_cells Y'; (try simp only [List.cons_append, List.nil_append] at N'); (try dsimp only); (try k_lift B'); (try k_fold))
  repeat (first | (k_dflt (refine listComp_down (F₀ := by k_asm) (by with_unfolding_all rfl) (by decide) (by rfl) (by decide) (by rfl) ?_)) | (k_unfold; (try dsimp only)) | walk1 | (dsimp only; walk1))
  · refine ⟨_, _, _, _, _, _, 2, _, rfl, rfl, by assumption, by assumption, by assumption, by decide, by decide, by decide, ?_⟩
    rintro _ ⟨g, rfl⟩
    k_steps
    refine hret _ _ _ _ (by (rename News h₀ L _ _ => NN); repeat (first | exact NN | (replace NN := news_tail NN))) (by assumption) ((KBa.ints_make (by assumption)).trans ?_)
    simp [Int.fdiv_eq_ediv_of_nonneg, bitAnd_m8]
    omega
  · exfalso
    simp only [Int.reduceMul, Int.reduceToNat, Int.reducePow] at *; omega
set_option maxRecDepth 100000 in
set_option maxHeartbeats 4000000 in
theorem put_spec6 {w : World} {p : Program} {loose : List Str} {mean : ExcName → Option Value} {mg mb : Str → Option Value}
    {v : Int} {t u : Tok} {news : Led} (hv : 0 ≤ v) (hv' : v < 281474976710656)
    (dp un : Nat) (gd : Option (List Code)) (cn : Str) (cs : Scope) (ad : Addr) (ccd : Value) (cl : List (Str × Addr)) (outer : List Env) (A₀ : Around) (base h₀ : Heap) (L : Addr) (m : Str → Option Value) (s : Shared) (Q E : Value → Shared → Prop)
    (B : Below A₀ base outer h₀) (F : Fr h₀ L s.heap m) (X : (heapK w.params).In h₀) (T : Top p loose mean mg mb h₀) (hk : cs.kind = .function) (N : News h₀ L s.heap news)
    (hd : dp + 3 < recursionLimit) (hu : un + 24 < cLine)
    (hret : ∀ (b : Array UInt8) (t' : Tok) (h' : Heap) (tk' : Nat),
      News h₀ L h' news → Fr h₀ L h' m → KBw.bInts b = [v / 1099511627776, v / 4294967296 % 256, v / 16777216 % 256, v / 65536 % 256, v / 256 % 256, v % 256] → Q (.bytes b t') { s with heap := h', toks := tk' }) :
    wpAny (model PySem.Challenge.rw_pc0360_01.row.prog w) (ktrTop dp un gd cn cs L ad ccd cl outer) (PySem.call (.ref 63) [.int v t, .int 6 u]) Q E s := by
  k_with_none
  k_with "CompEnd" => (k_dflt (refine LCg.CompEnd.intro (by assumption) (by assumption) _ (fun _ h => h) (by assumption) True.intro ?_))
  k_with "call type:bytes" => (k_here; (with_reducible show wpAny _ _ (PySem.call (Value.type "bytes") [Value.ref _]) _ _ _); k_dflt (refine' KBa.make_K ?_ ?_ ?_ ?_ ?_ ?_ ?_ ?_; rotate_right 8; (focus ((k_asm); done)); (focus ((k_asm); done)); (focus ((rfl); done)); (focus ((exact News.isList (by k_asm) (by k_mem)); done)); (focus ((repeat constructor); done)); (focus (((repeat' (first | exact in_nil | refine in_cons ?_ ?_ ?_)) <;> (first | exact b255_lo _ | exact b255_hi _ | omega)); done)); (focus (((simp only [List.length_cons, List.length_nil]; omega)); done))); intro _ _ _ F' N' kbaIn; (try k_sweep); (try dsimp only); (try k_fold))
  revert X; k_fill; w_top off; intro X
  refine wpAny_call ?_
  k_dflt (refine' code_defC ?k1 ?k2 ?k3 ?k4 ?k5 ?kA ?kF ?kK ?k6 ?k7 ?k8 ?k9 ?kB ?kD ?_ ?c2 ?c3 ?c4; (case kA => exact rfl); (case kF => exact rfl); (case kK => assumption); (case k1 => k_asm); (case k2 => k_asm); (case k3 => k_asm); (case k4 => k_asm); (case k5 => k_asm); (case k6 => k_is); (case k7 => k_is); (case k8 => ktr_room); (case k9 => exact BindsTo.of_eq rfl); (case kB => exact rfl); (case kD => decide +kernel); (case c2 => exact rfl); (case c3 => exact rfl); (case c4 => exact rfl); k_whole; intro g' L' h' tk' cells' FG' F' N' Y' B' X' T' l1; (try k_lt l1); k_cells Y'; (try simp only [List.cons_append, List.nil_append] at N'); (try dsimp only); (try k_lift B'); (try k_fold))
  repeat (first | (k_dflt (refine listComp_down (F₀ := by k_asm) (by with_unfolding_all rfl) (by decide) (by rfl) (by decide) (by rfl) ?_)) | (k_unfold; (try dsimp only)) | walk1 | (dsimp only; walk1))
  · refine ⟨_, _, _, _, _, _, 6, _, rfl, rfl, by assumption, by assumption, by assumption, by decide, by decide, by decide, ?_⟩
    rintro _ ⟨g, rfl⟩
    k_steps
    refine hret _ _ _ _ (by (rename News h₀ L _ _ => NN); repeat (first | exact NN | (replace NN := news_tail NN))) (by assumption) ((KBa.ints_make (by assumption)).trans ?_)
    simp [Int.fdiv_eq_ediv_of_nonneg, bitAnd_m8]
    omega
  · exfalso
    simp only [Int.reduceMul, Int.reduceToNat, Int.reducePow] at *; omega

set_option maxRecDepth 100000 in
set_option maxHeartbeats 4000000 in
theorem put16_spec {w : World} {p : Program} {loose : List Str} {mean : ExcName → Option Value} {mg mb : Str → Option Value}
    {v : Int} {t : Tok} {news : Led} (hv : 0 ≤ v) (hv' : v < 65536)
    (dp un : Nat) (gd : Option (List Code)) (cn : Str) (cs : Scope) (ad : Addr) (ccd : Value) (cl : List (Str × Addr)) (outer : List Env) (A₀ : Around) (base h₀ : Heap) (L : Addr) (m : Str → Option Value) (s : Shared) (Q E : Value → Shared → Prop)
    (B : Below A₀ base outer h₀) (F : Fr h₀ L s.heap m) (X : (heapK w.params).In h₀) (T : Top p loose mean mg mb h₀) (hk : cs.kind = .function) (N : News h₀ L s.heap news)
    (hd : dp + 4 < recursionLimit) (hu : un + 32 < cLine)
    (hret : ∀ (b : Array UInt8) (t' : Tok) (h' : Heap) (tk' : Nat),
      News h₀ L h' news → Fr h₀ L h' m → KBw.bInts b = [v / 256, v % 256] → Q (.bytes b t') { s with heap := h', toks := tk' }) :
    wpAny (model PySem.Challenge.rw_pc0360_01.row.prog w) (ktrTop dp un gd cn cs L ad ccd cl outer) (PySem.call (.ref 77) [.int v t]) Q E s := by
  k_with_none
  k_with "CompEnd" => (k_dflt (refine LCg.CompEnd.intro (by assumption) (by assumption) _ (fun _ h => h) (by assumption) True.intro ?_))
  k_with "call type:bytes" => (k_here; (with_reducible show wpAny _ _ (PySem.call (Value.type "bytes") [Value.ref _]) _ _ _); k_dflt (refine' KBa.make_K ?_ ?_ ?_ ?_ ?_ ?_ ?_ ?_; rotate_right 8; (focus ((k_asm); done)); (focus ((k_asm); done)); (focus ((rfl); done)); (focus ((exact News.isList (by k_asm) (by k_mem)); done)); (focus ((repeat constructor); done)); (focus (((repeat' (first | exact in_nil | refine in_cons ?_ ?_ ?_)) <;> (first | exact b255_lo _ | exact b255_hi _ | omega)); done)); (focus (((simp only [List.length_cons, List.length_nil]; omega)); done))); intro _ _ _ F' N' kbaIn; (try k_sweep); (try dsimp only); (try k_fold))
  k_with "call ref" => (k_here; (with_reducible show wpAny _ _ (PySem.call (Value.ref 63) [_, Value.int 2 _]) _ _ _); k_dflt (refine' put_spec2 ?_ ?_ _ _ _ _ _ _ _ _ _ _ _ _ _ _ _ _ _ ?_ ?_ ?_ ?_ ?_ ?_  ?_ ?_ ?_; rotate_right 9; (focus ((k_asm); done)); (focus ((k_asm); done)); (focus ((k_asm); done)); (focus ((k_asm); done)); (focus ((first | rfl | assumption); done)); (focus ((k_asm); done)); (focus ((ktr_room); done)); (focus ((ktr_units); done)); (all_goals skip); rotate_right 2; (focus ((first | assumption | omega); done)); (focus ((first | assumption | omega); done)); k_whole; intro b9 t9 h9 tk9 N9 F9 hb9; (try k_sweep); (try dsimp only); (try k_fold)))
  k_with "call ref" => (k_here; (with_reducible show wpAny _ _ (PySem.call (Value.ref 63) [_, Value.int 6 _]) _ _ _); k_dflt (refine' put_spec6 ?_ ?_ _ _ _ _ _ _ _ _ _ _ _ _ _ _ _ _ _ ?_ ?_ ?_ ?_ ?_ ?_  ?_ ?_ ?_; rotate_right 9; (focus ((k_asm); done)); (focus ((k_asm); done)); (focus ((k_asm); done)); (focus ((k_asm); done)); (focus ((first | rfl | assumption); done)); (focus ((k_asm); done)); (focus ((ktr_room); done)); (focus ((ktr_units); done)); (all_goals skip); rotate_right 2; (focus ((first | assumption | omega); done)); (focus ((first | assumption | omega); done)); k_whole; intro b9 t9 h9 tk9 N9 F9 hb9; (try k_sweep); (try dsimp only); (try k_fold)))
  revert X; k_fill; w_top off; intro X
  refine wpAny_call ?_
  k_dflt ktr_enter
  k_steps
  exact hret _ _ _ _ (by (rename News h₀ L _ _ => NN); repeat (first | exact NN | (replace NN := news_tail NN))) (by assumption) (by assumption)

set_option maxRecDepth 100000 in
set_option maxHeartbeats 4000000 in
theorem put48_spec {w : World} {p : Program} {loose : List Str} {mean : ExcName → Option Value} {mg mb : Str → Option Value}
    {v : Int} {t : Tok} {news : Led} (hv : 0 ≤ v) (hv' : v < 281474976710656)
    (dp un : Nat) (gd : Option (List Code)) (cn : Str) (cs : Scope) (ad : Addr) (ccd : Value) (cl : List (Str × Addr)) (outer : List Env) (A₀ : Around) (base h₀ : Heap) (L : Addr) (m : Str → Option Value) (s : Shared) (Q E : Value → Shared → Prop)
    (B : Below A₀ base outer h₀) (F : Fr h₀ L s.heap m) (X : (heapK w.params).In h₀) (T : Top p loose mean mg mb h₀) (hk : cs.kind = .function) (N : News h₀ L s.heap news)
    (hd : dp + 4 < recursionLimit) (hu : un + 32 < cLine)
    (hret : ∀ (b : Array UInt8) (t' : Tok) (h' : Heap) (tk' : Nat),
      News h₀ L h' news → Fr h₀ L h' m → KBw.bInts b = [v / 1099511627776, v / 4294967296 % 256, v / 16777216 % 256, v / 65536 % 256, v / 256 % 256, v % 256] → Q (.bytes b t') { s with heap := h', toks := tk' }) :
    wpAny (model PySem.Challenge.rw_pc0360_01.row.prog w) (ktrTop dp un gd cn cs L ad ccd cl outer) (PySem.call (.ref 84) [.int v t]) Q E s := by
  k_with_none
  k_with "CompEnd" => (k_dflt (refine LCg.CompEnd.intro (by assumption) (by assumption) _ (fun _ h => h) (by assumption) True.intro ?_))
  k_with "call type:bytes" => (k_here; (with_reducible show wpAny _ _ (PySem.call (Value.type "bytes") [Value.ref _]) _ _ _); k_dflt (refine' KBa.make_K ?_ ?_ ?_ ?_ ?_ ?_ ?_ ?_; rotate_right 8; (focus ((k_asm); done)); (focus ((k_asm); done)); (focus ((rfl); done)); (focus ((exact News.isList (by k_asm) (by k_mem)); done)); (focus ((repeat constructor); done)); (focus (((repeat' (first | exact in_nil | refine in_cons ?_ ?_ ?_)) <;> (first | exact b255_lo _ | exact b255_hi _ | omega)); done)); (focus (((simp only [List.length_cons, List.length_nil]; omega)); done))); intro _ _ _ F' N' kbaIn; (try k_sweep); (try dsimp only); (try k_fold))
  k_with "call ref" => (k_here; (with_reducible show wpAny _ _ (PySem.call (Value.ref 63) [_, Value.int 2 _]) _ _ _); k_dflt (refine' put_spec2 ?_ ?_ _ _ _ _ _ _ _ _ _ _ _ _ _ _ _ _ _ ?_ ?_ ?_ ?_ ?_ ?_  ?_ ?_ ?_; rotate_right 9; (focus ((k_asm); done)); (focus ((k_asm); done)); (focus ((k_asm); done)); (focus ((k_asm); done)); (focus ((first | rfl | assumption); done)); (focus ((k_asm); done)); (focus ((ktr_room); done)); (focus ((ktr_units); done)); (all_goals skip); rotate_right 2; (focus ((first | assumption | omega); done)); (focus ((first | assumption | omega); done)); k_whole; intro b9 t9 h9 tk9 N9 F9 hb9; (try k_sweep); (try dsimp only); (try k_fold)))
  k_with "call ref" => (k_here; (with_reducible show wpAny _ _ (PySem.call (Value.ref 63) [_, Value.int 6 _]) _ _ _); k_dflt (refine' put_spec6 ?_ ?_ _ _ _ _ _ _ _ _ _ _ _ _ _ _ _ _ _ ?_ ?_ ?_ ?_ ?_ ?_  ?_ ?_ ?_; rotate_right 9; (focus ((k_asm); done)); (focus ((k_asm); done)); (focus ((k_asm); done)); (focus ((k_asm); done)); (focus ((first | rfl | assumption); done)); (focus ((k_asm); done)); (focus ((ktr_room); done)); (focus ((ktr_units); done)); (all_goals skip); rotate_right 2; (focus ((first | assumption | omega); done)); (focus ((first | assumption | omega); done)); k_whole; intro b9 t9 h9 tk9 N9 F9 hb9; (try k_sweep); (try dsimp only); (try k_fold)))
  revert X; k_fill; w_top off; intro X
  refine wpAny_call ?_
  k_dflt ktr_enter
  k_steps
  exact hret _ _ _ _ (by (rename News h₀ L _ _ => NN); repeat (first | exact NN | (replace NN := news_tail NN))) (by assumption) (by assumption)
end Pc
end

section
open PySem PySem.W PySem.Spec PySem.Calls PyProof.Rows
namespace Pc
abbrev num2 (v : Int) : List Int := [v / 256, v % 256]
abbrev infoRow (part x0 x1 k p0 p1 st : Int) : List Int := [part, 20, x0 / 256, x0 % 256, x1 / 1099511627776, x1 / 4294967296 % 256, x1 / 16777216 % 256, x1 / 65536 % 256, x1 / 256 % 256, x1 % 256, k / 256, k % 256, p0 / 256, p0 % 256, p1 / 256, p1 % 256, st, 0, 0, 0]
abbrev num6 (v : Int) : List Int := [v / 1099511627776, v / 4294967296 % 256, v / 16777216 % 256, v / 65536 % 256, v / 256 % 256, v % 256]

set_option maxRecDepth 100000 in
set_option maxHeartbeats 4000000 in
theorem packed_spec {w : World} {p : Program} {loose : List Str} {mean : ExcName → Option Value} {mg mb : Str → Option Value}
    {part : Int} {tp : Tok} {ti sy po : Addr} {x0 x1 k p0 p1 st : Int} {t0 t1 t2 t3 t4 t5 : Tok} {news : Led} (hp : 0 ≤ part) (hp' : part < 256)
    (h1 : 0 ≤ x0) (h2 : x0 < 65536) (h3 : 0 ≤ x1) (h4 : x1 < 281474976710656) (h5 : 0 ≤ k) (h6 : k < 65536) (h7 : 0 ≤ p0) (h8 : p0 < 65536) (h9 : 0 ≤ p1) (h10 : p1 < 65536) (h11 : 0 ≤ st) (h12 : st < 256)
    (m1 : (ti, tupO [.ref sy, .int k t2, .ref po, .int st t5]) ∈ news) (m2 : (sy, tupO [.int x0 t0, .int x1 t1]) ∈ news) (m3 : (po, tupO [.int p0 t3, .int p1 t4]) ∈ news)
    (dp un : Nat) (gd : Option (List Code)) (cn : Str) (cs : Scope) (ad : Addr) (ccd : Value) (cl : List (Str × Addr)) (outer : List Env) (A₀ : Around) (base h₀ : Heap) (L : Addr) (m : Str → Option Value) (s : Shared) (Q E : Value → Shared → Prop)
    (B : Below A₀ base outer h₀) (F : Fr h₀ L s.heap m) (X : (heapK w.params).In h₀) (T : Top p loose mean mg mb h₀) (hk : cs.kind = .function) (N : News h₀ L s.heap news)
    (hd : dp + 5 < recursionLimit) (hu : un + 40 < cLine)
    (hret : ∀ (b : Array UInt8) (t' : Tok) (h' : Heap) (tk' : Nat),
      News h₀ L h' news → Fr h₀ L h' m → KBw.bInts b = infoRow part x0 x1 k p0 p1 st → Q (.bytes b t') { s with heap := h', toks := tk' }) :
    wpAny (model PySem.Challenge.rw_pc0360_01.row.prog w) (ktrTop dp un gd cn cs L ad ccd cl outer) (PySem.call (.ref 148) [.int part tp, .ref ti]) Q E s := by
  k_with_none
  k_with "call type:bytes" => (k_here; (with_reducible show wpAny _ _ (PySem.call (Value.type "bytes") [Value.ref _]) _ _ _); k_dflt (refine' KBa.make_K ?_ ?_ ?_ ?_ ?_ ?_ ?_ ?_; rotate_right 8; (focus ((k_asm); done)); (focus ((k_asm); done)); (focus ((rfl); done)); (focus ((exact News.isList (by k_asm) (by k_mem)); done)); (focus ((repeat constructor); done)); (focus (((repeat' (first | exact in_nil | refine in_cons ?_ ?_ ?_)) <;> (first | exact b255_lo _ | exact b255_hi _ | omega)); done)); (focus (((simp only [List.length_cons, List.length_nil]; omega)); done))); intro _ _ _ F' N' kbaIn; (try k_sweep); (try dsimp only); (try k_fold))
  k_with "call ref" => (k_here; (with_reducible show wpAny _ _ (PySem.call (Value.ref 77) [_]) _ _ _); k_dflt (refine' put16_spec ?_ ?_ _ _ _ _ _ _ _ _ _ _ _ _ _ _ _ _ _ ?_ ?_ ?_ ?_ ?_ ?_  ?_ ?_ ?_; rotate_right 9; (focus ((k_asm); done)); (focus ((k_asm); done)); (focus ((k_asm); done)); (focus ((k_asm); done)); (focus ((first | rfl | assumption); done)); (focus ((k_asm); done)); (focus ((ktr_room); done)); (focus ((ktr_units); done)); (all_goals skip); rotate_right 2; (focus ((first | assumption | omega); done)); (focus ((first | assumption | omega); done)); k_whole; intro b9 t9 h9 tk9 N9 F9 hb9; (try k_sweep); (try dsimp only); (try k_fold)))
  k_with "call ref" => (k_here; (with_reducible show wpAny _ _ (PySem.call (Value.ref 84) [_]) _ _ _); k_dflt (refine' put48_spec ?_ ?_ _ _ _ _ _ _ _ _ _ _ _ _ _ _ _ _ _ ?_ ?_ ?_ ?_ ?_ ?_  ?_ ?_ ?_; rotate_right 9; (focus ((k_asm); done)); (focus ((k_asm); done)); (focus ((k_asm); done)); (focus ((k_asm); done)); (focus ((first | rfl | assumption); done)); (focus ((k_asm); done)); (focus ((ktr_room); done)); (focus ((ktr_units); done)); (all_goals skip); rotate_right 2; (focus ((first | assumption | omega); done)); (focus ((first | assumption | omega); done)); k_whole; intro b9 t9 h9 tk9 N9 F9 hb9; (try k_sweep); (try dsimp only); (try k_fold)))
  replace N := news_cons N m1 (news_cons N m2 (news_cons N m3 N))
  clear m1 m2 m3
  revert X; k_fill; w_top off; intro X
  refine wpAny_call ?_
  k_dflt ktr_enter
  k_steps
  exact hret _ _ _ _ (by (rename News h₀ L _ _ => NN); repeat (first | exact NN | (replace NN := news_tail NN))) (by assumption) (by (rename KBw.bInts _ = _ => e); exact e)
end Pc
end

section
open PySem PySem.W PySem.Spec PySem.Calls PyProof.Rows
namespace Pc
abbrev be2 (ks : List Int) (i : Int) : Int := (0 * 256 + ks.getD i.toNat 0) * 256 + ks.getD (i + 1).toNat 0
abbrev be6 (ks : List Int) (i : Int) : Int := (((((0 * 256 + ks.getD i.toNat 0) * 256 + ks.getD (i + 1).toNat 0) * 256 + ks.getD (i + 2).toNat 0) * 256 + ks.getD (i + 3).toNat 0) * 256 + ks.getD (i + 4).toNat 0) * 256 + ks.getD (i + 5).toNat 0
theorem off_of {news : Led} {I : Addr} (h : ∀ p ∈ news, p.1 < I) : ∀ p ∈ news, p.1 ≠ I := fun p hp => Nat.ne_of_lt (h p hp)
theorem clip_in {n : Nat} {i : Int} (h0 : 0 ≤ i) (h1 : i ≤ (n : Int)) : clipAt n i = i.toNat := by
  unfold clipAt
  split <;> omega
theorem take_succ_getD {ks : List Int} {j k : Nat} (h : j < ks.length) : List.take (k + 1) (List.drop j ks) = ks.getD j 0 :: List.take k (List.drop (j + 1) ks) := by
  rw [List.drop_eq_getElem_cons h, List.take_succ_cons, List.getD_eq_getElem?_getD, List.getElem?_eq_getElem h]
  rfl
theorem toNat_add {i : Int} (h : 0 ≤ i) (c : Nat) : (i + (c : Int)).toNat = i.toNat + c := by omega
theorem cut_all {ks : List Int} : ∀ (k n : Nat), n + k ≤ ks.length → List.take k (List.drop n ks) = (List.range k).map fun j => ks.getD (n + j) 0
  | 0, _, _ => rfl
  | k + 1, n, h => by
    rw [take_succ_getD (Nat.lt_of_lt_of_le (Nat.lt_add_of_pos_right (Nat.succ_pos k)) h), cut_all k (n + 1) (Nat.le_trans (Nat.le_of_eq (Nat.succ_add_eq_add_succ n k)) h), List.range_succ_eq_map, List.map_cons, List.map_map]
    refine congrArg (List.cons _) (List.map_congr_left fun j _ => ?_)
    exact congrArg (fun q => ks.getD q 0) (Nat.succ_add_eq_add_succ n j)
theorem cut_any {ks : List Int} {i : Int} (k : Nat) (h0 : 0 ≤ i) (h1 : i + (k : Int) ≤ (ks.length : Int)) : List.take (clipAt ks.length (i + (k : Int)) - clipAt ks.length i) (List.drop (clipAt ks.length i) ks) = (List.range k).map fun (j : Nat) => ks.getD (i + (j : Int)).toNat 0 := by
  have hl : i.toNat + k ≤ ks.length := by omega
  rw [clip_in h0 (by omega), clip_in (by omega) h1, toNat_add h0, Nat.add_sub_cancel_left, cut_all k _ hl]
  exact List.map_congr_left fun j _ => congrArg (fun q => ks.getD q 0) (toNat_add h0 j).symm
theorem cut2 {ks : List Int} {i : Int} (h0 : 0 ≤ i) (h1 : i + 2 ≤ (ks.length : Int)) : List.take (clipAt ks.length (i + 2) - clipAt ks.length i) (List.drop (clipAt ks.length i) ks) = [ks.getD i.toNat 0, ks.getD (i + 1).toNat 0] := by
  rw [show ks.getD i.toNat 0 = ks.getD (i + ((0 : Nat) : Int)).toNat 0 by rw [toNat_add h0]; rfl]
  exact cut_any 2 h0 h1
theorem cut6 {ks : List Int} {i : Int} (h0 : 0 ≤ i) (h1 : i + 6 ≤ (ks.length : Int)) : List.take (clipAt ks.length (i + 6) - clipAt ks.length i) (List.drop (clipAt ks.length i) ks) = [ks.getD i.toNat 0, ks.getD (i + 1).toNat 0, ks.getD (i + 2).toNat 0, ks.getD (i + 3).toNat 0, ks.getD (i + 4).toNat 0, ks.getD (i + 5).toNat 0] := by
  rw [show ks.getD i.toNat 0 = ks.getD (i + ((0 : Nat) : Int)).toNat 0 by rw [toNat_add h0]; rfl]
  exact cut_any 6 h0 h1
theorem and_low {c o : Nat} (h : o < 256) : (c * 256) &&& o = 0 := by
  apply Nat.eq_of_testBit_eq
  intro i
  rw [Nat.testBit_and, Nat.zero_testBit, show c * 256 = 2 ^ 8 * c by omega, Nat.testBit_two_pow_mul]
  by_cases hi : 8 ≤ i
  · rw [Nat.testBit_lt_two_pow (x := o) (Nat.lt_of_lt_of_le h (Nat.pow_le_pow_right (n := 2) (by decide) hi : 2 ^ 8 ≤ 2 ^ i)), Bool.and_false]
  · simp [hi]
theorem bor8 {c o : Int} (hc : 0 ≤ c) (h0 : 0 ≤ o) (h1 : o < 256) : Builtin.bitOr (c * 256) o = c * 256 + o := by
  rw [bitOr_and, bitAnd_pp (by omega) h0, show (c * 256).toNat = c.toNat * 256 by omega, and_low (by omega)]
  simp
theorem bor8_rule {prog : Program} {w : World} {A : Around} {E : Value → Shared → Prop} {s : Shared} {c o : Int} {t u : Tok} {Q : Value → Shared → Prop} (hc : 0 ≤ c) (h0 : 0 ≤ o) (h1 : o < 256)
    (h : Q (.int (c * 256 + o) s.toks) { s with toks := s.toks + 1 }) : wpAny (model prog w) A (binaryOp .BitOr (.int (c * 2 ^ Int.toNat 8) t) (.int o u)) Q E s := by
  have e : c * 2 ^ Int.toNat 8 = c * 256 := rfl
  rw [e]
  refine or_int ?_
  rw [bor8 hc h0 h1]
  exact h

set_option maxRecDepth 100000 in
set_option maxHeartbeats 4000000 in
theorem get_spec2 {w : World} {p : Program} {loose : List Str} {mean : ExcName → Option Value} {mg mb : Str → Option Value}
    {b : Array UInt8} {ks : List Int} {t ta tm : Tok} {i : Int} {news : Led} (hb : KBw.bInts b = ks) (h0 : 0 ≤ i) (h1 : i + 2 ≤ (ks.length : Int)) (h2 : ks.length ≤ 1000)
    (dp un : Nat) (gd : Option (List Code)) (cn : Str) (cs : Scope) (ad : Addr) (ccd : Value) (cl : List (Str × Addr)) (outer : List Env) (A₀ : Around) (base h₀ : Heap) (L : Addr) (m : Str → Option Value) (s : Shared) (Q E : Value → Shared → Prop)
    (B : Below A₀ base outer h₀) (F : Fr h₀ L s.heap m) (X : (heapK w.params).In h₀) (T : Top p loose mean mg mb h₀) (hk : cs.kind = .function) (N : News h₀ L s.heap news)
    (hd : dp + 3 < recursionLimit) (hu : un + 24 < cLine)
    (hret : ∀ (t' : Tok) (h' : Heap) (tk' : Nat),
      News h₀ L h' news → Fr h₀ L h' m → Q (.int (be2 ks i) t') { s with heap := h', toks := tk' }) :
    wpAny (model PySem.Challenge.rw_pc0360_01.row.prog w) (ktrTop dp un gd cn cs L ad ccd cl outer) (PySem.call (.ref 70) [.bytes b t, .int i ta, .int 2 tm]) Q E s := by
  k_with_none
  k_with "UnrEnd" => (k_dflt (refine UnrEnd.intro (by assumption) (by assumption) _ (fun _ h => h) (off_of (by assumption)) ?_))
  k_with "pyIter bytes" => ((rename KBw.bInts (KBy.picked _ _ _) = _ => hP); (replace hP := Eq.trans hP (cut2 (by assumption) (by assumption))); k_bytesUnr)
  k_with "binaryOp LShift int int" => ((with_reducible refine lshift_int_small (by decide) (by decide) ?_ ?_); rotate_right 2; (focus ((omega); done)))
  k_with "binaryOp BitOr int int" => (k_dflt (refine bor8_rule ?_ ?_ ?_ ?_; rotate_right 4; (focus ((omega); done)); (focus ((omega); done)); (focus ((omega); done))))
  k_with "exec For Name Subscript cons nil" => (k_here; (rename Fr _ _ _ _ => lF'); (with_unfolding_all refine' For_invVF lF' ?_ ?_ ?_; rotate_right 3; (focus ((exact rfl); done)); (focus ((exact rfl); done)); k_whole))
  revert X; k_fill; w_top off; intro X
  refine wpAny_call ?_
  k_dflt ktr_enter
  k_steps
  exact hret _ _ _ (by (rename News h₀ L _ _ => NN); repeat (first | exact NN | (replace NN := news_tail NN))) (by assumption)
set_option maxRecDepth 100000 in
set_option maxHeartbeats 4000000 in
theorem get_spec6 {w : World} {p : Program} {loose : List Str} {mean : ExcName → Option Value} {mg mb : Str → Option Value}
    {b : Array UInt8} {ks : List Int} {t ta tm : Tok} {i : Int} {news : Led} (hb : KBw.bInts b = ks) (h0 : 0 ≤ i) (h1 : i + 6 ≤ (ks.length : Int)) (h2 : ks.length ≤ 1000)
    (dp un : Nat) (gd : Option (List Code)) (cn : Str) (cs : Scope) (ad : Addr) (ccd : Value) (cl : List (Str × Addr)) (outer : List Env) (A₀ : Around) (base h₀ : Heap) (L : Addr) (m : Str → Option Value) (s : Shared) (Q E : Value → Shared → Prop)
    (B : Below A₀ base outer h₀) (F : Fr h₀ L s.heap m) (X : (heapK w.params).In h₀) (T : Top p loose mean mg mb h₀) (hk : cs.kind = .function) (N : News h₀ L s.heap news)
    (hd : dp + 3 < recursionLimit) (hu : un + 24 < cLine)
    (hret : ∀ (t' : Tok) (h' : Heap) (tk' : Nat),
      News h₀ L h' news → Fr h₀ L h' m → Q (.int (be6 ks i) t') { s with heap := h', toks := tk' }) :
    wpAny (model PySem.Challenge.rw_pc0360_01.row.prog w) (ktrTop dp un gd cn cs L ad ccd cl outer) (PySem.call (.ref 70) [.bytes b t, .int i ta, .int 6 tm]) Q E s := by
  k_with_none
  k_with "UnrEnd" => (k_dflt (refine UnrEnd.intro (by assumption) (by assumption) _ (fun _ h => h) (off_of (by assumption)) ?_))
  k_with "pyIter bytes" => ((rename KBw.bInts (KBy.picked _ _ _) = _ => hP); (replace hP := Eq.trans hP (cut2 (by assumption) (by assumption))); k_bytesUnr)
  k_with "binaryOp LShift int int" => ((with_reducible refine lshift_int_small (by decide) (by decide) ?_ ?_); rotate_right 2; (focus ((omega); done)))
  k_with "binaryOp BitOr int int" => (k_dflt (refine bor8_rule ?_ ?_ ?_ ?_; rotate_right 4; (focus ((omega); done)); (focus ((omega); done)); (focus ((omega); done))))
  k_with "exec For Name Subscript cons nil" => (k_here; (rename Fr _ _ _ _ => lF'); (with_unfolding_all refine' For_invVF lF' ?_ ?_ ?_; rotate_right 3; (focus ((exact rfl); done)); (focus ((exact rfl); done)); k_whole))
  k_with "pyIter bytes" => ((rename KBw.bInts (KBy.picked _ _ _) = _ => hP); (replace hP := Eq.trans hP (cut6 (by assumption) (by assumption))); k_bytesUnr)
  revert X; k_fill; w_top off; intro X
  refine wpAny_call ?_
  k_dflt ktr_enter
  k_steps
  exact hret _ _ _ (by (rename News h₀ L _ _ => NN); repeat (first | exact NN | (replace NN := news_tail NN))) (by assumption)

set_option maxRecDepth 100000 in
set_option maxHeartbeats 4000000 in
theorem get16_spec {w : World} {p : Program} {loose : List Str} {mean : ExcName → Option Value} {mg mb : Str → Option Value}
    {b : Array UInt8} {ks : List Int} {t ta : Tok} {i : Int} {news : Led} (hb : KBw.bInts b = ks) (h0 : 0 ≤ i) (h1 : i + 2 ≤ (ks.length : Int)) (h2 : ks.length ≤ 1000)
    (dp un : Nat) (gd : Option (List Code)) (cn : Str) (cs : Scope) (ad : Addr) (ccd : Value) (cl : List (Str × Addr)) (outer : List Env) (A₀ : Around) (base h₀ : Heap) (L : Addr) (m : Str → Option Value) (s : Shared) (Q E : Value → Shared → Prop)
    (B : Below A₀ base outer h₀) (F : Fr h₀ L s.heap m) (X : (heapK w.params).In h₀) (T : Top p loose mean mg mb h₀) (hk : cs.kind = .function) (N : News h₀ L s.heap news)
    (hd : dp + 4 < recursionLimit) (hu : un + 32 < cLine)
    (hret : ∀ (t' : Tok) (h' : Heap) (tk' : Nat),
      News h₀ L h' news → Fr h₀ L h' m → Q (.int (be2 ks i) t') { s with heap := h', toks := tk' }) :
    wpAny (model PySem.Challenge.rw_pc0360_01.row.prog w) (ktrTop dp un gd cn cs L ad ccd cl outer) (PySem.call (.ref 91) [.bytes b t, .int i ta]) Q E s := by
  k_with_none
  k_with "UnrEnd" => (k_dflt (refine UnrEnd.intro (by assumption) (by assumption) _ (fun _ h => h) (off_of (by assumption)) ?_))
  k_with "pyIter bytes" => ((rename KBw.bInts (KBy.picked _ _ _) = _ => hP); (replace hP := Eq.trans hP (cut2 (by assumption) (by assumption))); k_bytesUnr)
  k_with "binaryOp LShift int int" => ((with_reducible refine lshift_int_small (by decide) (by decide) ?_ ?_); rotate_right 2; (focus ((omega); done)))
  k_with "binaryOp BitOr int int" => (k_dflt (refine bor8_rule ?_ ?_ ?_ ?_; rotate_right 4; (focus ((omega); done)); (focus ((omega); done)); (focus ((omega); done))))
  k_with "exec For Name Subscript cons nil" => (k_here; (rename Fr _ _ _ _ => lF'); (with_unfolding_all refine' For_invVF lF' ?_ ?_ ?_; rotate_right 3; (focus ((exact rfl); done)); (focus ((exact rfl); done)); k_whole))
  k_with "pyIter bytes" => ((rename KBw.bInts (KBy.picked _ _ _) = _ => hP); (replace hP := Eq.trans hP (cut6 (by assumption) (by assumption))); k_bytesUnr)
  k_with "call ref" => (k_here; (with_reducible show wpAny _ _ (PySem.call (Value.ref 70) [_, _, Value.int 2 _]) _ _ _); k_dflt (refine' get_spec2 ?_ ?_ ?_ ?_ _ _ _ _ _ _ _ _ _ _ _ _ _ _ _ _ _ ?_ ?_ ?_ ?_ ?_ ?_  ?_ ?_ ?_; rotate_right 9; (focus ((k_asm); done)); (focus ((k_asm); done)); (focus ((k_asm); done)); (focus ((k_asm); done)); (focus ((first | rfl | assumption); done)); (focus ((k_asm); done)); (focus ((ktr_room); done)); (focus ((ktr_units); done)); (all_goals skip); rotate_right 4; (focus ((assumption); done)); (focus ((omega); done)); (focus ((omega); done)); (focus ((omega); done)); k_whole; intro t9 h9 tk9 N9 F9; (try k_sweep); (try dsimp only); (try k_fold)))
  k_with "call ref" => (k_here; (with_reducible show wpAny _ _ (PySem.call (Value.ref 70) [_, _, Value.int 6 _]) _ _ _); k_dflt (refine' get_spec6 ?_ ?_ ?_ ?_ _ _ _ _ _ _ _ _ _ _ _ _ _ _ _ _ _ ?_ ?_ ?_ ?_ ?_ ?_  ?_ ?_ ?_; rotate_right 9; (focus ((k_asm); done)); (focus ((k_asm); done)); (focus ((k_asm); done)); (focus ((k_asm); done)); (focus ((first | rfl | assumption); done)); (focus ((k_asm); done)); (focus ((ktr_room); done)); (focus ((ktr_units); done)); (all_goals skip); rotate_right 4; (focus ((assumption); done)); (focus ((omega); done)); (focus ((omega); done)); (focus ((omega); done)); k_whole; intro t9 h9 tk9 N9 F9; (try k_sweep); (try dsimp only); (try k_fold)))
  revert X; k_fill; w_top off; intro X
  refine wpAny_call ?_
  k_dflt ktr_enter
  k_steps
  exact hret _ _ _ (by (rename News h₀ L _ _ => NN); repeat (first | exact NN | (replace NN := news_tail NN))) (by assumption)

set_option maxRecDepth 100000 in
set_option maxHeartbeats 4000000 in
theorem get48_spec {w : World} {p : Program} {loose : List Str} {mean : ExcName → Option Value} {mg mb : Str → Option Value}
    {b : Array UInt8} {ks : List Int} {t ta : Tok} {i : Int} {news : Led} (hb : KBw.bInts b = ks) (h0 : 0 ≤ i) (h1 : i + 6 ≤ (ks.length : Int)) (h2 : ks.length ≤ 1000)
    (dp un : Nat) (gd : Option (List Code)) (cn : Str) (cs : Scope) (ad : Addr) (ccd : Value) (cl : List (Str × Addr)) (outer : List Env) (A₀ : Around) (base h₀ : Heap) (L : Addr) (m : Str → Option Value) (s : Shared) (Q E : Value → Shared → Prop)
    (B : Below A₀ base outer h₀) (F : Fr h₀ L s.heap m) (X : (heapK w.params).In h₀) (T : Top p loose mean mg mb h₀) (hk : cs.kind = .function) (N : News h₀ L s.heap news)
    (hd : dp + 4 < recursionLimit) (hu : un + 32 < cLine)
    (hret : ∀ (t' : Tok) (h' : Heap) (tk' : Nat),
      News h₀ L h' news → Fr h₀ L h' m → Q (.int (be6 ks i) t') { s with heap := h', toks := tk' }) :
    wpAny (model PySem.Challenge.rw_pc0360_01.row.prog w) (ktrTop dp un gd cn cs L ad ccd cl outer) (PySem.call (.ref 98) [.bytes b t, .int i ta]) Q E s := by
  k_with_none
  k_with "UnrEnd" => (k_dflt (refine UnrEnd.intro (by assumption) (by assumption) _ (fun _ h => h) (off_of (by assumption)) ?_))
  k_with "pyIter bytes" => ((rename KBw.bInts (KBy.picked _ _ _) = _ => hP); (replace hP := Eq.trans hP (cut2 (by assumption) (by assumption))); k_bytesUnr)
  k_with "binaryOp LShift int int" => ((with_reducible refine lshift_int_small (by decide) (by decide) ?_ ?_); rotate_right 2; (focus ((omega); done)))
  k_with "binaryOp BitOr int int" => (k_dflt (refine bor8_rule ?_ ?_ ?_ ?_; rotate_right 4; (focus ((omega); done)); (focus ((omega); done)); (focus ((omega); done))))
  k_with "exec For Name Subscript cons nil" => (k_here; (rename Fr _ _ _ _ => lF'); (with_unfolding_all refine' For_invVF lF' ?_ ?_ ?_; rotate_right 3; (focus ((exact rfl); done)); (focus ((exact rfl); done)); k_whole))
  k_with "pyIter bytes" => ((rename KBw.bInts (KBy.picked _ _ _) = _ => hP); (replace hP := Eq.trans hP (cut6 (by assumption) (by assumption))); k_bytesUnr)
  k_with "call ref" => (k_here; (with_reducible show wpAny _ _ (PySem.call (Value.ref 70) [_, _, Value.int 2 _]) _ _ _); k_dflt (refine' get_spec2 ?_ ?_ ?_ ?_ _ _ _ _ _ _ _ _ _ _ _ _ _ _ _ _ _ ?_ ?_ ?_ ?_ ?_ ?_  ?_ ?_ ?_; rotate_right 9; (focus ((k_asm); done)); (focus ((k_asm); done)); (focus ((k_asm); done)); (focus ((k_asm); done)); (focus ((first | rfl | assumption); done)); (focus ((k_asm); done)); (focus ((ktr_room); done)); (focus ((ktr_units); done)); (all_goals skip); rotate_right 4; (focus ((assumption); done)); (focus ((omega); done)); (focus ((omega); done)); (focus ((omega); done)); k_whole; intro t9 h9 tk9 N9 F9; (try k_sweep); (try dsimp only); (try k_fold)))
  k_with "call ref" => (k_here; (with_reducible show wpAny _ _ (PySem.call (Value.ref 70) [_, _, Value.int 6 _]) _ _ _); k_dflt (refine' get_spec6 ?_ ?_ ?_ ?_ _ _ _ _ _ _ _ _ _ _ _ _ _ _ _ _ _ ?_ ?_ ?_ ?_ ?_ ?_  ?_ ?_ ?_; rotate_right 9; (focus ((k_asm); done)); (focus ((k_asm); done)); (focus ((k_asm); done)); (focus ((k_asm); done)); (focus ((first | rfl | assumption); done)); (focus ((k_asm); done)); (focus ((ktr_room); done)); (focus ((ktr_units); done)); (all_goals skip); rotate_right 4; (focus ((assumption); done)); (focus ((omega); done)); (focus ((omega); done)); (focus ((omega); done)); k_whole; intro t9 h9 tk9 N9 F9; (try k_sweep); (try dsimp only); (try k_fold)))
  revert X; k_fill; w_top off; intro X
  refine wpAny_call ?_
  k_dflt ktr_enter
  k_steps
  exact hret _ _ _ (by (rename News h₀ L _ _ => NN); repeat (first | exact NN | (replace NN := news_tail NN))) (by assumption)
end Pc
end

section
open PySem PySem.W PySem.Spec PySem.Calls PyProof.Rows
namespace Pc
/-- an object of an own exception class, its fields as a new one has them -/
abbrev excO (C t : Addr) (dx : Option Addr) : Obj := { cls := .ref C, dict := dx, data := .fields #[.ref t, .none, .none, .none, .bool false, .none] }
abbrev tup1 (vs : List Value) : Obj := { cls := .type "tuple", data := .seq vs.toArray }
section
variable {prog : Program} {w : World} {A : Around} {E : Value → Shared → Prop} {h : Heap} {g : Array GenState} {d : Drawn} {t : Nat} {os : OsState}
variable {nm q : Str} {C N : Addr} {bs bm bmB : List Value} {hdct : Bool} {sn : List Str} {sub : List Value} {ab : Bool} {col : Option Bool} {dd : Option Addr} {k0 k1 k2 k3 k5 : Option Value} {B newId initId : String}

theorem excG_new {R : Result → Shared → Prop} (F : ExcBaseFacts B newId initId bmB) (hB : bm.contains (.type B) = true) (hAt : bm.contains (.type "AttributeError") = false) (hNa : bm.contains (.type "NameError") = false)
    {rest : List Value} (hC : h.get? C = some (excClassObj nm q C N bs bm hdct sn sub ab col dd k0 k1 k2 k3 k5 newId))
    (hq : R (.ok (.ret (.ref (h.objs.size + 1)))) ⟨(h.push (tup1 rest)).push (excO C h.objs.size none), g, d, t, os⟩) (hrest : rest.length ≤ sizeLine := by size_fits) :
    codeAny (model prog w) A (.builtin newId ⟨.ref C :: rest, []⟩) R ⟨h, g, d, t, os⟩ := by
  have hends := F.ends
  have cB : (Value.ref C :: bm).contains (.type B) = true := by rw [List.contains_cons, hB, Bool.or_true]
  have cA : (Value.ref C :: bm).contains (.type "AttributeError") = false := by rw [List.contains_cons, hAt]; rfl
  have cN : (Value.ref C :: bm).contains (.type "NameError") = false := by rw [List.contains_cons, hNa]; rfl
  refine codeAny_builtinAt F.entry ?_
  unfold Builtin.«BaseException.__new__»
  refine PySem.wpAt_bind ?_
  show PySem.wpAt _ _ _ (stack >>= _) _ _ _
  refine PySem.wpAt_bind (PySem.wpAt_stack fun p below => PySem.wpAt_of_wpAny ?_)
  wp_walk
  refine PySem.wpAt_of_wpAny ?_
  rw [F.owner]
  repeat (first | with_reducible refine wpAny_madeHere_exc F.canon hC ?_ | with_reducible refine wpAny_loadPart_at hC ?_ | (with_reducible refine wpAny_isSubtype_exc hC ?_; first | rw [cB] | rw [cA] | rw [cN]) | wp_step)
  show R _ _
  rw [Heap.size_push]
  exact hq

theorem excG_check (F : ExcBaseFacts B newId initId bmB) (hB : bm.contains (.type B) = true) {M : Model} {rest : List Value} {Q : Unit → Shared → Prop} (hC : h.get? C = some (excClassObj nm q C N bs bm hdct sn sub ab col dd k0 k1 k2 k3 k5 newId))
    (hq : Q () ⟨h, g, d, t, os⟩) : wpAny M A (checkBuiltinCall newId ⟨.ref C :: rest, []⟩) Q E ⟨h, g, d, t, os⟩ := by
  have cB : (Value.ref C :: bm).contains (.type B) = true := by rw [List.contains_cons, hB, Bool.or_true]
  have hstar := F.noStar
  simp only [checkBuiltinCall, F.newKind, F.newSplit, F.newRow]
  repeat (first | refine wpAny_loadPart_at hC ?_ | (refine wpAny_isSubtype_exc hC ?_; rw [cB]) | refine wpAny_staticBase_exc hC ?_ | refine wpAny_madeBy_exc hC ?_ | simp only [bne_self_eq_false, Bool.false_eq_true, if_false] | wp_step)
  exact hq

theorem excG_call (F : ExcBaseFacts B newId initId bmB) (hB : bm.contains (.type B) = true) (hAt : bm.contains (.type "AttributeError") = false) (hNa : bm.contains (.type "NameError") = false)
    {rest : List Value} {fI : Addr} {oI : Obj} {Q : Value → Shared → Prop}
    (hC : h.get? C = some (excClassObj nm q C N bs bm hdct sn sub ab col dd k0 k1 k2 k3 k5 newId)) (hi : Looks (model prog w) h (typeLookup (.ref C) "__init__") (some (.ref fI)))
    (hfI : h.get? fI = some oI) (hfc : oI.cls = .type "function")
    (hq : wpAny (model prog w) (A.under (.builtin "type.__call__" ⟨.ref C :: rest, []⟩)) (PySem.call (.ref fI) (.ref (h.objs.size + 1) :: rest)) (fun r s' => r = .none ∧ Q (.ref (h.objs.size + 1)) s') E
      ⟨(h.push (tup1 rest)).push (excO C h.objs.size none), g, d, t, os⟩) (hrest : rest.length ≤ sizeLine := by size_fits) :
    wpAny (model prog w) A (PySem.call (.ref C) rest) Q E ⟨h, g, d, t, os⟩ := by
  have f1 := tc_lookup
  have f2 := tc_bind (.ref C)
  have hT : (⟨h, g, d, t, os⟩ : Shared).TypeIs (.ref C) "type" := ⟨_, hC, rfl⟩
  refine wpAny_call (codeAny_of_tree ?_)
  show wpAny _ _ (callAny (.ref C) _) _ _ _
  repeat (any_goals (first | assumption | with_reducible refine wpAny_loadPart_at hC ?_ | wp_step))
  refine ⟨rfl, ?_⟩
  refine codeAny_call_builtin_at (Code.quiet_builtin _ (by decide +kernel)) entry_typeCall (wpAny_check_type_call_sub hC ?_)
  repeat (first | with_reducible refine wpAny_loadPart_at hC ?_ | with_reducible refine wpAny_madeBy_exc hC ?_ | wp_step)
  refine codeAny_call_builtin_code (Code.quiet_builtin _ F.quiet) (excG_check F hB hC ?_)
  refine excG_new (rest := rest) F hB hAt hNa hC ?_ hrest
  show wpAny _ _ _ _ _ _
  have up : ∀ b o, h.get? b = some o → ((h.push (tup1 rest)).push (excO C h.objs.size none)).get? b = some o := fun b o e => Heap.get?_push_of_some _ (Heap.get?_push_of_some _ e)
  have hC₁ := up _ _ hC
  have hfI₁ := up _ _ hfI
  have hget : ((h.push (tup1 rest)).push (excO C h.objs.size none)).get? (h.objs.size + 1) = some { cls := .ref C, data := .fields #[.ref h.objs.size, .none, .none, .none, .bool false, .none] } := by heap_get
  have hcC : (Value.ref C :: bm).contains (.ref C) = true := by simp
  unfold isInstance
  repeat (first | with_reducible refine wpAny_loadPart_at hget ?_ | (with_reducible refine wpAny_isSubtype_exc hC₁ ?_; rw [hcC]) | wp_step)
  show wpAny _ _ (typeLookup (.ref C) _) _ _ _
  refine (hi.keeps up).at ?_
  refine wpAny_holding (wpAny_bind ?_)
  unfold bindSpecial
  refine wpAny_bind (wpAny_typeOf (T := "function") ⟨_, hfI₁, hfc⟩ ?_)
  rw [if_pos (by decide)]
  refine wpAny_pure (wpAny_bind (wpAny_mono hq (fun r s' hr => ?_) fun _ _ x => x))
  obtain ⟨rfl, hQ⟩ := hr
  wp_walk
  exact hQ
end
end Pc
end

section
open PySem PySem.W PySem.Spec PySem.Calls PyProof.Rows
namespace Pc
section
variable {prog : Program} {w : World} {A : Around} {E : Value → Shared → Prop} {h : Heap} {g : Array GenState} {d : Drawn} {t : Nat} {os : OsState}
variable {nm q : Str} {C N e t0 D : Addr} {bs bm bmB : List Value} {hdct : Bool} {sn : List Str} {sub : List Value} {ab : Bool} {col : Option Bool} {dd : Option Addr} {k0 k1 k2 k3 k5 : Option Value} {B newId initId : String}

theorem excG_init (F : ExcBaseFacts B newId initId bmB) (hB : bm.contains (.type B) = true) {rest : List Value} {Q : Value → Shared → Prop}
    (hC : h.get? C = some (excClassObj nm q C N bs bm hdct sn sub ab col dd k0 k1 k2 k3 k5 newId)) (he : h.get? e = some (excO C t0 none))
    (hq : Q .none ⟨(h.push (tup1 rest)).update e (Obj.mapFields (·.setIfInBounds 0 (.ref h.objs.size))), g, d, t, os⟩) (hrest : rest.length ≤ sizeLine := by size_fits) :
    wpAny (model prog w) A (PySem.call (.builtin initId) (.ref e :: rest)) Q E ⟨h, g, d, t, os⟩ := by
  have cB : (Value.ref C :: bm).contains (.type B) = true := by rw [List.contains_cons, hB, Bool.or_true]
  have hshort := F.noStar
  have he' : h.get? e = some { cls := .ref C, data := .fields #[.ref t0, .none, .none, .none, .bool false, .none] } := he
  refine wpAny_call (codeAny_call_builtin F.init.plain F.initEntry ?_)
  have hck : ∀ {Q' : Unit → Shared → Prop} {E' : Value → Shared → Prop} {A' : Around}, Q' () ⟨h, g, d, t, os⟩ → wpAny (model prog w) A' (checkBuiltinCall initId ⟨.ref e :: rest, []⟩) Q' E' ⟨h, g, d, t, os⟩ := by
    intro Q' E' A' hQ'
    simp only [checkBuiltinCall, F.initKind, F.initSplit, F.initRow]
    repeat (first | with_reducible refine wpAny_loadPart_at he' ?_ | with_reducible refine wpAny_loadPart_at hC ?_ | (with_reducible refine wpAny_isSubtype_exc hC ?_; rw [cB]) | wp_step)
    refine wpAny_onRaise ?_
    rw [show ∀ (a b : String) (n : Nat), Bind.check ⟨.positional, "*", B, .self, [⟨"args", .varPos, false⟩]⟩ a b n (List.map (fun x => x.fst) ({ pos := Value.ref e :: rest } : Args).kw) = pure () from
      fun a b n => check_star_args _ _ _ _ _ _]
    exact wpAny_pure hQ'
  refine hck ?_
  unfold Builtin.«BaseException.__init__»
  dsimp only
  rw [if_neg (by simp)]
  unfold newTuple Builtin.BaseException.bexcPut
  have he₁ := Heap.get?_push_of_some (h := h) (tup1 rest) he
  refine wpAny_bind (wpAny_newObj_type (wpAny_bind (wpAny_bind (wpAny_field he₁ rfl rfl (wpAny_bind (wpAny_setField he₁ rfl (by simp) ?_))))) (by show rest.toArray.size ≤ sizeLine; rw [List.size_toArray]; exact hrest))
  exact wpAny_letGo (wpAny_pure hq)

theorem excG_store {bmE : List Value} {name : Str} {tk : Tok} {v : Value} {R : Result → Shared → Prop} (SF : StoreFacts "Exception" bmE "object.__setattr__" "object") (hbm : bm = .ref D :: bmE)
    (hC : h.get? C = some (excClassObj nm q C N bs bm true sn sub ab col dd k0 k1 k2 k3 k5 newId)) (hn : Looks (model prog w) h (typeLookup (.ref C) name) none) (he : h.get? e = some (excO C t0 none))
    (hq : ∀ h' tk' dx, h'.get? e = some (excO C t0 (some dx)) → (∀ b o, b ≠ e → h.get? b = some o → h'.get? b = some o) → R (.ok (.ret .none)) ⟨h', g, d, tk', os⟩) :
    codeAny (model prog w) A (.call (.builtin "object.__setattr__") ⟨[.ref e, .str name tk, v], []⟩) R ⟨h, g, d, t, os⟩ := by
  have he' : h.get? e = some { cls := .ref C, data := .fields #[.ref t0, .none, .none, .none, .bool false, .none] } := he
  have hO : (Value.ref C :: bm).contains (.type "object") = true := by rw [hbm, List.contains_cons, List.contains_cons, SF.hasOwner, Bool.or_true, Bool.or_true]
  have hpass := SF.passes (.ref e)
  have ha := SF.args (.ref e) (.str name tk) v
  refine codeAny_call_builtin SF.slot.plain SF.entry ?_
  have hck : ∀ {Q' : Unit → Shared → Prop} {E' : Value → Shared → Prop} {A' : Around}, Q' () ⟨h, g, d, t, os⟩ → wpAny (model prog w) A' (checkBuiltinCall "object.__setattr__" ⟨[.ref e, .str name tk, v], []⟩) Q' E' ⟨h, g, d, t, os⟩ := by
    intro Q' E' A' hQ'
    simp only [checkBuiltinCall, SF.kind, SF.split]
    refine wpAny_bind ?_
    unfold isInstance
    repeat (first | with_reducible refine wpAny_loadPart_at he' ?_ | (with_reducible refine wpAny_isSubtype_exc hC ?_; rw [hO]) | wp_step)
    exact hQ'
  refine hck ?_
  rw [osa_eq, refuse_eq]
  refine wpAny_bind (wpAny_bind ?_)
  repeat (first | with_reducible refine wpAny_loadPart_at he' ?_ | with_reducible refine wpAny_mroOf_exc hC ?_ | (rw [hbm, refuseLoop_ref, refuseLoop_ref, hpass]) | wp_step)
  show wpAny _ _ (typeLookup (.ref C) name) _ _ _
  refine hn.at ?_
  repeat (first | with_reducible refine wpAny_loadPart_at he' ?_ | with_reducible refine wpAny_loadPart_at hC ?_ | wp_step)
  have hes : e ≠ h.objs.size := Nat.ne_of_lt (Heap.lt_size he)
  have he₁ : (h.push emptyDict).get? e = some (excO C t0 none) := Heap.get?_push_of_some _ he
  generalize hH : ((h.push emptyDict).update e fun o => { cls := o.cls, dict := some h.objs.size, data := o.data, slots := o.slots }) = H
  have hgd : H.get? h.objs.size = some (dictOf [] 0) := by
    rw [← hH]
    exact (Heap.get?_update_ne _ _ _ _ hes.symm).trans (Heap.get?_push_at rfl rfl)
  have hge : H.get? e = some (excO C t0 (some h.objs.size)) := by
    rw [← hH]
    exact Heap.get?_update_self _ he₁ rfl
  have hgo : ∀ b o, b ≠ e → h.get? b = some o → H.get? b = some o := fun b o hb ho => by
    rw [← hH]
    exact (Heap.get?_update_ne _ _ _ _ hb).trans (Heap.get?_push_of_some _ ho)
  refine wpAny_askSetting (wpAny_pure (wpAny_bind (wpAny_mkText (wpAny_bind (wpAny_loadPart hgd ?_)))))
  dsimp only
  refine wpAny_updatePart hgd ?_
  have hs : Heap.SameBut h.objs.size H (H.update h.objs.size (Obj.putName name (if name.cps.isEmpty = true then 0 else reduceHash (w.params.strHash name.cps)) (.str name t) v)) := Heap.SameBut.update ..
  have hD : (H.update h.objs.size (Obj.putName name (if name.cps.isEmpty = true then 0 else reduceHash (w.params.strHash name.cps)) (.str name t) v)).get? h.objs.size = some (dictOf [⟨(if name.cps.isEmpty = true then 0 else reduceHash (w.params.strHash name.cps)), .str name t, v⟩] 1) := by
    have := Heap.get?_update_self (Obj.putName name (if name.cps.isEmpty = true then 0 else reduceHash (w.params.strHash name.cps)) (.str name t) v) hgd (by rw [putName_dict]; rfl)
    rw [putName_dict] at this
    exact this
  refine wpAny_bind (wpAny_lookBehind hD (pastItsLine_dict (by rw [sizeLine_eq]; simp)) ?_)
  exact wpAny_pure (hq _ _ h.objs.size ((hs.2 e hes).trans hge) fun b o hb ho => (hs.2 b (Nat.ne_of_lt (Heap.lt_size ho))).trans (hgo b o hb ho))
end
end Pc
end

section
open PySem PySem.W PySem.Spec PySem.Calls PyProof.Rows
namespace Pc
def RaisableX (K : Frag) (C : Addr) (E : Value → Shared → Prop) (v : Value) (s₁ : Shared) : Prop :=
  ∃ e t dx, v = .ref e ∧ K.In s₁.heap ∧ s₁.heap.get? e = some (excO C t dx) ∧ E (.ref e) s₁

theorem raise_own {prog : Program} {w : World} {A : Around} {E : Value → Shared → Prop} {s : Shared} {env : Env} {K : Frag} {C L : Addr} {h₀ : Heap} {m : Str → Option Value} {ex : Expr} {pos : Pos} {Q : Flow → Shared → Prop} (_F : Fr h₀ L s.heap m) (_X : K.In h₀)
    (hs : subIn K (.ref C) (.type "BaseException") = some true) (ht : typeIn K (.ref C) = some (.type "type")) (hh : A.handled = none)
    (h : wpAny (model prog w) A (eval ex env) (RaisableX K C E) E s) : wpAny (model prog w) A (exec (.Raise (some ex) none pos) env) Q E s := by
  show wpAny (model prog w) A (do standAt pos; raiseStmt env (some (do let v ← eval ex env; standAt pos; pure v)) none) Q E s
  refine wpAny_bind (wpAny_standAt ?_)
  unfold raiseStmt
  dsimp only
  refine wpAny_bind (wpAny_bind (wpAny_mono h (fun v s₁ h₁ => wpAny_bind (wpAny_standAt (wpAny_pure ?_))) fun _ _ x => x))
  obtain ⟨a, t, dx, rfl, X, ha, hE⟩ := h₁
  have L1 : Looks (model prog w) s₁.heap (typeOf (.ref a)) (.ref C) := (Looks.ld ha).andThen .now
  have L2 : Looks (model prog w) s₁.heap (isSubtype (.ref C) (.type "BaseException")) true := looks_subIn X hs
  have L3 : Looks (model prog w) s₁.heap (isInstance (.ref a) (.type "BaseException")) true := L1.andThen L2
  have L4 : Looks (model prog w) s₁.heap (typeOf (.ref C)) (.type "type") := looks_typeIn X ht
  have hnt : ∀ {Q' : Bool → Shared → Prop}, Q' false s₁ → wpAny (model prog w) A (isType (.ref a)) Q' E s₁ := by
    intro Q' hq
    simp only [isType, loadHead]
    exact wpAny_bind (wpAny_loadPart ha (wpAny_pure hq))
  refine wpAny_bind (wpAny_pure ?_)
  dsimp only
  refine wpAny_bind (wpAny_holding ?_)
  unfold excFromValue isExcClass
  refine wpAny_bind (wpAny_bind (hnt ?_))
  simp only [Bool.false_eq_true, if_false]
  refine wpAny_pure ?_
  simp only [Bool.false_eq_true, if_false]
  refine wpAny_bind (L3.here ?_)
  simp only [if_true]
  refine wpAny_pure ?_
  refine wpAny_bind (hnt ?_)
  simp only [Bool.false_eq_true, if_false]
  unfold raisedInstance
  refine wpAny_bind (wpAny_bind (L1.here (wpAny_bind (L4.here ?_))))
  rw [if_pos (by rfl)]
  refine wpAny_pure ?_
  unfold setFlight raiseNew
  refine wpAny_bind (wpAny_bind (wpAny_field ha rfl rfl ?_))
  rw [if_neg (by show ¬((Value.none != Value.none) = true); decide)]
  refine wpAny_pure (wpAny_bind (wpAny_handled ?_))
  rw [hh]
  first
    | exact wpAny_throw hE
    | exact wpAny_bind (wpAny_pure (wpAny_throw hE))

section
variable {M : Model} {A : Around} {E : Value → Shared → Prop} {s' : Shared} {base g : Heap} {outer : List Env} {L a e t C : Addr} {dx : Option Addr} {m : Str → Option Value} {name : Str} {scope : Scope} {cd : Value} {Q : Unit → Shared → Prop} {news : Led} {vs : List Value}
theorem leave_form (K : Below A base outer g) (F : Fr g L s'.heap m) (N : News g L s'.heap ((e, excO C t dx) :: (t, tup1 vs) :: news)) (hne : ∀ q ∈ news, q.1 ≠ e ∧ q.1 ≠ t)
    (hQ : ∀ h', RaisedS base g outer e (.ref C) t vs news h' → g.UpToSlots h' → Q () { s' with heap := h' }) (hk : scope.kind = .function := by rfl) :
    wpAny M (A.deeper (envOf name scope L a cd)) (leaving (envOf name scope L a cd) (.ref e)) Q E s' := by
  have K' := K.push (name := name) (a := a) (cd := cd) F hk
  obtain ⟨he, heL, heg⟩ := N (e, excO C t dx) (.head _)
  obtain ⟨ht, htL, htg⟩ := N (t, tup1 vs) (.tail _ (.head _))
  dsimp only at he heL heg ht htL htg
  have mem : ∀ {b}, b ∈ e :: t :: (envOf name scope L a cd :: outer).filterMap (·.frame) → b = e ∨ b = t ∨ b = L ∨ b ∈ outer.filterMap (·.frame) := by
    intro b hb
    rcases List.mem_cons.mp hb with hb | hb
    · exact .inl hb
    · rcases List.mem_cons.mp hb with hb | hb
      · exact .inr (.inl hb)
      · exact .inr (.inr (kts_mem hb))
  have noG : ∀ {b o}, g.get? b = some o → b ≠ e ∧ b ≠ t ∧ b ≠ L := fun {b o} q =>
    ⟨(fun z => by rw [z, heg] at q; cases q), (fun z => by rw [z, htg] at q; cases q), (fun z => by rw [z, kts_self F] at q; cases q)⟩
  have st : base.StaysIn (hideAll s'.heap (e :: t :: (envOf name scope L a cd :: outer).filterMap (·.frame))) := fun b o q => by
    have z := noG (K.stays b o q)
    refine hideAll_get _ (K'.stays b o q) fun hm => ?_
    rcases mem hm with y | y | y | y
    · exact z.1 y
    · exact z.2.1 y
    · exact z.2.2 y
    · rw [(K.frames.mem y).1] at q; cases q
  have sg : ∀ b o, g.get? b = some o → b ∉ outer.filterMap (·.frame) → (hideAll s'.heap (e :: t :: (envOf name scope L a cd :: outer).filterMap (·.frame))).get? b = some o := fun b o q nm => by
    have z := noG q
    refine hideAll_get _ (F.keep b o q) fun hm => ?_
    rcases mem hm with y | y | y | y
    · exact z.1 y
    · exact z.2.1 y
    · exact z.2.2 y
    · exact nm y
  have hl : ∀ q ∈ news, (hideAll s'.heap (e :: t :: (envOf name scope L a cd :: outer).filterMap (·.frame))).get? q.1 = some q.2 ∧ g.get? q.1 = none ∧ base.get? q.1 = none := fun q hq => by
    have z := N q (.tail _ (.tail _ hq))
    refine ⟨hideAll_get _ z.1 fun hm => ?_, z.2.2, fresh_of_stays K.stays z.2.2⟩
    rcases mem hm with y | y | y | y
    · exact (hne q hq).1 y
    · exact (hne q hq).2 y
    · exact z.2.1 y
    · obtain ⟨_, o, ho, _⟩ := K.frames.mem y
      rw [z.2.2] at ho; cases ho
  have hin : ∀ env ∈ (envOf name scope L a cd :: outer), ∀ b, env.frame = some b → b ∈ e :: t :: (envOf name scope L a cd :: outer).filterMap (·.frame) :=
    fun env he b hb => .tail _ (.tail _ (List.mem_filterMap.mpr ⟨env, he, hb⟩))
  have hen : (hideAll s'.heap (e :: t :: (envOf name scope L a cd :: outer).filterMap (·.frame))).get? e = none := hideAll_none _ (.head _)
  have htn : (hideAll s'.heap (e :: t :: (envOf name scope L a cd :: outer).filterMap (·.frame))).get? t = none := hideAll_none _ (.tail _ (.head _))
  refine wpAny_leaving_firstW (a0 := .ref t) K'.stack (funFrames_hide K'.frames hin) rfl he (fun b o q => of_hideAll _ q) hen rfl rfl rfl fun h' hL => ?_
  obtain ⟨k1, ⟨_, _, k2⟩, k3, k4⟩ := hL
  exact hQ h' ⟨⟨_, st, sg, hl, ⟨k1, hen, k2, k3⟩, htn⟩, Heap.TupAt.of_slots ⟨_, _, ht, rfl, rfl⟩ k4⟩ ((Heap.UpToSlots.of_keeps F.keep).trans k4)
end
end Pc
end

section
open PySem PySem.W PySem.Spec PySem.Calls PyProof.Rows
namespace Pc
theorem meta_Exc : typeOf (.type "Exception") = pure (.type "type") := by kernel_rfl
section
variable {prog : Program} {w : World} {A : Around} {E : Value → Shared → Prop} {s : Shared} {h₀ : Heap} {L e t0 C N₀ D : Addr} {m : Str → Option Value} {K : Frag} {news : Led}
variable {nm q : Str} {bs bmB : List Value} {sn : List Str} {sub : List Value} {ab : Bool} {col : Option Bool} {dd : Option Addr} {k0 k1 k2 k3 k5 : Option Value}
abbrev fclsO (nm q : Str) (C N D : Addr) (bs : List Value) (sn : List Str) (sub : List Value) (ab : Bool) (col : Option Bool) (dd : Option Addr) (k0 k1 k2 k3 k5 : Option Value) : Obj :=
  excClassObj nm q C N bs [.ref D, .type "Exception", .type "BaseException", .type "object"] true sn sub ab col dd k0 k1 k2 k3 k5 "Exception.__new__"
theorem upd_ledger {h : Heap} {o o' : Obj} {f : Obj → Obj} (F : Fr h₀ L h m) (N : News h₀ L h ((e, o) :: news)) (hne : ∀ p ∈ news, p.1 ≠ e) (ef : f o = o') (hf : o'.isFreed = false) :
    Fr h₀ L (h.update e f) m ∧ News h₀ L (h.update e f) ((e, o') :: news) := news_upd (pre := []) F N (fun _ h => nomatch h) hne ef hf
theorem excinit_K {v : Value} {Q : Value → Shared → Prop} (F : Fr h₀ L s.heap m) (X₀ : K.In h₀)
    (hC : K.lookup C = some (fclsO nm q C N₀ D bs sn sub ab col dd k0 k1 k2 k3 k5))
    (N : News h₀ L s.heap ((e, excO C t0 none) :: news)) (hne : ∀ p ∈ news, p.1 ≠ e)
    (hQ : ∀ t h', Fr h₀ L h' m → News h₀ L h' ((e, excO C t none) :: (t, tup1 [v]) :: news) → (∀ p ∈ (e, excO C t0 none) :: news, p.1 < t) → Q .none { s with heap := h' }) :
    wpAny (model prog w) A (PySem.call (.builtin "Exception.__init__") [.ref e, v]) Q E s := by
  obtain ⟨h, g, d, tk, os⟩ := s
  have X := X₀.keeps F.keep
  have he := (N (e, excO C t0 none) (.head _)).1
  refine excG_init PySem.F.excBase_Exception (by simp) (X _ _ hC) he ?_
  have N1 := N.push F (tup1 [v])
  have hlt : ∀ p ∈ (e, excO C t0 none) :: news, p.1 < h.objs.size := fun p hp => Heap.lt_size (N p hp).1
  have N2 : News h₀ L (h.push (tup1 [v])) ((e, excO C t0 none) :: (h.objs.size, tup1 [v]) :: news) := fun p hp => N1 p (by
    rcases List.mem_cons.mp hp with rfl | hp
    · exact .tail _ (.head _)
    · rcases List.mem_cons.mp hp with rfl | hp
      · exact .head _
      · exact .tail _ (.tail _ hp))
  obtain ⟨U1, U2⟩ := upd_ledger (F.push (tup1 [v])) N2 (o' := excO C h.objs.size none) (f := Obj.mapFields (·.setIfInBounds 0 (.ref h.objs.size))) (fun p hp => by
    rcases List.mem_cons.mp hp with rfl | hp
    · exact Nat.ne_of_gt (hlt _ (.head _))
    · exact hne p hp) rfl rfl
  exact hQ _ _ U1 U2 hlt
theorem excset_K {name : Str} {v : Value} {Q : Unit → Shared → Prop} (F : Fr h₀ L s.heap m) (X₀ : K.In h₀)
    (hC : K.lookup C = some (fclsO nm q C N₀ D bs sn sub ab col dd k0 k1 k2 k3 k5)) (hf : findIn K (.ref C) name = some none)
    (hs : findIn K (.ref C) "__setattr__" = some (some (.builtin "object.__setattr__")))
    (N : News h₀ L s.heap ((e, excO C t0 none) :: news)) (hne : ∀ p ∈ news, p.1 ≠ e)
    (hQ : ∀ dx h' tk', Fr h₀ L h' m → News h₀ L h' ((e, excO C t0 (some dx)) :: news) → Q () { s with heap := h', toks := tk' }) :
    wpAny (model prog w) A (setAttr (.ref e) name v) Q E s := by
  have X := X₀.keeps F.keep
  have he := N (e, excO C t0 none) (.head _)
  have I : InstAt s.heap e (excO C t0 none) C none := ⟨he.1, rfl, rfl, trivial⟩
  refine set_plain X I hs ?_
  obtain ⟨h, g, d, tk, os⟩ := s
  refine excG_store PySem.F.store_Exception rfl (X _ _ hC) (looks_findIn X hf) he.1 fun h' tk' dx h1 h2 => ?_
  refine hQ dx h' tk' ?_ fun p hp => ?_
  · exact LCg.fr_but F (fun b o hb ho => h2 b o (by simpa using hb) ho) (Ne.symm he.2.1) he.2.2
  · rcases List.mem_cons.mp hp with rfl | hp
    · exact ⟨h1, he.2⟩
    · have z := N p (.tail _ hp)
      exact ⟨h2 _ _ (hne p hp) z.1, z.2⟩
end
theorem ne_cons {news : Led} {e a : Addr} {o o9 : Obj} (h : ∀ p ∈ (e, o9) :: news, p.1 < a) (hn : ∀ p ∈ news, p.1 ≠ e) : ∀ p ∈ (a, o) :: news, p.1 ≠ e := fun p hp => by
  rcases List.mem_cons.mp hp with rfl | hp
  · exact Nat.ne_of_gt (h _ (.head _))
  · exact hn p hp
theorem drop3 {h₀ h : Heap} {L : Addr} {a b c : Addr × Obj} {l : Led} (N : News h₀ L h (a :: b :: c :: l)) : News h₀ L h (a :: b :: l) := fun p hp => N p (by
  rcases List.mem_cons.mp hp with rfl | hp
  · exact .head _
  · rcases List.mem_cons.mp hp with rfl | hp
    · exact .tail _ (.head _)
    · exact .tail _ (.tail _ (.tail _ hp)))

set_option maxRecDepth 100000 in
set_option maxHeartbeats 4000000 in
theorem form_spec {w : World} {p : Program} {loose : List Str} {mean : ExcName → Option Value} {mg mb : Str → Option Value}
    {x : Str} {tx : Tok} {news : Led}
    (dp un : Nat) (gd : Option (List Code)) (cn : Str) (cs : Scope) (ad : Addr) (ccd : Value) (cl : List (Str × Addr)) (outer : List Env) (A₀ : Around) (base h₀ : Heap) (L : Addr) (m : Str → Option Value) (s : Shared) (Q E : Value → Shared → Prop)
    (B : Below A₀ base outer h₀) (F : Fr h₀ L s.heap m) (X : (heapK w.params).In h₀) (T : Top p loose mean mg mb h₀) (hk : cs.kind = .function) (N : News h₀ L s.heap news)
    (hd : dp + 9 < recursionLimit) (hu : un + 80 < cLine)
    (hret : ∀ e t dx h' tk', Fr h₀ L h' m → News h₀ L h' ((e, excO 44 t (some dx)) :: (t, tup1 [.str x tx]) :: news) → (∀ q ∈ news, q.1 ≠ e ∧ q.1 ≠ t) → Q (.ref e) { s with heap := h', toks := tk' }) :
    wpAny (model PySem.Challenge.rw_pc0360_01.row.prog w) (ktrTop dp un gd cn cs L ad ccd cl outer) (PySem.call (.ref 44) [.str x tx]) Q E s := by
  k_with_none
  k_with "getMethod type:Exception" => (k_here; k_dflt (refine' method_type ?_ ?_ ?_ (by decide +kernel) ?_ ?_ ?_; rotate_right 6; (focus ((k_asm); done)); (focus ((k_asm); done)); (focus ((exact meta_Exc); done)); (focus ((k_is); done)); (focus ((k_handed); done))))
  k_with "call builtin:Exception.__init__" => (k_here; k_dflt (refine' excinit_K ?_ ?_ ?_ ?_ ?_ ?_; rotate_right 6; (focus ((k_asm); done)); (focus ((k_asm); done)); rotate_left 1; (focus ((k_asm); done)); rotate_right 1; (focus ((k_is); done)); (focus ((assumption); done)); k_whole); intro t8 h8 F8 N8 hl8; (try k_sweep); (try dsimp only))
  k_with "setAttr ref" => (k_here; k_dflt (refine' excset_K ?_ ?_ ?_ ?_ ?_ ?_ ?_ ?_; rotate_right 8; (focus ((k_asm); done)); (focus ((k_asm); done)); rotate_left 3; (focus ((k_asm); done)); rotate_right 3; (focus ((k_is); done)); (focus ((k_is); done)); (focus ((k_is); done)); (focus ((first | assumption | exact ne_cons (by assumption) (by assumption)); done)); k_whole); intro dx8 h8 tk8 F8 N8; (try k_sweep); (try dsimp only))
  revert X; k_fill; w_top off; intro X
  have XS := X.keeps F.keep
  obtain ⟨h, g, d, tk, os⟩ := s
  have N1 := N.push F (tup1 [.str x tx])
  have N2 := N1.push (F.push _) (excO 44 h.objs.size none)
  have hlt : ∀ p ∈ news, p.1 < h.objs.size := fun p hp => Heap.lt_size (N p hp).1
  have F2 := (F.push (tup1 [.str x tx])).push (excO 44 h.objs.size none)
  rw [Heap.size_push] at N2
  refine' excG_call PySem.F.excBase_Exception ?hB ?hA ?hN ?hC ?hi ?fI ?fc ?_
  case hC => exact XS _ _ (by k_is)
  case hi => exact looks_findIn XS (by k_is)
  case fI => exact XS _ _ (by k_is)
  case fc => rfl
  case hB => simp
  case hA => simp
  case hN => simp
  have hne : ∀ p ∈ (h.objs.size, tup1 [.str x tx]) :: news, p.1 ≠ h.objs.size + 1 := fun p hp => by
    rcases List.mem_cons.mp hp with rfl | hp
    · exact Nat.ne_of_lt (Nat.lt_succ_self _)
    · exact Nat.ne_of_lt (Nat.lt_succ_of_lt (hlt p hp))
  have hne' : ∀ q ∈ news, q.1 ≠ h.objs.size + 1 ∧ q.1 ≠ h.objs.size := fun q hq => ⟨Nat.ne_of_lt (Nat.lt_succ_of_lt (hlt q hq)), Nat.ne_of_lt (hlt q hq)⟩
  generalize h.objs.size + 1 = e at hne hne' N2 ⊢
  generalize h.objs.size = t0 at hne hne' N1 N2 F2 ⊢
  generalize (h.push (tup1 [.str x tx])).push (excO 44 t0 none) = H at N2 F2 ⊢
  clear XS F N N1 hlt
  refine wpAny_call ?_
  k_dflt ktr_enter
  k_steps
  rename ∀ p ∈ (e, excO 44 t0 none) :: _, _ => hl8
  exact hret _ _ _ _ _ (by assumption) (drop3 (by assumption)) fun q hq => ⟨(hne' q hq).1, Nat.ne_of_lt (hl8 q (.tail _ (.tail _ hq)))⟩
end Pc
end

section
open PySem PySem.W PySem.Spec PySem.Calls PyProof.Rows
namespace Pc

set_option maxRecDepth 100000 in
set_option maxHeartbeats 4000000 in
theorem infoat_spec {w : World} {p : Program} {loose : List Str} {mean : ExcName → Option Value} {mg mb : Str → Option Value}
    {b : Array UInt8} {ks : List Int} {t ta tp : Tok} {i part : Int} {news : Led} (hb : KBw.bInts b = ks) (h0 : 0 ≤ i) (h1 : i + 20 ≤ (ks.length : Int)) (h2 : ks.length ≤ 1000) (h3 : 0 ≤ part) (h4 : part < 256)
    (dp un : Nat) (gd : Option (List Code)) (cn : Str) (cs : Scope) (ad : Addr) (ccd : Value) (cl : List (Str × Addr)) (outer : List Env) (A₀ : Around) (base h₀ : Heap) (L : Addr) (m : Str → Option Value) (s : Shared) (Q E : Value → Shared → Prop)
    (B : Below A₀ base outer h₀) (F : Fr h₀ L s.heap m) (X : (heapK w.params).In h₀) (T : Top p loose mean mg mb h₀) (hk : cs.kind = .function) (N : News h₀ L s.heap news)
    (hd : dp + 12 < recursionLimit) (hu : un + 100 < cLine)
    (hret : ks.getD i.toNat 0 = part → ks.getD (i + 1).toNat 0 = 20 → ∀ (ti sy po : Addr) (t0 t1 t2 t3 t4 t5 : Tok) (h' : Heap) (tk' : Nat),
      News h₀ L h' ((ti, tupO [.ref sy, .int (be2 ks (i + 10)) t2, .ref po, .int (ks.getD (i + 16).toNat 0) t5]) :: (sy, tupO [.int (be2 ks (i + 2)) t0, .int (be6 ks (i + 4)) t1]) :: (po, tupO [.int (be2 ks (i + 12)) t3, .int (be2 ks (i + 14)) t4]) :: news) → Fr h₀ L h' m → Q (.ref ti) { s with heap := h', toks := tk' })
    (hE : ¬ (ks.getD i.toNat 0 = part ∧ ks.getD (i + 1).toNat 0 = 20) → ∀ g₂ e t vs h' tk', Fr h₀ L g₂ m → RaisedS base g₂ (envX cn cs L ad ccd cl :: outer) e (.ref 44) t vs news h' → g₂.UpToSlots h' → E (.ref e) { s with heap := h', toks := tk' }) :
    wpAny (model PySem.Challenge.rw_pc0360_01.row.prog w) (ktrTop dp un gd cn cs L ad ccd cl outer) (PySem.call (.ref 155) [.bytes b t, .int i ta, .int part tp]) Q E s := by
  k_with_none
  k_with "exec Raise some none" => (k_here; k_dflt (refine' raise_own (C := 44) ?_ ?_ ?_ ?_ ?_ ?_; rotate_right 6; (focus ((k_asm); done)); (focus ((k_asm); done)); (focus ((k_is); done)); (focus ((k_is); done)); (focus ((rfl); done)); k_whole))
  k_with "RaisableX" => (k_dflt (refine ⟨_, _, _, rfl, (by k_in), News.get (by k_asm) (List.Mem.head _), ?_⟩))
  k_with "leaving ref" => (k_here; k_dflt (refine' leave_form ?_ ?_ ?_ ?_ ?_; rotate_right 5; (focus ((assumption); done)); (focus ((k_asm); done)); (focus ((k_asm); done)); (focus ((assumption); done))); intro h8 R8 U8; (try dsimp only))
  k_with "call ref" => (k_here; (with_reducible show wpAny _ _ (PySem.call (Value.ref 44) [_]) _ _ _); k_dflt (refine' form_spec _ _ _ _ _ _ _ _ _ _ _ _ _ _ _ _ _ ?_ ?_ ?_ ?_ ?_ ?_ ?_ ?_ ?_; rotate_right 9; (focus ((k_asm); done)); (focus ((k_asm); done)); (focus ((k_asm); done)); (focus ((k_asm); done)); (focus ((first | rfl | assumption); done)); (focus ((k_asm); done)); (focus ((ktr_room); done)); (focus ((ktr_units); done)); k_whole; intro e8 t8 dx8 h8 tk8 F8 N8 hne8; (try k_sweep); (try dsimp only)))
  k_with "call ref" => (k_here; (with_reducible show wpAny _ _ (PySem.call (Value.ref 91) [_, _]) _ _ _); k_dflt (refine' get16_spec ?_ ?_ ?_ ?_ _ _ _ _ _ _ _ _ _ _ _ _ _ _ _ _ _ ?_ ?_ ?_ ?_ ?_ ?_  ?_ ?_ ?_; rotate_right 9; (focus ((k_asm); done)); (focus ((k_asm); done)); (focus ((k_asm); done)); (focus ((k_asm); done)); (focus ((first | rfl | assumption); done)); (focus ((k_asm); done)); (focus ((ktr_room); done)); (focus ((ktr_units); done)); (all_goals skip); rotate_right 4; (focus ((assumption); done)); (focus ((omega); done)); (focus ((omega); done)); (focus ((omega); done)); k_whole; intro t9 h9 tk9 N9 F9; (try k_sweep); (try dsimp only); (try k_fold)))
  k_with "call ref" => (k_here; (with_reducible show wpAny _ _ (PySem.call (Value.ref 98) [_, _]) _ _ _); k_dflt (refine' get48_spec ?_ ?_ ?_ ?_ _ _ _ _ _ _ _ _ _ _ _ _ _ _ _ _ _ ?_ ?_ ?_ ?_ ?_ ?_  ?_ ?_ ?_; rotate_right 9; (focus ((k_asm); done)); (focus ((k_asm); done)); (focus ((k_asm); done)); (focus ((k_asm); done)); (focus ((first | rfl | assumption); done)); (focus ((k_asm); done)); (focus ((ktr_room); done)); (focus ((ktr_units); done)); (all_goals skip); rotate_right 4; (focus ((assumption); done)); (focus ((omega); done)); (focus ((omega); done)); (focus ((omega); done)); k_whole; intro t9 h9 tk9 N9 F9; (try k_sweep); (try dsimp only); (try k_fold)))
  revert X; k_fill; w_top off; intro X
  refine wpAny_call ?_
  k_dflt ktr_enter
  k_steps
  all_goals first
    | exact hE (by intro hh; obtain ⟨ha, hc⟩ := hh; omega) _ _ _ _ _ _ (by assumption) (by assumption) (by assumption)
    | (rename News h₀ L _ _ => NN
       refine' hret ?_ ?_ _ _ _ _ _ _ _ _ _ _ _ (news_cons NN (by k_mem) (news_cons NN (by k_mem) (news_cons NN (by k_mem) ?N))) ?F
       case N => repeat (first | exact NN | (replace NN := news_tail NN))
       case F => assumption
       all_goals omega)
end Pc
end

section
open PySem PySem.W PySem.Spec PySem.Calls PyProof.Rows
namespace Pc
/-- the shape that unpack_lacpdu asks for -/
def Good (ks : List Int) : Prop := 110 ≤ ks.length ∧ ks.getD 0 0 = 1 ∧ 1 ≤ ks.getD 1 0 ∧ ks.getD 2 0 = 1 ∧ ks.getD 3 0 = 20 ∧ ks.getD 22 0 = 2 ∧ ks.getD 23 0 = 20 ∧ ks.getD 42 0 = 3 ∧ ks.getD 43 0 = 16
/-- the dict of a Lacpdu -/
abbrev pduD (P : Params) (ka kb kc : Tok) (a b c : Value) : Obj := dictOf [⟨PyData.keyHash P "actor", .str "actor" ka, a⟩, ⟨PyData.keyHash P "partner", .str "partner" kb, b⟩, ⟨PyData.keyHash P "most_delay", .str "most_delay" kc, c⟩] 3
theorem raisedS_mono {base G : Heap} {l : List Env} {e : Addr} {cls : Value} {t : Addr} {vs : List Value} {news news' : Led} {h : Heap} (hs : ∀ p ∈ news', p ∈ news) (R : RaisedS base G l e cls t vs news h) : RaisedS base G l e cls t vs news' h := by
  obtain ⟨⟨B, h1, h2, h3, h4, h5⟩, h6⟩ := R
  exact ⟨⟨B, h1, h2, fun q hq => h3 q (hs q hq), h4, h5⟩, h6⟩
theorem raisedS_mono' {base G : Heap} {l : List Env} {e : Addr} {cls : Value} {t : Addr} {vs : List Value} {news news' : Led} {h : Heap} (R : RaisedS base G l e cls t vs news h) (hs : ∀ p ∈ news', p ∈ news) : RaisedS base G l e cls t vs news' h := raisedS_mono hs R

set_option maxRecDepth 100000 in
set_option maxHeartbeats 4000000 in
theorem unpack_spec {w : World} {p : Program} {loose : List Str} {mean : ExcName → Option Value} {mg mb : Str → Option Value}
    {b : Array UInt8} {ks : List Int} {t : Tok} {news : Led} (hb : KBw.bInts b = ks) (h2 : ks.length ≤ 1000)
    (dp un : Nat) (gd : Option (List Code)) (cn : Str) (cs : Scope) (ad : Addr) (ccd : Value) (cl : List (Str × Addr)) (outer : List Env) (A₀ : Around) (base h₀ : Heap) (L : Addr) (m : Str → Option Value) (s : Shared) (Q E : Value → Shared → Prop)
    (B : Below A₀ base outer h₀) (F : Fr h₀ L s.heap m) (X : (heapK w.params).In h₀) (T : Top p loose mean mg mb h₀) (hk : cs.kind = .function) (N : News h₀ L s.heap news)
    (hd : dp + 14 < recursionLimit) (hu : un + 120 < cLine)
    (hret : Good ks → ∀ (r d ti sy po ti' sy' po' : Addr) (ka kb kc t0 t1 t2 t3 t4 t5 t0' t1' t2' t3' t4' t5' td : Tok) (h' : Heap) (tk' : Nat),
      News h₀ L h' ((r, instObj 123 d) :: (d, pduD w.params ka kb kc (.ref ti) (.ref ti') (.int (be2 ks 44) td)) ::
        (ti, tupO [.ref sy, .int (be2 ks 12) t2, .ref po, .int (ks.getD 18 0) t5]) :: (sy, tupO [.int (be2 ks 4) t0, .int (be6 ks 6) t1]) :: (po, tupO [.int (be2 ks 14) t3, .int (be2 ks 16) t4]) ::
        (ti', tupO [.ref sy', .int (be2 ks 32) t2', .ref po', .int (ks.getD 38 0) t5']) :: (sy', tupO [.int (be2 ks 24) t0', .int (be6 ks 26) t1']) :: (po', tupO [.int (be2 ks 34) t3', .int (be2 ks 36) t4']) :: news) →
      Fr h₀ L h' m → Q (.ref r) { s with heap := h', toks := tk' })
    (hE : ¬ Good ks → ∀ g₂ e t vs h' tk', Fr h₀ L g₂ m → RaisedS base g₂ (envX cn cs L ad ccd cl :: outer) e (.ref 44) t vs news h' → g₂.UpToSlots h' → E (.ref e) { s with heap := h', toks := tk' }) :
    wpAny (model PySem.Challenge.rw_pc0360_01.row.prog w) (ktrTop dp un gd cn cs L ad ccd cl outer) (PySem.call (.ref 169) [.bytes b t]) Q E s := by
  k_with_none
  k_with "exec Raise some none" => (k_here; k_dflt (refine' raise_own (C := 44) ?_ ?_ ?_ ?_ ?_ ?_; rotate_right 6; (focus ((k_asm); done)); (focus ((k_asm); done)); (focus ((k_is); done)); (focus ((k_is); done)); (focus ((rfl); done)); k_whole))
  k_with "RaisableX" => (k_dflt (refine ⟨_, _, _, rfl, (by k_in), News.get (by k_asm) (List.Mem.head _), ?_⟩))
  k_with "leaving ref" => (k_here; k_dflt (refine' leave_form ?_ ?_ ?_ ?_ ?_; rotate_right 5; (focus ((assumption); done)); (focus ((k_asm); done)); (focus ((k_asm); done)); (focus ((assumption); done))); intro h8 R8 U8; (try dsimp only))
  k_with "call ref" => (k_here; (with_reducible show wpAny _ _ (PySem.call (Value.ref 44) [_]) _ _ _); k_dflt (refine' form_spec _ _ _ _ _ _ _ _ _ _ _ _ _ _ _ _ _ ?_ ?_ ?_ ?_ ?_ ?_ ?_ ?_ ?_; rotate_right 9; (focus ((k_asm); done)); (focus ((k_asm); done)); (focus ((k_asm); done)); (focus ((k_asm); done)); (focus ((first | rfl | assumption); done)); (focus ((k_asm); done)); (focus ((ktr_room); done)); (focus ((ktr_units); done)); k_whole; intro e8 t8 dx8 h8 tk8 F8 N8 hne8; (try k_sweep); (try dsimp only)))
  k_with "call ref" => (k_here; (with_reducible show wpAny _ _ (PySem.call (Value.ref 91) [_, _]) _ _ _); k_dflt (refine' get16_spec ?_ ?_ ?_ ?_ _ _ _ _ _ _ _ _ _ _ _ _ _ _ _ _ _ ?_ ?_ ?_ ?_ ?_ ?_  ?_ ?_ ?_; rotate_right 9; (focus ((k_asm); done)); (focus ((k_asm); done)); (focus ((k_asm); done)); (focus ((k_asm); done)); (focus ((first | rfl | assumption); done)); (focus ((k_asm); done)); (focus ((ktr_room); done)); (focus ((ktr_units); done)); (all_goals skip); rotate_right 4; (focus ((assumption); done)); (focus ((omega); done)); (focus ((omega); done)); (focus ((omega); done)); k_whole; intro t9 h9 tk9 N9 F9; (try k_sweep); (try dsimp only); (try k_fold)))
  k_with "call ref" => (k_here; (with_reducible show wpAny _ _ (PySem.call (Value.ref 155) [_, _, _]) _ _ _); k_dflt (refine' infoat_spec ?_ ?_ ?_ ?_ ?_ ?_ _ _ _ _ _ _ _ _ _ _ _ _ _ _ _ _ _ ?_ ?_ ?_ ?_ ?_ ?_  ?_ ?_ ?_ ?_; rotate_right 10; (focus ((k_asm); done)); (focus ((k_asm); done)); (focus ((k_asm); done)); (focus ((k_asm); done)); (focus ((first | rfl | assumption); done)); (focus ((k_asm); done)); (focus ((ktr_room); done)); (focus ((ktr_units); done)); (all_goals skip); rotate_right 6; (focus ((assumption); done)); (focus ((omega); done)); (focus ((omega); done)); (focus ((omega); done)); (focus ((omega); done)); (focus ((omega); done)); (all_goals k_whole); rotate_left; (intro g9 g₂9 e9 t9 vs9 h9 tk9 F9 R9 U9; (try k_sweep); (try dsimp only); (try k_fold)); rotate_right; (intro g9 g9' ti9 sy9 po9 t09 t19 t29 t39 t49 t59 h9 tk9 N9 F9; (try k_sweep); (try dsimp only); (try k_fold))))
  k_with "leaving ref" => (k_here; k_dflt (refine' leave_onS ?_ ?_ ?_ ?_ ?_; rotate_right 3; (focus ((assumption); done)); rotate_right 1; (focus ((assumption); done)); rotate_right 1; (focus ((assumption); done)); (focus ((assumption); done)); k_whole); intro h8 R8 U8; (try dsimp only))
  have hE' : ∀ {g₂ e t vs h' tk'}, RaisedS base g₂ (envX cn cs L ad ccd cl :: outer) e (.ref 44) t vs news h' → Fr h₀ L g₂ m → g₂.UpToSlots h' → ¬ Good ks → E (.ref e) { s with heap := h', toks := tk' } := fun R F U n => hE n _ _ _ _ _ _ F R U
  revert X; k_fill; w_top off; intro X
  refine wpAny_call ?_
  k_dflt ktr_enter
  k_steps
  all_goals first
    | (refine hE' (by first | assumption | exact raisedS_mono' (by assumption) (by intro p hp; simp only [List.mem_cons]; simp only [hp, or_true])) (by assumption) (by assumption) ?_
       rintro ⟨a1, a2, a3, a4, a5, a6, a7, a8, a9⟩
       (try simp only [Int.reduceAdd, Int.reduceMul, Int.reduceToNat] at *)
       omega)
    | (rename News h₀ L _ _ => NN8
       refine' hret ?_ _ _ _ _ _ _ _ _ _ _ _ _ _ _ _ _ _ _ _ _ _ _ _ _ _ _ (news_cons NN8 (by k_mem) (news_cons NN8 (by k_mem) (news_cons NN8 (by k_mem) (news_cons NN8 (by k_mem) (news_cons NN8 (by k_mem) (news_cons NN8 (by k_mem) (news_cons NN8 (by k_mem) (news_cons NN8 (by k_mem) ?_)))))))) (by assumption)
       · (try simp only [Int.reduceAdd, Int.reduceMul, Int.reduceToNat] at *)
         refine ⟨?_, ?_, ?_, ?_, ?_, ?_, ?_, ?_, ?_⟩ <;> omega
       · repeat (first | exact NN8 | (replace NN8 := news_tail NN8)))
end Pc
end

section
open PySem PySem.W PySem.Spec PySem.Calls PyProof.Rows
namespace Pc

set_option maxRecDepth 100000 in
set_option maxHeartbeats 4000000 in
theorem refused_spec {w : World} {p : Program} {loose : List Str} {mean : ExcName → Option Value} {mg mb : Str → Option Value}
    {x : Addr} {vs : List Value} {ns : List Int} {k : Nat} {news : Led} (hi : IntsAre vs ns) (hl : ns.length ≤ 1000) (hin : KBa.In ns) (hbad : ¬ Good ns) (hm : (x, listOf vs.toArray k) ∈ news)
    (dp un : Nat) (gd : Option (List Code)) (cn : Str) (cs : Scope) (ad : Addr) (ccd : Value) (outer : List Env) (A₀ : Around) (base h₀ : Heap) (L : Addr) (m : Str → Option Value) (s : Shared) (Q E : Value → Shared → Prop)
    (B : Below A₀ base outer h₀) (F : Fr h₀ L s.heap m) (X : (heapK w.params).In h₀) (T : Top p loose mean mg mb h₀) (hk : cs.kind = .function) (XB : (heapK w.params).In base) (TB : Top p loose mean mg mb base) (D : KtsDicts (outer.filterMap (·.frame)) h₀) (N : News h₀ L s.heap news)
    (hd : dp + 16 < recursionLimit) (hu : un + 140 < cLine)
    (hret : ∀ h₀' h' tk', KtsTurn (outer.filterMap (·.frame)) h₀ h₀' → Fr h₀' L h' m → News h₀' L h' news → Below A₀ base outer h₀' → (Pc.heapK w.params).In h₀' → Top p loose mean mg mb h₀' → KtsDicts (outer.filterMap (·.frame)) h₀' → Q (.bool true) { s with heap := h', toks := tk' }) :
    wpAny (model PySem.Challenge.rw_pc0360_01.row.prog w) (ktrTop dp un gd cn cs L ad ccd [] outer) (PySem.call (.ref 216) [.ref x]) Q E s := by
  k_with_none
  k_with "call ref" => (k_here; (with_reducible show wpAny _ _ (PySem.call (Value.ref 169) [_]) _ _ _); k_dflt (refine' unpack_spec ?_ ?_ _ _ _ _ _ _ _ _ _ _ _ _ _ _ _ _ _ ?_ ?_ ?_ ?_ ?_ ?_  ?_ ?_ ?_ ?_; rotate_right 10; (focus ((k_asm); done)); (focus ((k_asm); done)); (focus ((k_asm); done)); (focus ((k_asm); done)); (focus ((first | rfl | assumption); done)); (focus ((k_asm); done)); (focus ((ktr_room); done)); (focus ((ktr_units); done)); (all_goals skip); rotate_right 2; (focus ((first | assumption | exact KBa.ints_make (by assumption)); done)); (focus ((omega); done)); (all_goals k_whole); rotate_left; (intro g9 g₂9 e9 t9 vs9 h9 tk9 F9 R9 U9; (try k_sweep); (try dsimp only); (try k_fold)); rotate_right; (intro g9 r9 d9 ti9 sy9 po9 ti9' sy9' po9' ka9 kb9 kc9 t09 t19 t29 t39 t49 t59 t09' t19' t29' t39' t49' t59' td9 h9 tk9 N9 F9; (try k_sweep); (try dsimp only); (try k_fold))))
  replace N := news_cons N hm N
  revert X; k_fill; w_top off; intro X
  refine wpAny_call ?_
  k_dflt (refine' code_defS ?k1 ?k2 ?k3 ?k4 ?k5 ?XB ?TB ?D ?T0 ?kA ?k6 ?k7 ?k8 ?k9 ?kB ?_ ?cK ?c2 ?c3 ?c4 ?c5; (case kA => exact rfl); (case k2 => k_asm); (case k1 => k_asm); (case XB => assumption); (case TB => assumption); (case D => assumption); (case T0 => exact KtsTurn.refl); (case k3 => k_asm); (case k4 => k_asm); (case k5 => k_asm); (case k6 => k_is); (case k7 => k_is); (case k8 => ktr_room); (case k9 => exact BindsTo.of_eq rfl); (case kB => exact locs rfl); (case cK => assumption); (case c2 => exact rfl); (case c3 => exact rfl); (case c4 => exact rfl); (case c5 => decide); k_whole; intro g' L' h' FG' F' N' B' X' T' D'; (try dsimp only); (try k_lift B'); (try k_fold))
  k_steps
  · exact absurd (by assumption) hbad
  · exact hret _ _ _ (by assumption) (by assumption) (news_tail (by assumption)) (by assumption) (by assumption) (by assumption) (by assumption)
end Pc
end

section
open PySem PySem.W PySem.Spec PySem.Calls PyProof.Rows
namespace Pc
section
variable {prog : Program} {w : World} {A : Around} {E : Value → Shared → Prop} {s : Shared}
theorem int_no_bytes : typeLookup (.type "int") "__bytes__" = pure none := by rw [typeLookup_type, builtinLookup_eq_fast]; kernel_rfl
theorem bytesn_new {n : Int} {t : Tok} {Q : Value → Shared → Prop} (h0 : 0 ≤ n) (h1 : n ≤ 1000)
    (hQ : Q (.bytes (Array.replicate n.toNat 0) s.toks) { s with toks := s.toks + 1 }) :
    codeAny (model prog w) A (.call (.builtin "bytes.__new__") ⟨[.type "bytes", .int n t], []⟩) (wants Q E) s := by
  refine codeAny_of_tree ?_
  show wpAny _ A.in1 (do checkBuiltinCall "bytes.__new__" ⟨[.type "bytes", .int n t], []⟩; again (.builtin "bytes.__new__" ⟨[.type "bytes", .int n t], []⟩)) _ _ s
  refine wpAny_bind (wpAny_of_eq (F.bm_newCall _) (wpAny_pure ⟨plainId_quiet F.bm_plain _, codeAny_builtin F.bm_entry ?_⟩))
  rw [Around.under_plainId F.bm_plain _]
  unfold Builtin.«bytes.__new__»
  refine wpAny_bind (wpAny_of_eq (a := true) rfl ?_)
  refine bm_if_false rfl ?_
  refine wpAny_bind (wpAny_of_eq F.bm_sub ?_)
  refine bm_if_false rfl ?_
  refine wpAny_bind (wpAny_of_eq (F.bm_bind _) ?_)
  refine wpAny_bind (wpAny_of_eq (a := ()) rfl ?_)
  refine wpAny_bind (wpAny_of_eq (a := ()) rfl ?_)
  refine bm_if_false rfl ?_
  refine wpAny_bind (wpAny_specialOf (typeIs_int s n t) int_no_bytes ?_)
  refine wpAny_bind (wpAny_bind ?_)
  refine wpAny_of_eq (a := none) rfl ?_
  refine wpAny_pure ?_
  refine bm_if_false rfl ?_
  refine wpAny_bind (wpAny_specialOf (typeIs_int s n t) F.slot_int_index.lookup ?_)
  refine bm_if_false rfl ?_
  refine wpAny_bind (wpAny_attempt ?_)
  refine wpAny_of_eq (a := n) rfl ?_
  dsimp only
  have c1 : (!Builtin.Bytes.fitsIndex n) = false := by simp [Builtin.Bytes.fitsIndex]; omega
  have c2 : Builtin.Bytes.tooLong n.toNat = false := by simp [Builtin.Bytes.tooLong, sizeLine_eq]; omega
  rw [c1]
  refine bm_if_false rfl ?_
  rw [if_neg (by omega), if_neg (by omega), c2]
  refine bm_if_false rfl ?_
  refine wpAny_bind (wpAny_rule ?_)
  refine wpAny_bind (wpAny_mkBytes ?_ (by rw [Array.size_replicate, sizeLine_eq]; omega))
  refine wpAny_of_eq (a := .done (.ret _)) rfl ?_
  exact hQ
theorem call_bytes_n {n : Int} {t : Tok} {Q : Value → Shared → Prop} (h0 : 0 ≤ n) (h1 : n ≤ 1000)
    (hQ : Q (.bytes (Array.replicate n.toNat 0) s.toks) { s with toks := s.toks + 1 }) : wpAny (model prog w) A (call (.type "bytes") [.int n t]) Q E s := by
  refine callType_codes (Q₁ := fun obj s₁ => s₁.TypeIs obj "bytes" ∧ Q obj s₁) F.bm_called (F.bm_typeCall _) F.entry_object_init
    (bytesn_new h0 h1 ⟨PySem.W.typeIs_bytes _ _ _, hQ⟩) fun obj s₁ h₁ => ?_
  exact ⟨h₁.1, F.args_object_init_2 obj _, object_init_meets F.bm_called.init.lookup F.bm_called.made (by decide) prog w A.in1 _ s₁ ⟨h₁.1, rfl, h₁.2⟩⟩
theorem bInts_zero (n : Nat) : KBw.bInts (Array.replicate n 0) = List.replicate n 0 := by
  show (Array.replicate n (0 : UInt8)).toList.map (fun c => ((c.toNat : Nat) : Int)) = _
  rw [Array.toList_replicate, List.map_replicate]
  rfl
theorem bytes_n {n : Int} {t : Tok} {k : Nat} {Q : Value → Shared → Prop} (h0 : 0 ≤ n) (h1 : n ≤ 1000) (hk : n.toNat = k)
    (hQ : ∀ b t' tk', KBw.bInts b = List.replicate k 0 → Q (.bytes b t') { s with toks := tk' }) : wpAny (model prog w) A (call (.type "bytes") [.int n t]) Q E s :=
  call_bytes_n h0 h1 (hQ _ _ _ (by rw [bInts_zero, hk]))
end
end Pc
end

section
open PySem PySem.W PySem.Spec PySem.Calls PyProof.Rows
namespace Pc
abbrev packRow (x0 x1 k p0 p1 st y0 y1 l q0 q1 su md : Int) : List Int := [1, 1] ++ infoRow 1 x0 x1 k p0 p1 st ++ infoRow 2 y0 y1 l q0 q1 su ++ [3, 16] ++ num2 md ++ List.replicate 12 0 ++ List.replicate 52 0

set_option maxRecDepth 100000 in
set_option maxHeartbeats 4000000 in
theorem pack_spec {w : World} {p : Program} {loose : List Str} {mean : ExcName → Option Value} {mg mb : Str → Option Value}
    {r d ti sy po ti' sy' po' : Addr} {ka kb kc : Tok} {x0 x1 k p0 p1 st y0 y1 l q0 q1 su md : Int} {t0 t1 t2 t3 t4 t5 t0' t1' t2' t3' t4' t5' td : Tok} {news : Led}
    (h1 : 0 ≤ x0) (h2 : x0 < 65536) (h3 : 0 ≤ x1) (h4 : x1 < 281474976710656) (h5 : 0 ≤ k) (h6 : k < 65536) (h7 : 0 ≤ p0) (h8 : p0 < 65536) (h9 : 0 ≤ p1) (h10 : p1 < 65536) (h11 : 0 ≤ st) (h12 : st < 256)
    (h1' : 0 ≤ y0) (h2' : y0 < 65536) (h3' : 0 ≤ y1) (h4' : y1 < 281474976710656) (h5' : 0 ≤ l) (h6' : l < 65536) (h7' : 0 ≤ q0) (h8' : q0 < 65536) (h9' : 0 ≤ q1) (h10' : q1 < 65536) (h11' : 0 ≤ su) (h12' : su < 256)
    (h13 : 0 ≤ md) (h14 : md < 65536)
    (n1 : (r, instObj 123 d) ∈ news) (n2 : (d, pduD w.params ka kb kc (.ref ti) (.ref ti') (.int md td)) ∈ news)
    (m1 : (ti, tupO [.ref sy, .int k t2, .ref po, .int st t5]) ∈ news) (m2 : (sy, tupO [.int x0 t0, .int x1 t1]) ∈ news) (m3 : (po, tupO [.int p0 t3, .int p1 t4]) ∈ news)
    (m1' : (ti', tupO [.ref sy', .int l t2', .ref po', .int su t5']) ∈ news) (m2' : (sy', tupO [.int y0 t0', .int y1 t1']) ∈ news) (m3' : (po', tupO [.int q0 t3', .int q1 t4']) ∈ news)
    (dp un : Nat) (gd : Option (List Code)) (cn : Str) (cs : Scope) (ad : Addr) (ccd : Value) (cl : List (Str × Addr)) (outer : List Env) (A₀ : Around) (base h₀ : Heap) (L : Addr) (m : Str → Option Value) (s : Shared) (Q E : Value → Shared → Prop)
    (B : Below A₀ base outer h₀) (F : Fr h₀ L s.heap m) (X : (heapK w.params).In h₀) (T : Top p loose mean mg mb h₀) (hk : cs.kind = .function) (N : News h₀ L s.heap news)
    (hd : dp + 8 < recursionLimit) (hu : un + 80 < cLine)
    (hret : ∀ (b : Array UInt8) (t' : Tok) (h' : Heap) (tk' : Nat),
      News h₀ L h' news → Fr h₀ L h' m → KBw.bInts b = packRow x0 x1 k p0 p1 st y0 y1 l q0 q1 su md → Q (.bytes b t') { s with heap := h', toks := tk' }) :
    wpAny (model PySem.Challenge.rw_pc0360_01.row.prog w) (ktrTop dp un gd cn cs L ad ccd cl outer) (PySem.call (.ref 162) [.ref r]) Q E s := by
  k_with_none
  k_with "call type:bytes" => (k_here; (with_reducible show wpAny _ _ (PySem.call (Value.type "bytes") [Value.ref _]) _ _ _); k_dflt (refine' KBa.make_K ?_ ?_ ?_ ?_ ?_ ?_ ?_ ?_; rotate_right 8; (focus ((k_asm); done)); (focus ((k_asm); done)); (focus ((rfl); done)); (focus ((exact News.isList (by k_asm) (by k_mem)); done)); (focus ((repeat constructor); done)); (focus (((repeat' (first | exact in_nil | refine in_cons ?_ ?_ ?_)) <;> (first | exact b255_lo _ | exact b255_hi _ | omega)); done)); (focus (((simp only [List.length_cons, List.length_nil]; omega)); done))); intro _ _ _ F' N' kbaIn; (try k_sweep); (try dsimp only); (try k_fold))
  k_with "call ref" => (k_here; (with_reducible show wpAny _ _ (PySem.call (Value.ref 77) [_]) _ _ _); k_dflt (refine' put16_spec ?_ ?_ _ _ _ _ _ _ _ _ _ _ _ _ _ _ _ _ _ ?_ ?_ ?_ ?_ ?_ ?_  ?_ ?_ ?_; rotate_right 9; (focus ((k_asm); done)); (focus ((k_asm); done)); (focus ((k_asm); done)); (focus ((k_asm); done)); (focus ((first | rfl | assumption); done)); (focus ((k_asm); done)); (focus ((ktr_room); done)); (focus ((ktr_units); done)); (all_goals skip); rotate_right 2; (focus ((first | assumption | omega); done)); (focus ((first | assumption | omega); done)); k_whole; intro b9 t9 h9 tk9 N9 F9 hb9; (try k_sweep); (try dsimp only); (try k_fold)))
  k_with "call ref" => (k_here; (with_reducible show wpAny _ _ (PySem.call (Value.ref 148) [_, _]) _ _ _); k_dflt (refine' packed_spec ?_ ?_ ?_ ?_ ?_ ?_ ?_ ?_ ?_ ?_ ?_ ?_ ?_ ?_ ?_ ?_ ?_ _ _ _ _ _ _ _ _ _ _ _ _ _ _ _ _ _ ?_ ?_ ?_ ?_ ?_ ?_  ?_ ?_ ?_; rotate_right 9; (focus ((k_asm); done)); (focus ((k_asm); done)); (focus ((k_asm); done)); (focus ((k_asm); done)); (focus ((first | rfl | assumption); done)); (focus ((k_asm); done)); (focus ((ktr_room); done)); (focus ((ktr_units); done)); (all_goals skip); rotate_right 3; (focus ((k_mem); done)); (focus ((k_mem); done)); (focus ((k_mem); done)); rotate_right 14; (focus ((first | assumption | omega); done)); (focus ((first | assumption | omega); done)); (focus ((first | assumption | omega); done)); (focus ((first | assumption | omega); done)); (focus ((first | assumption | omega); done)); (focus ((first | assumption | omega); done)); (focus ((first | assumption | omega); done)); (focus ((first | assumption | omega); done)); (focus ((first | assumption | omega); done)); (focus ((first | assumption | omega); done)); (focus ((first | assumption | omega); done)); (focus ((first | assumption | omega); done)); (focus ((first | assumption | omega); done)); (focus ((first | assumption | omega); done)); k_whole; intro b9 t9 h9 tk9 N9 F9 hb9; (try k_sweep); (try dsimp only); (try k_fold)))
  k_with "call type:bytes" => (k_here; (with_reducible show wpAny _ _ (PySem.call (Value.type "bytes") [Value.int _ _]) _ _ _); k_dflt (refine' bytes_n ?_ ?_ ?_ ?_; rotate_right 4; (focus ((omega); done)); (focus ((omega); done)); (focus ((exact rfl); done)); k_whole); intro b8 t8 tk8 hb8; (try dsimp only); (try k_fold))
  k_with "binaryOp Add bytes bytes" => (k_here; k_dflt (refine' KBa.add_K ?_ ?_ ?_ ?_; rotate_right 4; (focus ((first | assumption | exact KBa.ints_make (by assumption)); done)); (focus ((first | assumption | exact KBa.ints_make (by assumption)); done)); (focus (((simp only [List.length_append, List.length_cons, List.length_nil, List.length_replicate]; decide)); done)); k_whole); intro t8 tk8 hb8; (try dsimp only); (try k_fold))
  replace N := news_cons N n1 (news_cons N n2 (news_cons N m1 (news_cons N m2 (news_cons N m3 (news_cons N m1' (news_cons N m2' (news_cons N m3' N)))))))
  clear n1 n2 m1 m2 m3 m1' m2' m3'
  revert X; k_fill; w_top off; intro X
  refine wpAny_call ?_
  k_dflt ktr_enter
  k_steps
  exact hret _ _ _ _ (by (rename News h₀ L _ _ => NN); repeat (first | exact NN | (replace NN := news_tail NN))) (by assumption) (by (rename KBw.bInts _ = _ => e); exact e)
end Pc
end

section
open PySem PySem.W PySem.Spec PySem.Calls PyProof.Rows
namespace Pc
theorem ints_cons_eq {n k : Int} {t : Tok} {vs : List Value} {ns : List Int} (e : n = k) (h : IntsAre vs ns) : IntsAre (.int n t :: vs) (k :: ns) := e ▸ .cons n t h
theorem off1_ne {D : Addr} : ∀ {l : Led}, LCg.Off1 D l → ∀ p ∈ l, p.1 ≠ D
  | [], _, _, h => nomatch h
  | q :: r, x, p, hp => by
    rcases List.mem_cons.mp hp with rfl | hp
    · exact x.1
    · exact off1_ne x.2 p hp

set_option maxRecDepth 100000 in
set_option maxHeartbeats 4000000 in
theorem num_spec2 {w : World} {p : Program} {loose : List Str} {mean : ExcName → Option Value} {mg mb : Str → Option Value}
    {v : Int} {t u : Tok} {news : Led} (hv : 0 ≤ v) (hv' : v < 65536)
    (dp un : Nat) (gd : Option (List Code)) (cn : Str) (cs : Scope) (ad : Addr) (ccd : Value) (cl : List (Str × Addr)) (outer : List Env) (A₀ : Around) (base h₀ : Heap) (L : Addr) (m : Str → Option Value) (s : Shared) (Q E : Value → Shared → Prop)
    (B : Below A₀ base outer h₀) (F : Fr h₀ L s.heap m) (X : (heapK w.params).In h₀) (T : Top p loose mean mg mb h₀) (hk : cs.kind = .function) (N : News h₀ L s.heap news)
    (hd : dp + 3 < recursionLimit) (hu : un + 24 < cLine)
    (hret : ∀ (r : Addr) (vs : List Value) (k : Nat) (h' : Heap) (tk' : Nat),
      News h₀ L h' ((r, listOf vs.toArray k) :: news) → Fr h₀ L h' m → (∀ p ∈ news, p.1 ≠ r) → IntsAre vs [v / 256, v % 256] → Q (.ref r) { s with heap := h', toks := tk' }) :
    wpAny (model PySem.Challenge.rw_pc0360_01.row.prog w) (ktrTop dp un gd cn cs L ad ccd cl outer) (PySem.call (.ref 202) [.int v t, .int 2 u]) Q E s := by
  k_with_none
  k_with "CompEnd" => (k_dflt (refine LCg.CompEnd.intro (by assumption) (by assumption) _ (fun _ h => h) (by assumption) True.intro ?_))
  k_with "CompSrc" => (k_here; k_dflt (refine LCg.CompSrc.range (by rfl) (by k_asm) (by k_asm) (by assumption) (by first | decide | rfl) (by first | rfl | decide) (by first | size_fits | exact Nat.le_of_ble_eq_true rfl) ?_; intro g'; lcg_lit))
  revert X; k_fill; w_top off; intro X
  refine wpAny_call ?_
  k_dflt (refine' code_defC ?k1 ?k2 ?k3 ?k4 ?k5 ?kA ?kF ?kK ?k6 ?k7 ?k8 ?k9 ?kB ?kD ?_ ?c2 ?c3 ?c4; (case kA => exact rfl); (case kF => exact rfl); (case kK => assumption); (case k1 => k_asm); (case k2 => k_asm); (case k3 => k_asm); (case k4 => k_asm); (case k5 => k_asm); (case k6 => k_is); (case k7 => k_is); (case k8 => ktr_room); (case k9 => exact BindsTo.of_eq rfl); (case kB => exact rfl); (case kD => decide +kernel); (case c2 => exact rfl); (case c3 => exact rfl); (case c4 => exact rfl); k_whole; intro g' L' h' tk' cells' FG' F' N' Y' B' X' T' l1; (try k_lt l1); k_cells Y'; (try simp only [List.cons_append, List.nil_append] at N'); (try dsimp only); (try k_lift B'); (try k_fold))
  k_steps
  rename News h₀ L _ _ => NN8
  rename (_ ∧ _ ∧ LCg.Off1 _ news) => oo
  refine hret _ _ _ _ _ (news_cons NN8 (List.Mem.head _) ?_) (by assumption) (off1_ne oo.2.2) ?_
  · repeat (first | exact NN8 | (replace NN8 := news_tail NN8))
  · repeat' (first | exact IntsAre.nil | refine ints_cons_eq ?_ ?_)
    all_goals (simp [Int.fdiv_eq_ediv_of_nonneg, Int.fmod_eq_emod_of_nonneg]; try omega)

set_option maxRecDepth 100000 in
set_option maxHeartbeats 4000000 in
theorem num_spec6 {w : World} {p : Program} {loose : List Str} {mean : ExcName → Option Value} {mg mb : Str → Option Value}
    {v : Int} {t u : Tok} {news : Led} (hv : 0 ≤ v) (hv' : v < 281474976710656)
    (dp un : Nat) (gd : Option (List Code)) (cn : Str) (cs : Scope) (ad : Addr) (ccd : Value) (cl : List (Str × Addr)) (outer : List Env) (A₀ : Around) (base h₀ : Heap) (L : Addr) (m : Str → Option Value) (s : Shared) (Q E : Value → Shared → Prop)
    (B : Below A₀ base outer h₀) (F : Fr h₀ L s.heap m) (X : (heapK w.params).In h₀) (T : Top p loose mean mg mb h₀) (hk : cs.kind = .function) (N : News h₀ L s.heap news)
    (hd : dp + 3 < recursionLimit) (hu : un + 24 < cLine)
    (hret : ∀ (r : Addr) (vs : List Value) (k : Nat) (h' : Heap) (tk' : Nat),
      News h₀ L h' ((r, listOf vs.toArray k) :: news) → Fr h₀ L h' m → (∀ p ∈ news, p.1 ≠ r) → IntsAre vs (num6 v) → Q (.ref r) { s with heap := h', toks := tk' }) :
    wpAny (model PySem.Challenge.rw_pc0360_01.row.prog w) (ktrTop dp un gd cn cs L ad ccd cl outer) (PySem.call (.ref 202) [.int v t, .int 6 u]) Q E s := by
  k_with_none
  k_with "CompEnd" => (k_dflt (refine LCg.CompEnd.intro (by assumption) (by assumption) _ (fun _ h => h) (by assumption) True.intro ?_))
  k_with "CompSrc" => (k_here; k_dflt (refine LCg.CompSrc.range (by rfl) (by k_asm) (by k_asm) (by assumption) (by first | decide | rfl) (by first | rfl | decide) (by first | size_fits | exact Nat.le_of_ble_eq_true rfl) ?_; intro g'; lcg_lit))
  revert X; k_fill; w_top off; intro X
  refine wpAny_call ?_
  k_dflt (refine' code_defC ?k1 ?k2 ?k3 ?k4 ?k5 ?kA ?kF ?kK ?k6 ?k7 ?k8 ?k9 ?kB ?kD ?_ ?c2 ?c3 ?c4; (case kA => exact rfl); (case kF => exact rfl); (case kK => assumption); (case k1 => k_asm); (case k2 => k_asm); (case k3 => k_asm); (case k4 => k_asm); (case k5 => k_asm); (case k6 => k_is); (case k7 => k_is); (case k8 => ktr_room); (case k9 => exact BindsTo.of_eq rfl); (case kB => exact rfl); (case kD => decide +kernel); (case c2 => exact rfl); (case c3 => exact rfl); (case c4 => exact rfl); k_whole; intro g' L' h' tk' cells' FG' F' N' Y' B' X' T' l1; (try k_lt l1); k_cells Y'; (try simp only [List.cons_append, List.nil_append] at N'); (try dsimp only); (try k_lift B'); (try k_fold))
  k_steps
  rename News h₀ L _ _ => NN8
  rename (_ ∧ _ ∧ LCg.Off1 _ news) => oo
  refine hret _ _ _ _ _ (news_cons NN8 (List.Mem.head _) ?_) (by assumption) (off1_ne oo.2.2) ?_
  · repeat (first | exact NN8 | (replace NN8 := news_tail NN8))
  · repeat' (first | exact IntsAre.nil | refine ints_cons_eq ?_ ?_)
    all_goals (simp [Int.fdiv_eq_ediv_of_nonneg, Int.fmod_eq_emod_of_nonneg]; try omega)
end Pc
end

section
open PySem PySem.W PySem.Spec PySem.Calls PyProof.Rows
namespace Pc
/-- what the callee does not ask for stands in its ground -/
def Kept (g : Heap) (all need : Led) : Prop := ∀ p ∈ all, p.1 ∉ need.map (·.1) → g.get? p.1 = some p.2
section
variable {prog : Program} {w : World} {A A₀ : Around} {s : Shared} {K : Frag} {L : Addr} {h₀ base : Heap} {m mg mb : Str → Option Value} {all : Led} {p : Program} {loose : List Str} {mean : ExcName → Option Value}
theorem code_defF {env : Env} {outer : List Env} {R : Result → Shared → Prop} {name qual : Str} {params : Arguments} {body : List Stmt} {scope : Scope} {dV kV doc pm cdv ct oc : Value} {an od : Option Addr} {osl : Array (Option Value)} {f : Addr} {args : Args} {binds : List (Str × Value)}
    (need : Led) (sub : ∀ q ∈ need, q ∈ all)
    (B : Below A₀ base outer h₀) (F : Fr h₀ L s.heap m) (X₀ : K.In h₀) (N : News h₀ L s.heap all) (T : Top p loose mean mg mb h₀) (hA : A.frames = some (env :: outer)) (hf : env.frame = some L) (hke : env.scope.kind = .function)
    (ho : K.lookup f = some ⟨oc, od, .func (fnOf name qual params body scope dV kV doc pm an cdv ct), osl⟩) (hcd : codeIn K cdv qual = true) (hroom : A.depth < recursionLimit)
    (hbind : BindsTo s (fnOf name qual params body scope dV kV doc pm an cdv ct) args binds) (hloc : ∀ y ∈ binds, scope.names.lookup y.1 = some .local)
    (h : ∀ g L' h₁, Fr h₀ L g m → Fr g L' h₁ (fun y => binds.reverse.lookup y) → News g L' h₁ need → Below A base (env :: outer) g → K.In g → Top p loose mean mg mb g → Kept g all need → (∀ q ∈ all, q.1 < L') →
      wpAny (model prog w) (A.deeper (envOf qual scope L' f cdv)) (execs body (envOf qual scope L' f cdv))
        (fun fl s' => LeaveK h₀ L m g R (match fl with | .ret v => v | _ => .none) s')
        (fun e s' => wpAny (model prog w) (A.deeper (envOf qual scope L' f cdv)) (leaving (envOf qual scope L' f cdv) e) (fun _ s'' => R (.error e) s'') (fun e' s'' => R (.error e') s'') s')
        { s with heap := h₁, toks := s.toks + binds.length })
    (hco : scope.isCoroutine = false) (hgen : scope.isGenerator = false) (hk : scope.kind = .function)
    (hcell : ∀ x ∈ scope.names, x.2 ≠ .cell) : codeAny (model prog w) A (.call (.ref f) args) R s := by
  have Nn : News h₀ L s.heap need := fun q hq => N q (sub q hq)
  obtain ⟨FG, BG, st, lv⟩ := groundX (R := R) B F Nn hA hf hke
  refine codeAny_call_def (fd := fnOf name qual params body scope dV kV doc pm an cdv ct) (body := body) (binds := binds) hroom ((X₀.keeps F.keep) _ _ ho) rfl (T.nolimit.keeps F.keep) (codeRec_of (X₀.keeps F.keep) hcd) rfl hbind hcell hloc (fun h₁ hns hk₁ => ?_) hco hgen hk
  exact wpAny_mono (h _ s.heap.objs.size h₁ FG ⟨hns, fun b o e => hk₁ b o (of_hideAll _ e), Nat.le_of_eq (hideAll_size _ _)⟩
    (fun q hq => ⟨hk₁ _ _ (Nn q hq).1, Nat.ne_of_lt (Heap.lt_size (Nn q hq).1), hideAll_none _ (List.mem_map_of_mem hq)⟩) BG (X₀.keeps st) (T.keeps st) (fun q hq hn => hideAll_get _ (N q hq).1 hn) (fun q hq => Heap.lt_size (N q hq).1)) (fun fl s' hl => lv _ _ hl) fun _ _ y => y
end
/-- the whole ledger again, behind a call that asked for a part -/
theorem news_whole {h₀ h h' g : Heap} {L L' : Addr} {m' : Str → Option Value} {all need : Led} (N : News h₀ L h all) (sub : ∀ q ∈ need, q ∈ all) (G : Kept g all need) (F' : Fr g L' h' m') (N' : News h₀ L h' need) : News h₀ L h' all := fun p hp => by
  by_cases hm : p.1 ∈ need.map (·.1)
  · obtain ⟨q, hq, e⟩ := List.mem_map.mp hm
    have h1 := (N p hp).1
    have h2 := (N q (sub q hq)).1
    rw [e, h1] at h2
    have e2 : q = p := Prod.ext e (Option.some.inj h2).symm
    exact e2 ▸ N' q hq
  · exact ⟨F'.keep _ _ (G p hp hm), (N p hp).2⟩
/-- a new object stands apart from all that was there -/
theorem whole_ne {h' g : Heap} {L' : Addr} {all need news' : Led} {r : Addr} {o : Obj} (G : Kept g all need) (N' : News g L' h' news') (hr : (r, o) ∈ news') (hn : ∀ q ∈ need, q.1 ≠ r) : ∀ q ∈ all, q.1 ≠ r := fun q hq e => by
  by_cases hm : q.1 ∈ need.map (·.1)
  · obtain ⟨q', hq', e'⟩ := List.mem_map.mp hm
    exact hn q' hq' (e'.trans e)
  · have h1 := G q hq hm
    have h2 := (N' _ hr).2.2
    rw [e] at h1
    rw [h1] at h2
    cases h2
end Pc
end

section
open PySem PySem.W PySem.Spec PySem.Calls PyProof.Rows
namespace Pc
theorem lt_ne {l need : Led} {D : Addr} (hl : ∀ p ∈ l, p.1 < D) (hs : ∀ q ∈ need, q ∈ l) : ∀ q ∈ need, q.1 ≠ D := fun q hq => Nat.ne_of_lt (hl q (hs q hq))
local macro_rules | `(tactic| k_lt $h:ident) => `(tactic| (replace $h := allLt_of $h))
local macro_rules | `(tactic| k_ne) => `(tactic| (refine neN ?_; (try dsimp only); first | with_reducible assumption | with_reducible exact Ne.symm (by with_reducible assumption) | with_reducible exact Nat.ne_of_lt (by with_reducible assumption) | with_reducible exact Nat.ne_of_gt (by with_reducible assumption) | exact ne_r (by assumption) (by k_mem) | exact ne_l (by assumption) (by k_mem) | omega | (simp only [AllLt, and_true] at *; omega)))

set_option maxRecDepth 100000 in
set_option maxHeartbeats 4000000 in
theorem rows_spec {w : World} {p : Program} {loose : List Str} {mean : ExcName → Option Value} {mg mb : Str → Option Value}
    {ti sy po ti' sy' po' : Addr} {x0 x1 k p0 p1 st y0 y1 l q0 q1 su md : Int} {t0 t1 t2 t3 t4 t5 t0' t1' t2' t3' t4' t5' td : Tok} {news : Led}
    (h1 : 0 ≤ x0) (h2 : x0 < 65536) (h3 : 0 ≤ x1) (h4 : x1 < 281474976710656) (h5 : 0 ≤ k) (h6 : k < 65536) (h7 : 0 ≤ p0) (h8 : p0 < 65536) (h9 : 0 ≤ p1) (h10 : p1 < 65536)
    (h1' : 0 ≤ y0) (h2' : y0 < 65536) (h3' : 0 ≤ y1) (h4' : y1 < 281474976710656) (h5' : 0 ≤ l) (h6' : l < 65536) (h7' : 0 ≤ q0) (h8' : q0 < 65536) (h9' : 0 ≤ q1) (h10' : q1 < 65536)
    (h13 : 0 ≤ md) (h14 : md < 65536)
    (m1 : (ti, tupO [.ref sy, .int k t2, .ref po, .int st t5]) ∈ news) (m2 : (sy, tupO [.int x0 t0, .int x1 t1]) ∈ news) (m3 : (po, tupO [.int p0 t3, .int p1 t4]) ∈ news)
    (m1' : (ti', tupO [.ref sy', .int l t2', .ref po', .int su t5']) ∈ news) (m2' : (sy', tupO [.int y0 t0', .int y1 t1']) ∈ news) (m3' : (po', tupO [.int q0 t3', .int q1 t4']) ∈ news)
    (dp un : Nat) (gd : Option (List Code)) (cn : Str) (cs : Scope) (ad : Addr) (ccd : Value) (cl : List (Str × Addr)) (outer : List Env) (A₀ : Around) (base h₀ : Heap) (L : Addr) (m : Str → Option Value) (s : Shared) (Q E : Value → Shared → Prop)
    (B : Below A₀ base outer h₀) (F : Fr h₀ L s.heap m) (X : (heapK w.params).In h₀) (T : Top p loose mean mg mb h₀) (hk : cs.kind = .function) (N : News h₀ L s.heap news)
    (hd : dp + 6 < recursionLimit) (hu : un + 60 < cLine)
    (hret : ∀ (r : Addr) (vs : List Value) (k' : Nat) (h' : Heap) (tk' : Nat),
      News h₀ L h' ((r, listOf vs.toArray k') :: news) → Fr h₀ L h' m → (∀ p ∈ news, p.1 ≠ r) → IntsAre vs (packRow x0 x1 k p0 p1 st y0 y1 l q0 q1 su md) → Q (.ref r) { s with heap := h', toks := tk' }) :
    wpAny (model PySem.Challenge.rw_pc0360_01.row.prog w) (ktrTop dp un gd cn cs L ad ccd cl outer) (PySem.call (.ref 209) [.ref ti, .ref ti', .int md td]) Q E s := by
  k_with_none
  k_with "binaryOp Add ref ref" => (k_here; (with_reducible show wpAny _ _ (binaryOp _ (Value.ref _) (Value.ref _)) _ _ _); k_dflt (refine' kmk_add_ints ?_ ?_ ?_ ?_ ?_ ?_ ?_ ?_; rotate_right 8; (focus ((k_asm); done)); (focus ((k_asm); done)); (focus ((exact News.isList (by k_asm) (by k_mem)); done)); (focus ((exact News.isList (by k_asm) (by k_mem)); done)); (focus ((first | assumption | (repeat constructor; done)); done)); (focus ((first | assumption | (repeat constructor; done)); done)); rotate_left 1; (focus ((first | (simp only [sizeLine_eq, num2, num6, List.length_append, List.length_cons, List.length_nil, List.length_replicate]; decide) | (simp only [sizeLine_eq, num2, num6, List.length_append, List.length_cons, List.length_nil, List.length_replicate, List.length_take, List.length_drop] at *; omega)); done)); rotate_right 1; k_whole); intro D8 ws8 h8 F8 N8 l8 hI8; (have l8a := l8); (try k_lt l8); (try k_sweep); (try dsimp only); (try k_fold))
  k_with "call ref" => (k_here; (with_reducible show wpAny _ _ (PySem.call (Value.ref 202) [_, Value.int 2 _]) _ _ _); k_dflt (refine' num_spec2 ?_ ?_ _ _ _ _ _ _ _ _ _ _ _ _ _ _ _ _ _ ?_ ?_ ?_ ?_ ?_ ?_  ?_ ?_ ?_; rotate_right 9; (focus ((k_asm); done)); (focus ((k_asm); done)); (focus ((k_asm); done)); (focus ((k_asm); done)); (focus ((first | rfl | assumption); done)); (focus ((k_asm); done)); (focus ((ktr_room); done)); (focus ((ktr_units); done)); (all_goals skip); rotate_right 2; (focus ((first | assumption | omega); done)); (focus ((first | assumption | omega); done)); k_whole; intro r9 vs9 k9 h9 tk9 N9 F9 o9 hi9; (try k_sweep); (try dsimp only); (try k_fold)))
  k_with "call ref" => (k_here; (with_reducible show wpAny _ _ (PySem.call (Value.ref 202) [_, Value.int 6 _]) _ _ _); k_dflt (refine' num_spec6 ?_ ?_ _ _ _ _ _ _ _ _ _ _ _ _ _ _ _ _ _ ?_ ?_ ?_ ?_ ?_ ?_  ?_ ?_ ?_; rotate_right 9; (focus ((k_asm); done)); (focus ((k_asm); done)); (focus ((k_asm); done)); (focus ((k_asm); done)); (focus ((first | rfl | assumption); done)); (focus ((k_asm); done)); (focus ((ktr_room); done)); (focus ((ktr_units); done)); (all_goals skip); rotate_right 2; (focus ((first | assumption | omega); done)); (focus ((first | assumption | omega); done)); k_whole; intro r9 vs9 k9 h9 tk9 N9 F9 o9 hi9; (try k_sweep); (try dsimp only); (try k_fold)))
  have sub : ∀ q ∈ [(ti, tupO [.ref sy, .int k t2, .ref po, .int st t5]), (sy, tupO [.int x0 t0, .int x1 t1]), (po, tupO [.int p0 t3, .int p1 t4]), (ti', tupO [.ref sy', .int l t2', .ref po', .int su t5']), (sy', tupO [.int y0 t0', .int y1 t1']), (po', tupO [.int q0 t3', .int q1 t4'])], q ∈ news := by
    intro q hq
    simp only [List.mem_cons, List.not_mem_nil, or_false] at hq
    rcases hq with rfl | rfl | rfl | rfl | rfl | rfl <;> assumption
  have hret' : ∀ {r vs k' h' tk' news' need g' L' m'}, News h₀ L h' ((r, listOf vs.toArray k') :: news') → News g' L' h' ((r, listOf vs.toArray k') :: news') → Fr h₀ L h' m → Fr g' L' h' m' → IntsAre vs (packRow x0 x1 k p0 p1 st y0 y1 l q0 q1 su md) → Kept g' news need → (∀ q ∈ need, q ∈ news) → (∀ q ∈ need, q ∈ news') → (∀ q ∈ need, q.1 ≠ r) → Q (.ref r) { s with heap := h', toks := tk' } :=
    fun N1 N2 F1 F2 hi G hs hs' hn => hret _ _ _ _ _ (news_cons N1 (List.Mem.head _) (news_whole N hs G F2 fun q hq => N1 q (List.Mem.tail _ (hs' q hq)))) F1 (whole_ne G N2 (List.Mem.head _) hn) hi
  revert X; k_fill; w_top off; intro X
  refine wpAny_call ?_
  k_dflt (refine' code_defF _ sub ?k1 ?k2 ?k3 ?k4 ?k5 ?kA ?kF ?kK ?k6 ?k7 ?k8 ?k9 ?kB ?_ ?c2 ?c3 ?c4 ?c5; (case kA => exact rfl); (case kF => exact rfl); (case kK => assumption); (case k1 => k_asm); (case k2 => k_asm); (case k3 => k_asm); (case k4 => k_asm); (case k5 => k_asm); (case k6 => k_is); (case k7 => k_is); (case k8 => ktr_room); (case k9 => exact BindsTo.of_eq rfl); (case c5 => decide); (case kB => exact locs rfl); (case c2 => exact rfl); (case c3 => exact rfl); (case c4 => exact rfl); k_whole; intro g' L' h' FG' F' N' B' X' T' GK GL; (try dsimp only); (try k_fold))
  k_steps
  refine hret' (by with_reducible assumption) (by with_reducible assumption) (by with_reducible assumption) (by with_reducible assumption) (by rename IntsAre _ _ => hh8; exact hh8) GK sub ?_ ?_
  · intro q hq
    simp only [List.mem_cons, List.not_mem_nil, or_false] at hq
    rcases hq with rfl | rfl | rfl | rfl | rfl | rfl <;> k_mem
  · refine lt_ne (by with_reducible assumption) fun q hq => ?_
    simp only [List.mem_cons, List.not_mem_nil, or_false] at hq
    rcases hq with rfl | rfl | rfl | rfl | rfl | rfl <;> k_mem
end Pc
end

section
open PySem PySem.W PySem.Spec PySem.Calls PyProof.Rows
set_option maxRecDepth 100000
namespace Pc
section
variable {prog : Program} {w : World} {A : Around} {E : Value → Shared → Prop} {s : Shared}
abbrev ByteAt (b : Array UInt8) (i : Nat) (v : Value) : Prop := ∃ c u, b[i]? = some c ∧ v = .int (c.toNat : Int) u
theorem extend_bytes {R : Result → Shared → Prop} (hh : A.handled = none) (x : Array UInt8) (t : Tok) (S : Addr) (res : Value) (c₀ : Nat) (hS : s.heap.get? S = some { cls := .type "list", data := .seq #[] c₀ })
    (hn : x.size ≤ 1000)
    (hR : ∀ h' tk acc' c', (∀ b o, b ≠ S → s.heap.get? b = some o → h'.get? b = some o) → h'.get? S = some { cls := .type "list", dict := none, data := .seq acc' c', slots := #[] } →
      ItemsOf (ByteAt x) acc' x.size → R (.ok (.ret res)) { s with heap := h', toks := tk }) :
    wpAny (model prog w) A.in1 (Builtin.List.listExtendWith (.ref S) (.bytes x t) res)
      (fun fin s' => match fin with | .done f => R (.ok f) s' | .again c' => c'.quiet = true ∧ codeAny (model prog w) A c' R s') (fun e s' => R (.error e) s') s := by
  have hSI : S ≠ s.heap.objs.size := Nat.ne_of_lt (Heap.lt_size hS)
  have hSf : S ∉ [s.heap.objs.size] := fun hm => hSI (List.mem_singleton.mp hm)
  have W := (KBw.walks (prog := prog) (w := w) (A := A.in1) hh s.heap.objs.size x t).toS
  unfold Builtin.List.listExtendWith
  refine wpAny_bind (wpAny_typeOf (T := "bytes") (v := .bytes x t) (typeIs_bytes _ _ _) ?_)
  have h1 : Builtin.List.listSameRef (.ref S) (.bytes x t) = false := rfl
  have h2 : (Value.type "bytes" == Value.type "list") = false := by decide
  have h3 : (Value.type "bytes" == Value.type "tuple") = false := by decide
  simp only [h1, h2, h3, Bool.or_false, Bool.false_eq_true, if_false]
  refine wpAny_bind (KBw.pyIter_bytes ?_)
  refine wpAny_bind (wpAny_holding ?_)
  unfold Builtin.List.listLengthHint
  refine wpAny_bind (wpAny_specialOf (T := "bytes") (v := .bytes x t) (typeIs_bytes _ _ _) FB.slot_bytes_len.lookup ?_)
  wp_delta
  refine wpAny_bind (wpAny_isInstance (T := "bytes") (v := .bytes x t) (b := true) (typeIs_bytes _ _ _) (by rw [isSubtype_type]; kernel_rfl) ?_)
  show wpAny _ _ (typeOf (Value.bytes x t) >>= _) _ _ _
  refine wpAny_bind (wpAny_typeOf (T := "bytes") (v := .bytes x t) (typeIs_bytes _ _ _) ?_)
  refine wpAny_pure ?_
  rw [if_neg (by decide)]
  refine wpAny_pure ⟨plainId_quiet F.plain_extend_loop _, codeAny_extend_loopS W (by rw [sizeLine_eq]; omega) _ hSf _ x.size 0 _ #[] c₀ rfl (Nat.zero_le _) ⟨_, Heap.get?_push_size _ rfl, rfl, rfl⟩ (Heap.get?_push_of_some _ hS) (ItemsOf.nil _) fun s' acc' c' hm hS' hacc => ?_⟩
  rw [Moved.eq_with hm]
  refine hR s'.heap s'.toks acc' c' (fun b ob hb e => hm.heap b ob (fun hmem => ?_) (Heap.get?_push_of_some _ e)) hS' hacc
  rcases List.mem_cons.mp hmem with e' | hmem
  · exact hb e'
  · exact absurd (Heap.lt_size e) (by rw [List.mem_singleton.mp hmem]; exact Nat.lt_irrefl _)
theorem init_bytes {R : Result → Shared → Prop} (hh : A.handled = none) (x : Array UInt8) (t : Tok) (S : Addr) (hS : s.heap.get? S = some { cls := .type "list", data := .seq #[] }) (hn : x.size ≤ 1000)
    (hR : ∀ h' tk acc' c', (∀ b o, b ≠ S → s.heap.get? b = some o → h'.get? b = some o) → h'.get? S = some { cls := .type "list", dict := none, data := .seq acc' c', slots := #[] } →
      ItemsOf (ByteAt x) acc' x.size → R (.ok (.ret .none)) { s with heap := h', toks := tk }) :
    wpAny (model prog w) A.in1 (Builtin.«list.__init__» ⟨[.ref S, .bytes x t], []⟩)
      (fun fin s' => match fin with | .done f => R (.ok f) s' | .again c' => c'.quiet = true ∧ codeAny (model prog w) A c' R s') (fun e s' => R (.error e) s') s := by
  show wpAny _ _ (do let old ← Builtin.List.listItems (.ref S); Builtin.List.listUpdate (.ref S) (fun _ => #[]); letGo old.toList.reverse; Builtin.List.listExtendWith (.ref S) (.bytes x t) .none) _ _ s
  refine wpAny_bind ?_
  unfold Builtin.List.listItems
  refine wpAny_bind (wpAny_seqItems hS rfl (wpAny_pure ?_))
  show wpAny _ _ (updateSeq S (fun _ => #[]) >>= fun _ => letGo (#[] : Array Value).toList.reverse >>= fun _ => Builtin.List.listExtendWith (.ref S) (.bytes x t) .none) _ _ s
  refine wpAny_bind (wpAny_updateSeq hS rfl ?_)
  have hS₂ := Heap.get?_update_self (Obj.mapSeq (fun _ => (#[] : Array Value))) hS rfl
  have oth : ∀ b o, b ≠ S → s.heap.get? b = some o → (s.heap.update S (Obj.mapSeq (fun _ => (#[] : Array Value)))).get? b = some o :=
    fun b o hb e => (Heap.get?_update_other _ _ (Ne.symm hb)).trans e
  refine wpAny_bind (wpAny_letGo ?_)
  exact extend_bytes hh x t S .none _ hS₂ hn fun h' tk acc' c' hk hS' hacc => hR h' tk acc' c' (fun b o hb e => hk b o hb (oth b o hb e)) hS' hacc
theorem call_list_bytes {Q : Value → Shared → Prop} (hh : A.handled = none) (x : Array UInt8) (t : Tok) (hn : x.size ≤ 1000)
    (hQ : ∀ h' tk acc' c', (∀ b o, s.heap.get? b = some o → h'.get? b = some o) →
      h'.get? s.heap.objs.size = some { cls := .type "list", dict := none, data := .seq acc' c', slots := #[] } → ItemsOf (ByteAt x) acc' x.size → Q (.ref s.heap.objs.size) { s with heap := h', toks := tk }) :
    wpAny (model prog w) A (call (.type "list") [.bytes x t]) Q E s := by
  refine callType_codes (Q₁ := fun obj s₁ => obj = .ref s.heap.objs.size ∧ s₁ = { s with heap := s.heap.push { cls := .type "list", data := .seq #[] } }) F.called_list (F.typeCall_list_1 _) F.entry_list_init
    (code_list_new _ ⟨rfl, rfl⟩) fun obj s₁ h₁ => ?_
  obtain ⟨rfl, rfl⟩ := h₁
  have hS : (s.heap.push { cls := .type "list", data := .seq #[] }).get? s.heap.objs.size = some { cls := .type "list", data := .seq #[] } := Heap.get?_push_size _ rfl
  refine ⟨⟨_, hS, rfl⟩, F.args_list_init_2 _ _, init_bytes (A := A.in1) hh x t _ hS hn fun h' tk acc' c' hk hS' hacc => ?_⟩
  exact ⟨rfl, hQ h' tk acc' c' (fun b o e => hk b o (Nat.ne_of_lt (Heap.lt_size e)) (Heap.get?_push_of_some _ e)) hS' hacc⟩
theorem ints_of_get : ∀ {vs : List Value} {ns : List Int}, vs.length = ns.length → (∀ i v, vs[i]? = some v → ∃ t, v = Value.int (ns.getD i 0) t) → IntsAre vs ns
  | [], [], _, _ => .nil
  | [], _ :: _, h, _ => by simp at h
  | _ :: _, [], h, _ => by simp at h
  | v :: vs, n :: ns, h, hg => by
    obtain ⟨t, e⟩ := hg 0 v rfl
    subst e
    exact .cons _ t (ints_of_get (by simpa using h) fun i u hu => by simpa using hg (i + 1) u (by simpa using hu))
theorem list_of_bytes {h₀ : Heap} {L : Addr} {m : Str → Option Value} {news : Led} {b : Array UInt8} {t : Tok} {ks : List Int} {Q : Value → Shared → Prop} (F : Fr h₀ L s.heap m) (N : News h₀ L s.heap news) (hh : A.handled = none) (hb : KBw.bInts b = ks) (hl : ks.length ≤ 1000)
    (h : ∀ D vs c h' tk', Fr h₀ L h' m → News h₀ L h' ((D, listOf (List.toArray vs) c) :: news) → (∀ q ∈ news, q.1 < D) → IntsAre vs ks → Q (.ref D) { s with heap := h', toks := tk' }) :
    wpAny (model prog w) A (call (.type "list") [.bytes b t]) Q E s := by
  have hsz : b.size = ks.length := by rw [← hb, KBw.ints_length]
  refine call_list_bytes hh b t (by omega) fun h' tk acc' c' hk hS hacc => ?_
  refine h _ acc'.toList c' h' tk (F.keptAll hk) (fun p hp => ?_) (fun q hq => Heap.lt_size (N q hq).1) (ints_of_get (by rw [Array.length_toList, hacc.1, hsz]) fun i v hv => ?_)
  · rcases List.mem_cons.mp hp with rfl | hp
    · rw [Array.toArray_toList]
      exact ⟨hS, fun e => absurd F.ns.lt (e ▸ Nat.lt_irrefl _), next_is_new F⟩
    · exact ⟨hk _ _ (N p hp).1, (N p hp).2⟩
  · obtain ⟨c, u, e1, e2⟩ := hacc.2 i v (by simpa using hv)
    refine ⟨u, ?_⟩
    have := KBw.ints_get e1
    rw [hb] at this
    rw [e2, List.getD_eq_getElem?_getD, this]
    rfl
end
end Pc
end

section
open PySem PySem.W PySem.Spec PySem.Calls PyProof.Rows
set_option maxRecDepth 100000
namespace Pc
/-- the octets of a message -/
def msg (x0 x1 k p0 p1 st y0 y1 l q0 q1 su md : Int) : List Int := packRow x0 x1 k p0 p1 st y0 y1 l q0 q1 su md
/-- what unpack_lacpdu reads off the octets -/
def Dec (ks : List Int) (x0 x1 k p0 p1 st y0 y1 l q0 q1 su md : Int) : Prop := Good ks ∧ be2 ks 4 = x0 ∧ be6 ks 6 = x1 ∧ be2 ks 12 = k ∧ be2 ks 14 = p0 ∧ be2 ks 16 = p1 ∧ ks.getD 18 0 = st ∧
  be2 ks 24 = y0 ∧ be6 ks 26 = y1 ∧ be2 ks 32 = l ∧ be2 ks 34 = q0 ∧ be2 ks 36 = q1 ∧ ks.getD 38 0 = su ∧ be2 ks 44 = md
section
variable {x0 x1 k p0 p1 st y0 y1 l q0 q1 su md : Int}
theorem msg_len : (msg x0 x1 k p0 p1 st y0 y1 l q0 q1 su md).length = 110 := rfl
structure Rng (x0 x1 k p0 p1 st y0 y1 l q0 q1 su md : Int) : Prop where
  a1 : 0 ≤ x0
  a2 : x0 < 65536
  a3 : 0 ≤ x1
  a4 : x1 < 281474976710656
  a5 : 0 ≤ k
  a6 : k < 65536
  a7 : 0 ≤ p0
  a8 : p0 < 65536
  a9 : 0 ≤ p1
  a10 : p1 < 65536
  a11 : 0 ≤ st
  a12 : st < 256
  b1 : 0 ≤ y0
  b2 : y0 < 65536
  b3 : 0 ≤ y1
  b4 : y1 < 281474976710656
  b5 : 0 ≤ l
  b6 : l < 65536
  b7 : 0 ≤ q0
  b8 : q0 < 65536
  b9 : 0 ≤ q1
  b10 : q1 < 65536
  b11 : 0 ≤ su
  b12 : su < 256
  c1 : 0 ≤ md
  c2 : md < 65536
/-- the places that unpack_lacpdu reads -/
def readAt : List Nat := [0, 1, 2, 3, 4, 5, 6, 7, 8, 9, 10, 11, 12, 13, 14, 15, 16, 17, 18, 22, 23, 24, 25, 26, 27, 28, 29, 30, 31, 32, 33, 34, 35, 36, 37, 38, 42, 43, 44, 45]
theorem pair2 (x : Int) : (0 * 256 + x / 256) * 256 + x % 256 = x := by omega
theorem six6 (x : Int) : (((((0 * 256 + x / 1099511627776) * 256 + x / 4294967296 % 256) * 256 + x / 16777216 % 256) * 256 + x / 65536 % 256) * 256 + x / 256 % 256) * 256 + x % 256 = x := by omega
theorem msg_dec (_ : Rng x0 x1 k p0 p1 st y0 y1 l q0 q1 su md) : Dec (msg x0 x1 k p0 p1 st y0 y1 l q0 q1 su md) x0 x1 k p0 p1 st y0 y1 l q0 q1 su md :=
  ⟨⟨Nat.le_of_eq msg_len.symm, rfl, (show (1 : Int) ≤ 1 by decide), rfl, rfl, rfl, rfl, rfl, rfl⟩, pair2 x0, six6 x1, pair2 k, pair2 p0, pair2 p1, rfl, pair2 y0, six6 y1, pair2 l, pair2 q0, pair2 q1, rfl, pair2 md⟩
theorem in_mod (x : Int) : 0 ≤ x % 256 ∧ x % 256 < 256 := ⟨Int.emod_nonneg _ (by decide), Int.emod_lt_of_pos _ (by decide)⟩
theorem in_hi2 {x : Int} (h0 : 0 ≤ x) (h1 : x < 65536) : 0 ≤ x / 256 ∧ x / 256 < 256 := by omega
theorem in_hi6 {x : Int} (h0 : 0 ≤ x) (h1 : x < 281474976710656) : 0 ≤ x / 1099511627776 ∧ x / 1099511627776 < 256 := by omega
theorem in_two {x : Int} (h0 : 0 ≤ x) (h1 : x < 65536) : KBa.In [x / 256, x % 256] := in_cons (in_hi2 h0 h1).1 (in_hi2 h0 h1).2 (in_cons (in_mod x).1 (in_mod x).2 in_nil)
theorem in_app {a b : List Int} (ha : KBa.In a) (hb : KBa.In b) : KBa.In (a ++ b) := fun n hn => (List.mem_append.mp hn).elim (ha n) (hb n)
theorem in_zeros (n : Nat) : KBa.In (List.replicate n (0 : Int)) := fun v hv => by rw [List.eq_of_mem_replicate hv]; decide
theorem in_info {part : Int} (q0' : 0 ≤ part) (q1' : part < 256) (h1 : 0 ≤ x0) (h2 : x0 < 65536) (h3 : 0 ≤ x1) (h4 : x1 < 281474976710656) (h5 : 0 ≤ k) (h6 : k < 65536) (h7 : 0 ≤ p0) (h8 : p0 < 65536) (h9 : 0 ≤ p1) (h10 : p1 < 65536) (h11 : 0 ≤ st) (h12 : st < 256) : KBa.In (infoRow part x0 x1 k p0 p1 st) := by
  exact in_cons q0' q1' <| in_cons (by decide) (by decide) <| in_cons (in_hi2 h1 h2).1 (in_hi2 h1 h2).2 <| in_cons (in_mod _).1 (in_mod _).2 <|
    in_cons (in_hi6 h3 h4).1 (in_hi6 h3 h4).2 <| in_cons (in_mod _).1 (in_mod _).2 <| in_cons (in_mod _).1 (in_mod _).2 <| in_cons (in_mod _).1 (in_mod _).2 <| in_cons (in_mod _).1 (in_mod _).2 <| in_cons (in_mod _).1 (in_mod _).2 <|
    in_cons (in_hi2 h5 h6).1 (in_hi2 h5 h6).2 <| in_cons (in_mod _).1 (in_mod _).2 <| in_cons (in_hi2 h7 h8).1 (in_hi2 h7 h8).2 <| in_cons (in_mod _).1 (in_mod _).2 <| in_cons (in_hi2 h9 h10).1 (in_hi2 h9 h10).2 <| in_cons (in_mod _).1 (in_mod _).2 <|
    in_cons h11 h12 <| in_cons (by decide) (by decide) <| in_cons (by decide) (by decide) <| in_cons (by decide) (by decide) in_nil
theorem msg_in (R : Rng x0 x1 k p0 p1 st y0 y1 l q0 q1 su md) : KBa.In (msg x0 x1 k p0 p1 st y0 y1 l q0 q1 su md) := by
  obtain ⟨a1, a2, a3, a4, a5, a6, a7, a8, a9, a10, a11, a12, b1, b2, b3, b4, b5, b6, b7, b8, b9, b10, b11, b12, c1, c2⟩ := R
  refine in_app (in_app (in_app (in_app (in_app (in_app ?_ (in_info (by decide) (by decide) a1 a2 a3 a4 a5 a6 a7 a8 a9 a10 a11 a12)) (in_info (by decide) (by decide) b1 b2 b3 b4 b5 b6 b7 b8 b9 b10 b11 b12)) ?_) (in_two c1 c2)) (in_zeros _)) (in_zeros _)
  · exact in_cons (by decide) (by decide) (in_cons (by decide) (by decide) in_nil)
  · exact in_cons (by decide) (by decide) (in_cons (by decide) (by decide) in_nil)
end
/-- one place turned, and more behind -/
def turn (ks : List Int) (p : Nat) (v : Int) (t : List Int) : List Int := ks.take p ++ [v] ++ ks.drop (p + 1) ++ t
theorem turn_getD {ks t : List Int} {p : Nat} {v : Int} (hp : p < ks.length) (j : Nat) (hj : j < ks.length) : (turn ks p v t).getD j 0 = if j = p then v else ks.getD j 0 := by
  unfold turn
  have h1 : (ks.take p).length = p := by rw [List.length_take]; omega
  simp only [List.getD_eq_getElem?_getD]
  rw [List.append_assoc, List.append_assoc]
  by_cases h : j < p
  · rw [List.getElem?_append_left (by omega), List.getElem?_take, if_pos h, if_neg (by omega)]
  · rw [List.getElem?_append_right (by omega), h1]
    by_cases e : j = p
    · subst e; simp
    · rw [if_neg e, List.getElem?_append_right (by simp; omega), List.length_singleton, List.getElem?_append_left (by rw [List.length_drop]; omega), List.getElem?_drop, show p + 1 + (j - p - 1) = j by omega]
theorem turn_len {ks t : List Int} {p : Nat} {v : Int} (hp : p < ks.length) : (turn ks p v t).length = ks.length + t.length := by
  unfold turn
  simp only [List.length_append, List.length_take, List.length_drop, List.length_cons, List.length_nil]
  omega
theorem turn_in {ks t : List Int} {p : Nat} {v : Int} (h : KBa.In ks) (h0 : 0 ≤ v) (h1 : v < 256) (ht : KBa.In t) : KBa.In (turn ks p v t) := fun n hn => by
  unfold turn at hn
  rcases List.mem_append.mp hn with hn | hn
  · rcases List.mem_append.mp hn with hn | hn
    · rcases List.mem_append.mp hn with hn | hn
      · exact h n (List.mem_of_mem_take hn)
      · rw [List.mem_singleton.mp hn]; exact ⟨h0, h1⟩
    · exact h n (List.mem_of_mem_drop hn)
  · exact ht n hn
theorem dec_congr {ks ks' : List Int} {x0 x1 k p0 p1 st y0 y1 l q0 q1 su md : Int} (hl : 110 ≤ ks'.length) (h1 : 1 ≤ ks'.getD 1 0)
    (e : ∀ j, j ≠ 1 → j ∈ readAt → ks'.getD j 0 = ks.getD j 0) (D : Dec ks x0 x1 k p0 p1 st y0 y1 l q0 q1 su md) : Dec ks' x0 x1 k p0 p1 st y0 y1 l q0 q1 su md := by
  obtain ⟨⟨_, g0, _, g2, g3, g22, g23, g42, g43⟩, d⟩ := D
  have f : ∀ j, j ≠ 1 → readAt.contains j = true → ks'.getD j 0 = ks.getD j 0 := fun j hj hm => e j hj (by simpa using hm)
  refine ⟨⟨hl, (f 0 (by decide) rfl).trans g0, h1, (f 2 (by decide) rfl).trans g2, (f 3 (by decide) rfl).trans g3, (f 22 (by decide) rfl).trans g22, (f 23 (by decide) rfl).trans g23, (f 42 (by decide) rfl).trans g42, (f 43 (by decide) rfl).trans g43⟩, ?_⟩
  simp only [be2, be6, Int.reduceAdd, Int.reduceToNat] at d ⊢
  rw [f 4 (by decide) rfl, f 5 (by decide) rfl, f 6 (by decide) rfl, f 7 (by decide) rfl, f 8 (by decide) rfl, f 9 (by decide) rfl, f 10 (by decide) rfl, f 11 (by decide) rfl, f 12 (by decide) rfl, f 13 (by decide) rfl, f 14 (by decide) rfl, f 15 (by decide) rfl, f 16 (by decide) rfl, f 17 (by decide) rfl, f 18 (by decide) rfl,
    f 24 (by decide) rfl, f 25 (by decide) rfl, f 26 (by decide) rfl, f 27 (by decide) rfl, f 28 (by decide) rfl, f 29 (by decide) rfl, f 30 (by decide) rfl, f 31 (by decide) rfl, f 32 (by decide) rfl, f 33 (by decide) rfl, f 34 (by decide) rfl, f 35 (by decide) rfl, f 36 (by decide) rfl, f 37 (by decide) rfl, f 38 (by decide) rfl, f 44 (by decide) rfl, f 45 (by decide) rfl]
  exact d
section
variable {x0 x1 k p0 p1 st y0 y1 l q0 q1 su md : Int}
/-- what is kept free -/
theorem odd_dec (R : Rng x0 x1 k p0 p1 st y0 y1 l q0 q1 su md) {pl v : Int} {t : List Int} (hp : pl ∈ [(19 : Int), 20, 21, 39, 40, 41, 46, 57, 58, 109]) (p : Nat) (ep : p = pl.toNat) :
    Dec (turn (msg x0 x1 k p0 p1 st y0 y1 l q0 q1 su md) p v t) x0 x1 k p0 p1 st y0 y1 l q0 q1 su md := by
  have hlt : p < 110 := by
    simp only [List.mem_cons, List.not_mem_nil, or_false] at hp
    omega
  have hnot : p ∉ readAt := by
    simp only [List.mem_cons, List.not_mem_nil, or_false] at hp
    rcases hp with rfl | rfl | rfl | rfl | rfl | rfl | rfl | rfl | rfl | rfl <;> subst ep <;> decide
  have hread : ∀ j ∈ readAt, j < 110 := by decide
  refine dec_congr (by rw [turn_len (by rw [msg_len]; exact hlt), msg_len]; omega) ?_ (fun j _ hj => ?_) (msg_dec R)
  · rw [turn_getD (by rw [msg_len]; exact hlt) 1 (by rw [msg_len]; decide), if_neg (fun e => hnot (by rw [← e]; decide))]
    exact (show (1 : Int) ≤ 1 by decide)
  · rw [turn_getD (by rw [msg_len]; exact hlt) j (by rw [msg_len]; exact hread j hj), if_neg (fun e => hnot (by rw [← e]; exact hj))]
theorem vers_dec (R : Rng x0 x1 k p0 p1 st y0 y1 l q0 q1 su md) {v : Int} {t : List Int} (hv : 1 ≤ v) :
    Dec (turn (msg x0 x1 k p0 p1 st y0 y1 l q0 q1 su md) 1 v t) x0 x1 k p0 p1 st y0 y1 l q0 q1 su md := by
  have hread : ∀ j ∈ readAt, j < 110 := by decide
  refine dec_congr (by rw [turn_len (by rw [msg_len]; decide), msg_len]; omega) ?_ (fun j hj1 hj => ?_) (msg_dec R)
  · rw [turn_getD (by rw [msg_len]; decide) 1 (by rw [msg_len]; decide), if_pos rfl]
    exact hv
  · rw [turn_getD (by rw [msg_len]; decide) j (by rw [msg_len]; exact hread j hj), if_neg hj1]
theorem bad_turn {pl oc : Int} (h : (pl, oc) ∈ [((0 : Int), (2 : Int)), (1, 0), (2, 2), (3, 19), (22, 1), (23, 21), (42, 0), (43, 15)]) (t : List Int) : ¬ Good (turn (msg x0 x1 k p0 p1 st y0 y1 l q0 q1 su md) pl.toNat oc t) := by
  rintro ⟨_, g0, g1, g2, g3, g22, g23, g42, g43⟩
  have key : ∀ p : Nat, p < 110 → (turn (msg x0 x1 k p0 p1 st y0 y1 l q0 q1 su md) p oc t).getD p 0 = oc := fun p hp => by
    rw [turn_getD (by rw [msg_len]; exact hp) p (by rw [msg_len]; exact hp), if_pos rfl]
  simp only [List.mem_cons, List.not_mem_nil, or_false, Prod.mk.injEq] at h
  rcases h with ⟨rfl, rfl⟩ | ⟨rfl, rfl⟩ | ⟨rfl, rfl⟩ | ⟨rfl, rfl⟩ | ⟨rfl, rfl⟩ | ⟨rfl, rfl⟩ | ⟨rfl, rfl⟩ | ⟨rfl, rfl⟩
  · rw [show (0 : Int).toNat = 0 from rfl, key 0 (by decide)] at g0; exact absurd g0 (by decide)
  · rw [show (1 : Int).toNat = 1 from rfl, key 1 (by decide)] at g1; exact absurd g1 (by decide)
  · rw [show (2 : Int).toNat = 2 from rfl, key 2 (by decide)] at g2; exact absurd g2 (by decide)
  · rw [show (3 : Int).toNat = 3 from rfl, key 3 (by decide)] at g3; exact absurd g3 (by decide)
  · rw [show (22 : Int).toNat = 22 from rfl, key 22 (by decide)] at g22; exact absurd g22 (by decide)
  · rw [show (23 : Int).toNat = 23 from rfl, key 23 (by decide)] at g23; exact absurd g23 (by decide)
  · rw [show (42 : Int).toNat = 42 from rfl, key 42 (by decide)] at g42; exact absurd g42 (by decide)
  · rw [show (43 : Int).toNat = 43 from rfl, key 43 (by decide)] at g43; exact absurd g43 (by decide)
theorem short_bad {n : Nat} (h : n < 110) : ¬ Good ((msg x0 x1 k p0 p1 st y0 y1 l q0 q1 su md).take n) := fun g => by
  have := g.1
  rw [List.length_take, msg_len] at this
  omega
theorem take_in {ks : List Int} (h : KBa.In ks) (n : Nat) : KBa.In (ks.take n) := fun v hv => h v (List.mem_of_mem_take hv)
theorem nines_in (n : Nat) : KBa.In (List.replicate n [(9 : Int)]).flatten := fun v hv => by
  obtain ⟨l, hl, hm⟩ := List.mem_flatten.mp hv
  rw [List.eq_of_mem_replicate hl, List.mem_singleton] at hm
  subst hm
  decide
theorem nines_len (n : Nat) : (List.replicate n [(9 : Int)]).flatten.length = n := by
  induction n with
  | zero => rfl
  | succ n ih => rw [List.replicate_succ, List.flatten_cons, List.length_append, ih]; simp; omega
end
end Pc
end

section
open PySem PySem.W PySem.Spec PySem.Calls PyProof.Rows
set_option maxRecDepth 100000
namespace Pc
/-- the iterator of a list, at a place -/
def ItAt (o : Obj) (l : Addr) (i : Nat) : Prop := o.cls = .type "list_iterator" ∧ o.data = .fields #[.ref l, .int i 0]
/-- where a call that catches stands: its ground may have been turned in the frames below -/
structure Sit (fs : List Addr) (g₀ : Heap) (A₀ : Around) (base : Heap) (outer : List Env) (K : Frag) (p : Program) (loose : List Str) (mean : ExcName → Option Value) (mg mb : Str → Option Value) (L : Addr) (m : Str → Option Value) (led : Led) (h g : Heap) : Prop where
  T : KtsTurn fs g₀ g
  F : Fr g L h m
  N : News g L h led
  B : Below A₀ base outer g
  X : K.In g
  P : Top p loose mean mg mb g
  D : KtsDicts fs g
section
variable {prog : Program} {w : World} {A A₀ : Around} {E : Value → Shared → Prop} {s : Shared} {K : Frag} {L : Addr} {g₀ base : Heap} {outer : List Env} {m₀ mg mb : Str → Option Value} {led : Led} {p : Program} {loose : List Str} {mean : ExcName → Option Value}
  {env : Env} {target : Expr} {body : List Stmt} {Q : Flow → Shared → Prop} {fs : List Addr} {l : Addr}
theorem Sit.change {m : Str → Option Value} {h h' g : Heap} {I : Addr} (S : Sit fs g₀ A₀ base outer K p loose mean mg mb L m led h g) (hk : ∀ b o, b ∉ [I] → h.get? b = some o → h'.get? b = some o) (hL : L ≠ I) (hI : g.get? I = none) (off : ∀ q ∈ led, q.1 ≠ I) :
    Sit fs g₀ A₀ base outer K p loose mean mg mb L m led h' g := { S with F := LCg.fr_but S.F hk hL hI, N := LCg.news_but S.N hk off }
def TurnT (Q : Flow → Shared → Prop) (s : Shared) (R : (Str → Option Value) → Heap → Heap → Prop) (f : Flow) (s₃ : Shared) : Prop := match f with
  | .ret v => Q (.ret v) s₃
  | .brk => Q .next s₃
  | _ => ∃ h tk m g, s₃ = { s with heap := h, toks := tk } ∧ R m h g
/-- a loop over a list of the ledger, its turns alike; the ground may turn -/
theorem loop_T {vs : List Value} {lo : Obj} {c : Nat} {g : Heap} (J : Nat → (Str → Option Value) → Prop) (hm : (l, lo) ∈ led) (hc : lo.cls = .type "list") (hd : lo.data = .seq vs.toArray c)
    (hh : A.handled = none) (S₀ : Sit fs g₀ A₀ base outer K p loose mean mg mb env.locals m₀ led s.heap g) (hJ : J 0 m₀)
    (turn : ∀ i v m g' h tk I o, vs[i]? = some v → J i m → (∀ q ∈ led, q.1 ≠ I) → Sit fs g₀ A₀ base outer K p loose mean mg mb env.locals m ((I, o) :: led) h g' →
      wpAny (model prog w) A (assign target env v) (fun _ s₂ => wpAny (model prog w) A (execs body env) (TurnT Q s fun m h g' => J (i + 1) m ∧ Sit fs g₀ A₀ base outer K p loose mean mg mb env.locals m ((I, o) :: led) h g') E s₂) E { s with heap := h, toks := tk })
    (done : ∀ m g' h tk, J vs.length m → Sit fs g₀ A₀ base outer K p loose mean mg mb env.locals m led h g' → Q .next { s with heap := h, toks := tk })
    (hE : PassesOwn (model prog w) A env E := by passes_own) :
    wpAny (model prog w) A (pyIter (.ref l)) (fun it s₂ => codeAny (model prog w) A (.forLoop target it body [] env) (fun r s' => match r with | .ok f => Q f s' | .error e => cameBackBy (model prog w) A env E e s') s₂) E s := by
  have hl : s.heap.IsList l vs.toArray := ⟨lo, (S₀.N _ hm).1, hc, c, hd⟩
  refine wpAny_pyIter_list hl ?_
  have hlt : ∀ q ∈ led, q.1 ≠ s.heap.objs.size := fun q hq => Nat.ne_of_lt (Heap.lt_size (S₀.N q hq).1)
  have hLI : env.locals ≠ s.heap.objs.size := fun e => absurd S₀.F.ns.lt (e ▸ Nat.lt_irrefl _)
  have hI0 : g.get? s.heap.objs.size = none := next_is_new S₀.F
  refine codeAny_forLoop_any (R := fun r s' => match r with | .ok f => Q f s' | .error e => cameBackBy (model prog w) A env E e s')
    (fun k s' => ∃ i m g' h tk o, i ≤ vs.length ∧ k = vs.length + 1 - i ∧ s' = { s with heap := h, toks := tk } ∧ J i m ∧ ItAt o l i ∧ Sit fs g₀ A₀ base outer K p loose mean mg mb env.locals m ((s.heap.objs.size, o) :: led) h g') ?_ (vs.length + 1)
    ⟨0, m₀, g, _, s.toks, { cls := .type "list_iterator", data := .fields #[.ref l, .int 0 0] }, Nat.zero_le _, rfl, rfl, hJ, ⟨rfl, rfl⟩, { S₀ with F := S₀.F.push _, N := fun q hq => ?_ }⟩
  · generalize s.heap.objs.size = I at hlt hLI
    rintro k s' ⟨i, m, g', h, tk, o, hi, rfl, rfl, hJ, ⟨oc, od⟩, S⟩
    have hIt := S.N _ (List.Mem.head _)
    have hit : h.IsListIter I l i := ⟨o, hIt.1, oc, od⟩
    have hl' : h.IsList l vs.toArray := ⟨lo, (S.N _ (List.Mem.tail _ hm)).1, hc, c, hd⟩
    have S' : Sit fs g₀ A₀ base outer K p loose mean mg mb env.locals m led h g' := { S with N := fun q hq => S.N q (List.Mem.tail _ hq) }
    by_cases hlt' : i < vs.length
    · refine wpAny_pyNext_list_item hit hl' (x := vs[i]) (by simp [hlt']) fun h₁ hit₁ hs₁ => ?_
      refine letGo_listiter hit₁ ?_
      obtain ⟨o₁, ho₁, oc₁, od₁⟩ := hit₁
      have S₁ := S'.change (h' := h₁) (fun b o' hb e => hs₁.extBut b o' (by simpa using hb) e) hLI hIt.2.2 hlt
      refine wpAny_mono (wpAny_passesOwn hE (turn i vs[i] m g' h₁ tk I o₁ (by simp [hlt']) hJ hlt { S₁ with N := fun q hq => ?_ })) (fun _ s₂ h₂ => wpAny_mono (wpAny_passesOwn hE h₂) (fun f s₃ h₃ => ?_) fun _ _ e => e) fun _ _ e => e
      · rcases List.mem_cons.mp hq with rfl | hq
        · exact ⟨ho₁, hIt.2⟩
        · exact S₁.N q hq
      · cases f with
        | ret v => exact h₃
        | brk => exact h₃
        | next =>
          obtain ⟨h₂', tk₂, m₂, g₂, rfl, hJ₂, S₂⟩ := h₃
          exact ⟨vs.length + 1 - (i + 1), by omega, i + 1, m₂, g₂, h₂', tk₂, o₁, hlt', rfl, rfl, hJ₂, ⟨oc₁, od₁⟩, S₂⟩
        | cont =>
          obtain ⟨h₂', tk₂, m₂, g₂, rfl, hJ₂, S₂⟩ := h₃
          exact ⟨vs.length + 1 - (i + 1), by omega, i + 1, m₂, g₂, h₂', tk₂, o₁, hlt', rfl, rfl, hJ₂, ⟨oc₁, od₁⟩, S₂⟩
    · have hin : i = vs.length := by omega
      subst hin
      refine wpAny_pyNext_list_end hh hit hl' (by simp) fun h₁ he₁ => wpAny_execs_nil ?_
      exact done m g' h₁ tk hJ (S'.change (fun b o' hb e => he₁ b o' (by simpa using hb) e) hLI hIt.2.2 hlt)
  · rcases List.mem_cons.mp hq with rfl | hq
    · exact ⟨Heap.get?_push_size _ rfl, Ne.symm hLI, hI0⟩
    · exact ⟨Heap.get?_push_of_some _ (S₀.N q hq).1, (S₀.N q hq).2⟩
end
end Pc
end

section
open PySem PySem.W PySem.Spec PySem.Calls PyProof.Rows
namespace Pc
section
variable {prog : Program} {w : World} {A : Around} {E : Value → Shared → Prop} {s : Shared} {h₀ : Heap} {L : Addr} {m : Str → Option Value} {news : Led}
theorem applied_to {sl : Addr} {u : Tok} {Q : Int × Int × Nat → Shared → Prop} (hs : s.heap.IsSliceOf sl .none (.int 3 u) .none) (h : Q (0, 1, 3) s) :
    wpAny (model prog w) A (Builtin.Slice.sliceApplied (.ref sl) (pure ((4 : Nat) : Int))) Q E s := by
  obtain ⟨os, hos, hcs, hds⟩ := id hs
  unfold Builtin.Slice.sliceApplied Builtin.Slice.sliceFields
  refine wpAny_bind (wpAny_bind (wpAny_field hos hds (x := .none) rfl (wpAny_bind (wpAny_field hos hds (x := .int 3 u) rfl (wpAny_bind (wpAny_field hos hds (x := .none) rfl (wpAny_pure ?_)))))))
  refine wpAny_bind (slicePart_none ?_)
  show wpAny _ _ (if ((1 : Int) == 0) = true then _ else _) _ _ s
  rw [if_neg (by decide)]
  refine wpAny_bind (slicePart_none (wpAny_bind (slicePart_int (wpAny_bind (wpAny_pure ?_)))))
  exact wpAny_pure h
theorem item_to3 {t sl : Addr} {a b c d : Value} {u : Tok} {Q : Value → Shared → Prop} (ht : IsTup s.heap t #[a, b, c, d]) (hs : s.heap.IsSliceOf sl .none (.int 3 u) .none)
    (h : Q (.ref s.heap.objs.size) { s with heap := s.heap.push { cls := .type "tuple", data := .seq #[a, b, c] } }) : wpAny (model prog w) A (getItem (.ref t) (.ref sl)) Q E s := by
  have hdrop : sizeOk (.seq #[a, b, c]) := Nat.le_of_ble_eq_true rfl
  obtain ⟨os, hos, hcs, hds⟩ := id hs
  have hTs : s.TypeIs (.ref sl) "slice" := ⟨os, hos, hcs⟩
  unfold getItem
  try with_reducible refine wpAny_holding ?_
  first | refine wpAny_bind (wpAny_pure ?_) | skip
  refine wpAny_bind (wpAny_sequenceKey ht.typeIs (by decide) ?_)
  refine wpAny_bind (wpAny_callSpecial?_slot (name := Str.ofString "__getitem__") ht.typeIs slot_tuple_getitem
    (wpAny_call_entry slot_tuple_getitem ht.typeIs entry_tuple_getitem ?_ (args_tuple_getitem _ _)))
  show wpAny _ _ (Builtin.Tuple.tupleItemsOf (.ref t) >>= _) _ _ s
  refine wpAny_bind (tupleItemsOf_ ht ?_)
  refine wpAny_bind (wpAny_typeOf hTs ?_)
  rw [if_pos (by decide)]
  refine wpAny_bind (applied_to hs ?_)
  show wpAny _ _ (if ((0 : Int) == 0 && (1 : Int) == 1 && (3 : Nat) == 4) = true then _ else _) _ _ s
  rw [if_neg (by decide)]
  have e : ((List.range 3).filterMap fun (k : Nat) => (#[a, b, c, d] : Array Value)[((0 : Int) + (k : Int) * 1).toNat]?).toArray = #[a, b, c] := rfl
  rw [e]
  first
    | exact wpAny_bind (m := Builtin.Tuple.tupleExact _) (wpAny_newObj_type (wpAny_pure ⟨_, rfl, wpAny_pure h⟩) hdrop)
    | exact wpAny_bind (m := Builtin.Tuple.tupleExact _) (wpAny_newObj_type (wpAny_bind (wpAny_pure (wpAny_pure ⟨_, rfl, wpAny_pure h⟩))) hdrop)
    | exact wpAny_bind (wpAny_bind (m := Builtin.Tuple.tupleExact _) (wpAny_newObj_type (wpAny_pure (wpAny_pure ⟨_, rfl, wpAny_pure h⟩)) hdrop))
    | exact wpAny_bind (wpAny_bind (m := Builtin.Tuple.tupleExact _) (wpAny_newObj_type (wpAny_pure ⟨_, rfl, wpAny_pure h⟩) hdrop))
/-- the first three of four -/
theorem tup_to3 {value slice : Expr} {t : Addr} {a b c d : Value} {u : Tok} {Q : Value → Shared → Prop}
    (F : Fr h₀ L s.heap m) (N : News h₀ L s.heap news) (hm : (t, tupO [a, b, c, d]) ∈ news)
    (h : ∀ D h', Fr h₀ L h' m → News h₀ L h' ((D, tupO [a, b, c]) :: news) → (∀ q ∈ news, q.1 < D) → Q (.ref D) { s with heap := h' })
    (hs : subscripted slice false (.ref t) (.ref s.heap.objs.size) = operate [.ref s.heap.objs.size, .ref t] (getItem (.ref t) (.ref s.heap.objs.size)))
    (hg : ∀ r, letTemporaryGo value (.ref t) r = pure ()) :
    wpAny (model prog w) A (subscriptTail value slice (.ref t) (.ref s.heap.objs.size)) Q E { s with heap := s.heap.push { cls := .type "slice", data := .fields #[.none, .int 3 u, .none] } } := by
  have ht : IsTup s.heap t #[a, b, c, d] := ⟨_, (N _ hm).1, rfl, _, rfl⟩
  have ht' : IsTup (s.heap.push { cls := .type "slice", data := .fields #[.none, .int 3 u, .none] }) t #[a, b, c, d] := ht.keeps fun _ _ e => Heap.get?_push_of_some _ e
  refine subscriptTail_ops (s := { s with heap := s.heap.push { cls := .type "slice", data := .fields #[.none, .int 3 u, .none] } }) ht'.typeIs slot_tuple_getitem.lookup
    (item_to3 ht' (Heap.IsSliceOf.new ..) ?_) hs hg
  have N1 := News.push (F.push { cls := .type "slice", data := .fields #[.none, .int 3 u, .none] }) (N.grown fun _ _ e => Heap.get?_push_of_some _ e) { cls := .type "tuple", data := .seq #[a, b, c] }
  rw [Heap.size_push] at N1
  show Q (.ref (s.heap.push _).objs.size) _
  rw [Heap.size_push]
  exact h _ _ ((F.push _).push _) N1 fun q hq => Nat.lt_succ_of_lt (Heap.lt_size (N q hq).1)
end
end Pc
end

section
open PySem PySem.W PySem.Spec PySem.Calls PyProof.Rows
namespace Pc
theorem bit_facts : ∀ b ∈ [1, 2, 4, 8, 16, 32, 64, 128], ∀ st < 256, (st &&& b = if st / b % 2 = 1 then b else 0) ∧ (st ||| b = if st / b % 2 = 1 then st else st + b) := by decide +kernel
abbrev Bit (b : Int) : Prop := ∃ j : Nat, j ∈ [1, 2, 4, 8, 16, 32, 64, 128] ∧ b = (j : Int)
/-- whether the bit is set -/
def isSet (st b : Int) : Bool := decide (st / b % 2 = 1)
theorem and_bit {st b : Int} (hb : Bit b) (h0 : 0 ≤ st) (h1 : st < 256) : Builtin.bitAnd st b = if isSet st b then b else 0 := by
  obtain ⟨j, hj, rfl⟩ := hb
  obtain ⟨n, rfl⟩ : ∃ n : Nat, st = (n : Int) := ⟨st.toNat, by omega⟩
  rw [bitAnd_pp h0 (by omega), Int.toNat_natCast, Int.toNat_natCast, (bit_facts j hj n (by omega)).1]
  unfold isSet
  by_cases h : n / j % 2 = 1
  · rw [if_pos h, if_pos (by rw [decide_eq_true_eq]; omega)]
  · rw [if_neg h, if_neg (by rw [decide_eq_true_eq]; omega)]; rfl
theorem or_bit {st b : Int} (hb : Bit b) (h0 : 0 ≤ st) (h1 : st < 256) : Builtin.bitOr st b = if isSet st b then st else st + b := by
  rw [bitOr_and, and_bit hb h0 h1]
  split
  · obtain ⟨j, hj, rfl⟩ := hb
    omega
  · omega
theorem and_bit_rule {prog : Program} {w : World} {A : Around} {E : Value → Shared → Prop} {s : Shared} {st b : Int} {t u : Tok} {Q : Value → Shared → Prop} (hb : Bit b) (h0 : 0 ≤ st) (h1 : st < 256)
    (h : ∀ v, (v ≠ 0 ↔ isSet st b = true) → Q (.int v s.toks) { s with toks := s.toks + 1 }) : wpAny (model prog w) A (binaryOp .BitAnd (.int st t) (.int b u)) Q E s := by
  refine and_int ?_
  rw [and_bit hb h0 h1]
  refine h _ ?_
  obtain ⟨j, hj, rfl⟩ := hb
  cases isSet st j <;> simp
  intro e
  subst e
  exact absurd hj (by decide)
theorem or_bit_rule {prog : Program} {w : World} {A : Around} {E : Value → Shared → Prop} {s : Shared} {st b : Int} {t u : Tok} {Q : Value → Shared → Prop} (hb : Bit b) (h0 : 0 ≤ st) (h1 : st < 256)
    (h : ∀ v, v = (if isSet st b then st else st + b) → Q (.int v s.toks) { s with toks := s.toks + 1 }) : wpAny (model prog w) A (binaryOp .BitOr (.int st t) (.int b u)) Q E s :=
  or_int (h _ (or_bit hb h0 h1))
theorem bool_ne {v : Int} {c : Bool} (h : v ≠ 0 ↔ c = true) : (v != 0) = c := by
  cases c
  · simp at h ⊢; exact h
  · simp at h ⊢; exact h
theorem allLt_at {D : Addr} : ∀ {l : Led}, AllLt D l → ∀ q ∈ l, q.1 < D
  | [], _, _, hq => nomatch hq
  | p :: r, h, q, hq => by
    rcases List.mem_cons.mp hq with rfl | hq
    · exact h.1
    · exact allLt_at h.2 q hq

set_option maxRecDepth 100000 in
set_option maxHeartbeats 4000000 in
theorem has_spec {w : World} {p : Program} {loose : List Str} {mean : ExcName → Option Value} {mg mb : Str → Option Value}
    {ti sy po : Addr} {k st b : Int} {t2 t5 tb : Tok} {news : Led} (hb : Bit b) (h0 : 0 ≤ st) (h1 : st < 256) (m1 : (ti, tupO [.ref sy, .int k t2, .ref po, .int st t5]) ∈ news)
    (dp un : Nat) (gd : Option (List Code)) (cn : Str) (cs : Scope) (ad : Addr) (ccd : Value) (cl : List (Str × Addr)) (outer : List Env) (A₀ : Around) (base h₀ : Heap) (L : Addr) (m : Str → Option Value) (s : Shared) (Q E : Value → Shared → Prop)
    (B : Below A₀ base outer h₀) (F : Fr h₀ L s.heap m) (X : (heapK w.params).In h₀) (T : Top p loose mean mg mb h₀) (hk : cs.kind = .function) (N : News h₀ L s.heap news)
    (hd : dp + 2 < recursionLimit) (hu : un + 16 < cLine)
    (hret : ∀ (h' : Heap) (tk' : Nat), News h₀ L h' news → Fr h₀ L h' m → Q (.bool (isSet st b)) { s with heap := h', toks := tk' }) :
    wpAny (model PySem.Challenge.rw_pc0360_01.row.prog w) (ktrTop dp un gd cn cs L ad ccd cl outer) (PySem.call (.ref 134) [.ref ti, .int b tb]) Q E s := by
  k_with_none
  k_with "subscriptTail Name Slice ref ref" => (k_here; (with_reducible show wpAny _ _ (subscriptTail _ (PySem.Expr.Slice _ _ none _) (Value.ref _) (Value.ref _)) _ _ _); k_dflt (refine' tup_to3 ?_ ?_ ?_ ?_ ?_ ?_; rotate_right 6; (focus ((k_asm); done)); (focus ((k_asm); done)); (focus ((k_mem); done)); rotate_left 1; (focus ((with_unfolding_all rfl); done)); (focus ((kmk_pure); done)); rotate_right 1; k_whole); intro D8 h8 F8 N8 l8; (try k_lt l8); (try k_sweep); (try dsimp only); (try k_fold))
  k_with "binaryOp BitAnd int int" => (k_here; k_dflt (refine' and_bit_rule ?_ ?_ ?_ ?_; rotate_right 4; (focus ((assumption); done)); (focus ((assumption); done)); (focus ((assumption); done)); k_whole); intro v8 hv8; (try dsimp only))
  k_with "binaryOp BitOr int int" => (k_here; k_dflt (refine' or_bit_rule ?_ ?_ ?_ ?_; rotate_right 4; (focus ((assumption); done)); (focus ((assumption); done)); (focus ((assumption); done)); k_whole); intro v8 hv8; (try dsimp only))
  replace N := news_cons N m1 N
  revert X; k_fill; w_top off; intro X
  refine wpAny_call ?_
  k_dflt ktr_enter
  k_steps
  rename (_ ≠ 0 ↔ _) => hv
  rw [bool_ne hv]
  exact hret _ _ (news_tail (by assumption)) (by assumption)

set_option maxRecDepth 100000 in
set_option maxHeartbeats 4000000 in
theorem with_spec {w : World} {p : Program} {loose : List Str} {mean : ExcName → Option Value} {mg mb : Str → Option Value}
    {ti sy po : Addr} {k st b : Int} {t2 t5 tb : Tok} {c : Bool} {news : Led} (hb : Bit b) (h0 : 0 ≤ st) (h1 : st < 256) (m1 : (ti, tupO [.ref sy, .int k t2, .ref po, .int st t5]) ∈ news)
    (dp un : Nat) (gd : Option (List Code)) (cn : Str) (cs : Scope) (ad : Addr) (ccd : Value) (cl : List (Str × Addr)) (outer : List Env) (A₀ : Around) (base h₀ : Heap) (L : Addr) (m : Str → Option Value) (s : Shared) (Q E : Value → Shared → Prop)
    (B : Below A₀ base outer h₀) (F : Fr h₀ L s.heap m) (X : (heapK w.params).In h₀) (T : Top p loose mean mg mb h₀) (hk : cs.kind = .function) (N : News h₀ L s.heap news)
    (hd : dp + 2 < recursionLimit) (hu : un + 16 < cLine)
    (hret : ∀ (r : Addr) (v : Int) (t' : Tok) (h' : Heap) (tk' : Nat), News h₀ L h' ((r, tupO [.ref sy, .int k t2, .ref po, .int v t']) :: news) → Fr h₀ L h' m → (∀ q ∈ news, q.1 < r) → v = (if isSet st b then (if c then st else st - b) else (if c then st + b else st)) → Q (.ref r) { s with heap := h', toks := tk' }) :
    wpAny (model PySem.Challenge.rw_pc0360_01.row.prog w) (ktrTop dp un gd cn cs L ad ccd cl outer) (PySem.call (.ref 141) [.ref ti, .int b tb, .bool c]) Q E s := by
  k_with_none
  k_with "subscriptTail Name Slice ref ref" => (k_here; (with_reducible show wpAny _ _ (subscriptTail _ (PySem.Expr.Slice _ _ none _) (Value.ref _) (Value.ref _)) _ _ _); k_dflt (refine' tup_to3 ?_ ?_ ?_ ?_ ?_ ?_; rotate_right 6; (focus ((k_asm); done)); (focus ((k_asm); done)); (focus ((k_mem); done)); rotate_left 1; (focus ((with_unfolding_all rfl); done)); (focus ((kmk_pure); done)); rotate_right 1; k_whole); intro D8 h8 F8 N8 l8; (try k_lt l8); (try k_sweep); (try dsimp only); (try k_fold))
  k_with "binaryOp BitAnd int int" => (k_here; k_dflt (refine' and_bit_rule ?_ ?_ ?_ ?_; rotate_right 4; (focus ((assumption); done)); (focus ((assumption); done)); (focus ((assumption); done)); k_whole); intro v8 hv8; (try dsimp only))
  k_with "binaryOp BitOr int int" => (k_here; k_dflt (refine' or_bit_rule ?_ ?_ ?_ ?_; rotate_right 4; (focus ((assumption); done)); (focus ((assumption); done)); (focus ((assumption); done)); k_whole); intro v8 hv8; (try dsimp only))
  replace N := news_cons N m1 N
  revert X; k_fill; w_top off; intro X
  refine wpAny_call ?_
  k_dflt ktr_enter
  k_steps
  all_goals (
    refine hret _ _ _ _ _ (news_cons (by assumption) (List.Mem.head _) (by rename News h₀ L _ _ => NN8; repeat (first | exact NN8 | (replace NN8 := news_tail NN8)))) (by assumption) (by rename (_ ∧ _ ∧ _ ∧ AllLt _ news) => hl; exact allLt_at hl.2.2.2) ?_
    rename (c = _) => hc
    rename (_ = if isSet st b = true then _ else _) => hv
    subst hc hv
    cases isSet st b <;> simp <;> omega)
/-- what with_bit leaves in the last place -/
def sv : Bool → Bool → Int → Int → Int
  | true, true, st, _ => st
  | true, false, st, b => st - b
  | false, true, st, b => st + b
  | false, false, st, _ => st
theorem has_c {w : World} {p : Program} {loose : List Str} {mean : ExcName → Option Value} {mg mb : Str → Option Value}
    {ti sy po : Addr} {k st b : Int} {t2 t5 tb : Tok} {c : Bool} {news : Led} (hs : isSet st b = c) (hb : Bit b) (h0 : 0 ≤ st) (h1 : st < 256) (m1 : (ti, tupO [.ref sy, .int k t2, .ref po, .int st t5]) ∈ news)
    (dp un : Nat) (gd : Option (List Code)) (cn : Str) (cs : Scope) (ad : Addr) (ccd : Value) (cl : List (Str × Addr)) (outer : List Env) (A₀ : Around) (base h₀ : Heap) (L : Addr) (m : Str → Option Value) (s : Shared) (Q E : Value → Shared → Prop)
    (B : Below A₀ base outer h₀) (F : Fr h₀ L s.heap m) (X : (heapK w.params).In h₀) (T : Top p loose mean mg mb h₀) (hk : cs.kind = .function) (N : News h₀ L s.heap news)
    (hd : dp + 2 < recursionLimit) (hu : un + 16 < cLine)
    (hret : ∀ (h' : Heap) (tk' : Nat), News h₀ L h' news → Fr h₀ L h' m → Q (.bool c) { s with heap := h', toks := tk' }) :
    wpAny (model PySem.Challenge.rw_pc0360_01.row.prog w) (ktrTop dp un gd cn cs L ad ccd cl outer) (PySem.call (.ref 134) [.ref ti, .int b tb]) Q E s := by
  subst hs
  exact has_spec hb h0 h1 m1 dp un gd cn cs ad ccd cl outer A₀ base h₀ L m s Q E B F X T hk N hd hu hret
theorem with_c {w : World} {p : Program} {loose : List Str} {mean : ExcName → Option Value} {mg mb : Str → Option Value}
    {ti sy po : Addr} {k st b : Int} {t2 t5 tb : Tok} {c d : Bool} {news : Led} (hs : isSet st b = c) (hb : Bit b) (h0 : 0 ≤ st) (h1 : st < 256) (m1 : (ti, tupO [.ref sy, .int k t2, .ref po, .int st t5]) ∈ news)
    (dp un : Nat) (gd : Option (List Code)) (cn : Str) (cs : Scope) (ad : Addr) (ccd : Value) (cl : List (Str × Addr)) (outer : List Env) (A₀ : Around) (base h₀ : Heap) (L : Addr) (m : Str → Option Value) (s : Shared) (Q E : Value → Shared → Prop)
    (B : Below A₀ base outer h₀) (F : Fr h₀ L s.heap m) (X : (heapK w.params).In h₀) (T : Top p loose mean mg mb h₀) (hk : cs.kind = .function) (N : News h₀ L s.heap news)
    (hd : dp + 2 < recursionLimit) (hu : un + 16 < cLine)
    (hret : ∀ (r : Addr) (t' : Tok) (h' : Heap) (tk' : Nat), News h₀ L h' ((r, tupO [.ref sy, .int k t2, .ref po, .int (sv c d st b) t']) :: news) → Fr h₀ L h' m → (∀ q ∈ news, q.1 < r) → Q (.ref r) { s with heap := h', toks := tk' }) :
    wpAny (model PySem.Challenge.rw_pc0360_01.row.prog w) (ktrTop dp un gd cn cs L ad ccd cl outer) (PySem.call (.ref 141) [.ref ti, .int b tb, .bool d]) Q E s := by
  refine with_spec hb h0 h1 m1 dp un gd cn cs ad ccd cl outer A₀ base h₀ L m s Q E B F X T hk N hd hu fun r v t' h' tk' N' F' o hv => ?_
  have e : v = sv c d st b := by
    rw [hv, hs]
    cases c <;> cases d <;> rfl
  subst e
  exact hret r t' h' tk' N' F' o
theorem pow2_in : ∀ n < 8, 2 ^ n ∈ [1, 2, 4, 8, 16, 32, 64, 128] := by decide
section
variable {prog : Program} {w : World} {A : Around} {E : Value → Shared → Prop} {s : Shared} {v st b : Int} {t u : Tok} {Q : Value → Shared → Prop}
theorem pow2_rule (h0 : 0 ≤ v) (h1 : v < 8) (h : ∀ b, Bit b → Q (.int b s.toks) { s with toks := s.toks + 1 }) : wpAny (model prog w) A (binaryOp .Pow (.int 2 t) (.int v u)) Q E s :=
  pow_int_small h0 (by omega) (by decide) (h _ ⟨2 ^ v.toNat, pow2_in _ (by omega), by simp⟩)
theorem bit_pos (hb : Bit b) : 0 < b := by
  obtain ⟨j, hj, rfl⟩ := hb
  simp only [List.mem_cons, List.not_mem_nil, or_false] at hj
  omega
theorem bit_le (hb : Bit b) : b ≤ 128 := by
  obtain ⟨j, hj, rfl⟩ := hb
  simp only [List.mem_cons, List.not_mem_nil, or_false] at hj
  omega
theorem fdiv_rule (hb : Bit b) (h0 : 0 ≤ st) (h1 : st < 256) (h : Q (.int (st.fdiv b) s.toks) { s with toks := s.toks + 1 }) : wpAny (model prog w) A (binaryOp .FloorDiv (.int st t) (.int b u)) Q E s :=
  floordiv_int (by have := bit_pos hb; omega) h (Or.inl (PyProof.noPylong_small (by have := bit_le hb; have := bit_pos hb; omega)))
theorem ne_same_bool {a : Bool} (h : Q (.bool false) s) : wpAny (model prog w) A (compareOp .NotEq (.bool a) (.bool a)) Q E s := ne_bool (by cases a <;> exact h)
theorem eq_set {x : Int} (hx : x = Int.fmod (Int.fdiv st b) 2) (hb : Bit b) (h0 : 0 ≤ st) (ht : isSet st b = true → Q (.bool true) s) (hf : isSet st b = false → Q (.bool false) s) : Q (.bool (x == 1)) s := by
  have p := bit_pos hb
  have e : (x == 1) = isSet st b := by
    rw [hx, Int.fdiv_eq_ediv_of_nonneg _ (Int.le_of_lt p), Int.fmod_eq_emod_of_nonneg _ (by decide)]
    rfl
  rw [e]
  cases hc : isSet st b
  · exact hf hc
  · exact ht hc
theorem eqset_rule {x : Int} (hx : x = Int.fmod (Int.fdiv st b) 2) (hb : Bit b) (h0 : 0 ≤ st) (ht : isSet st b = true → Q (.bool true) s) (hf : isSet st b = false → Q (.bool false) s) : wpAny (model prog w) A (compareOp .Eq (.int x t) (.int 1 u)) Q E s := eq_int (eq_set hx hb h0 ht hf)
end
end Pc
end

section
open PySem PySem.W PySem.Spec PySem.Calls PyProof.Rows
set_option maxRecDepth 100000
namespace Pc
section
variable {prog : Program} {w : World} {A : Around} {E : Value → Shared → Prop} {s : Shared}
/-- two lists of the same ints do not differ -/
theorem ne_same {a b : Addr} {vs us : List Value} {ns : List Int} {Q : Value → Shared → Prop} (hl : s.heap.IsList a vs.toArray) (hi : IntsAre vs ns) (hl' : s.heap.IsList b us.toArray) (hi' : IntsAre us ns) (hu : A.units + 64 < cLine)
    (h : Q (.bool false) s) : wpAny (model prog w) A (compareOp .NotEq (.ref a) (.ref b)) Q E s := ne_intsK hl hi hl' hi' hu (by rw [decide_eq_true rfl]; exact h)
theorem len_110 {l : Addr} {vs : List Value} {ns : List Int} {Q : Value → Shared → Prop} (hl : s.heap.IsList l vs.toArray) (hi : IntsAre vs ns) (hn : ns.length = 110)
    (h : Q (.int 110 (s.toks + 1)) { s with toks := s.toks + 1 + 1 }) : wpAny (model prog w) A (call (.builtin "len") [.ref l]) Q E s := by
  have e : vs.toArray.size = 110 := by rw [List.size_toArray, IntsAre.length hi, hn]
  exact len_list hl (by rw [e]; decide) (by rw [e]; exact h)
theorem ite_110 {P Q : Prop} (h : Q) : if ((110 : Int) != 110) = true then P else Q := by rw [if_neg (by decide)]; exact h
theorem free_lo {v : Int} (h : v ∈ [(19 : Int), 20, 21, 39, 40, 41, 46, 57, 58, 109]) : 0 ≤ v := by
  simp only [List.mem_cons, List.not_mem_nil, or_false] at h; omega
theorem free_lo1 {v : Int} (h : v ∈ [(19 : Int), 20, 21, 39, 40, 41, 46, 57, 58, 109]) : 0 ≤ v + 1 := by have := free_lo h; omega
theorem sz_110 {vs : List Value} {ns : List Int} (hi : IntsAre vs ns) (hn : ns.length = 110) : vs.toArray.size ≤ sizeLine := kmk_sz hi (by rw [hn]; decide)
theorem slice_at {h₀ hh : Heap} {L l : Addr} {m : Str → Option Value} {news : Led} {value slice : Expr} {vs : List Value} {ns ms : List Int} {vl vu : Value} {lo hi : Option Int} {Q : Value → Shared → Prop} {c tk : Nat} (F : Fr h₀ L hh m) (N : News h₀ L hh news) (hl : hh.IsList l vs.toArray) (pl : IsPart vl lo) (pu : IsPart vu hi) (hi' : IntsAre vs ns) (hm : IntsAre (slicePick vs.toArray lo hi none).toList ms) (hc : ms.length = c)
    (h : ∀ D ws h', Fr h₀ L h' m → News h₀ L h' ((D, listOf (List.toArray ws) 0) :: news) → (∀ p ∈ news, p.1 < D) → IntsAre ws ms → ms.length = c → ms.length ≤ ns.length → Q (.ref D) { s with heap := h', toks := tk })
    (hs : subscripted slice false (.ref l) (.ref hh.objs.size) = operate [.ref hh.objs.size, .ref l] (getItem (.ref l) (.ref hh.objs.size))) (ht : ∀ r, letTemporaryGo value (.ref l) r = pure ()) (hz : vs.toArray.size ≤ sizeLine) :
    wpAny (model prog w) A (subscriptTail value slice (.ref l) (.ref hh.objs.size)) Q E { s with heap := hh.push { cls := .type "slice", data := .fields #[vl, vu, .none] }, toks := tk } :=
  kmk_slice_ints (s := { s with heap := hh, toks := tk }) F N hl pl pu hi' hm hc h hs ht hz
/-- here the walk stops -/
structure Stop (P : Prop) : Prop where
  go : P
theorem For_stop {M : Model} {env : Env} {target iter body orelse pos} {Q : Flow → Shared → Prop}
    (h : wpAny M A (eval iter env) (fun x s₁ => Stop (wpAny M A (pyIter x) (fun it s₂ =>
      codeAny M A (.forLoop target it body orelse env) (fun r s' => match r with | .ok f => Q f s' | .error e => cameBackBy M A env E e s') s₂) E s₁)) E s)
    (hs : ∀ x, foldedSetIterable iter env x = pure x := by intro _; rfl) :
    wpAny M A (exec (.For target iter body orelse pos) env) Q E s :=
  wpAny_For (wpAny_mono h (fun _ _ h => h.go) fun _ _ e => e) hs
end
/-- the octets are those of this message -/
structure MsgIs (ks : List Int) (x0 x1 k p0 p1 st y0 y1 l q0 q1 su md : Int) : Prop where
  eq : ks = msg x0 x1 k p0 p1 st y0 y1 l q0 q1 su md
  rng : Rng x0 x1 k p0 p1 st y0 y1 l q0 q1 su md
theorem pack_msg {w : World} {p : Program} {loose : List Str} {mean : ExcName → Option Value} {mg mb : Str → Option Value}
    {r d ti sy po ti' sy' po' : Addr} {ka kb kc : Tok} {x0 x1 k p0 p1 st y0 y1 l q0 q1 su md : Int} {t0 t1 t2 t3 t4 t5 t0' t1' t2' t3' t4' t5' td : Tok} {news : Led}
    {ks : List Int} (M : MsgIs ks x0 x1 k p0 p1 st y0 y1 l q0 q1 su md)
    (n1 : (r, instObj 123 d) ∈ news) (n2 : (d, pduD w.params ka kb kc (.ref ti) (.ref ti') (.int md td)) ∈ news)
    (m1 : (ti, tupO [.ref sy, .int k t2, .ref po, .int st t5]) ∈ news) (m2 : (sy, tupO [.int x0 t0, .int x1 t1]) ∈ news) (m3 : (po, tupO [.int p0 t3, .int p1 t4]) ∈ news)
    (m1' : (ti', tupO [.ref sy', .int l t2', .ref po', .int su t5']) ∈ news) (m2' : (sy', tupO [.int y0 t0', .int y1 t1']) ∈ news) (m3' : (po', tupO [.int q0 t3', .int q1 t4']) ∈ news)
    (dp un : Nat) (gd : Option (List Code)) (cn : Str) (cs : Scope) (ad : Addr) (ccd : Value) (cl : List (Str × Addr)) (outer : List Env) (A₀ : Around) (base h₀ : Heap) (L : Addr) (m : Str → Option Value) (s : Shared) (Q E : Value → Shared → Prop)
    (B : Below A₀ base outer h₀) (F : Fr h₀ L s.heap m) (X : (heapK w.params).In h₀) (T : Top p loose mean mg mb h₀) (hk : cs.kind = .function) (N : News h₀ L s.heap news)
    (hd : dp + 8 < recursionLimit) (hu : un + 80 < cLine)
    (hret : ∀ (b : Array UInt8) (t' : Tok) (h' : Heap) (tk' : Nat),
      News h₀ L h' news → Fr h₀ L h' m → KBw.bInts b = ks → Q (.bytes b t') { s with heap := h', toks := tk' }) :
    wpAny (model PySem.Challenge.rw_pc0360_01.row.prog w) (ktrTop dp un gd cn cs L ad ccd cl outer) (PySem.call (.ref 162) [.ref r]) Q E s := by
  obtain ⟨rfl, R⟩ := M
  obtain ⟨a1, a2, a3, a4, a5, a6, a7, a8, a9, a10, a11, a12, b1, b2, b3, b4, b5, b6, b7, b8, b9, b10, b11, b12, c1, c2⟩ := R
  exact pack_spec a1 a2 a3 a4 a5 a6 a7 a8 a9 a10 a11 a12 b1 b2 b3 b4 b5 b6 b7 b8 b9 b10 b11 b12 c1 c2 n1 n2 m1 m2 m3 m1' m2' m3' dp un gd cn cs ad ccd cl outer A₀ base h₀ L m s Q E B F X T hk N hd hu hret

theorem rows_msg {w : World} {p : Program} {loose : List Str} {mean : ExcName → Option Value} {mg mb : Str → Option Value}
    {x ti sy po ti' sy' po' : Addr} {a b : Int} {ta tb : Tok} {n : Nat} {x0 x1 k p0 p1 st y0 y1 l q0 q1 su md : Int} {t0 t1 t2 t3 t4 t5 t0' t1' t2' t3' t4' t5' td : Tok} {news : Led}
    (R : Rng x0 x1 k p0 p1 st y0 y1 l q0 q1 su md)
    (mx : (x, srcO a b ta tb n) ∈ news) (m1 : (ti, tupO [.ref sy, .int k t2, .ref po, .int st t5]) ∈ news) (m2 : (sy, tupO [.int x0 t0, .int x1 t1]) ∈ news) (m3 : (po, tupO [.int p0 t3, .int p1 t4]) ∈ news)
    (m1' : (ti', tupO [.ref sy', .int l t2', .ref po', .int su t5']) ∈ news) (m2' : (sy', tupO [.int y0 t0', .int y1 t1']) ∈ news) (m3' : (po', tupO [.int q0 t3', .int q1 t4']) ∈ news)
    (dp un : Nat) (gd : Option (List Code)) (cn : Str) (cs : Scope) (ad : Addr) (ccd : Value) (cl : List (Str × Addr)) (outer : List Env) (A₀ : Around) (base h₀ : Heap) (L : Addr) (m : Str → Option Value) (s : Shared) (Q E : Value → Shared → Prop)
    (B : Below A₀ base outer h₀) (F : Fr h₀ L s.heap m) (X : (heapK w.params).In h₀) (T : Top p loose mean mg mb h₀) (hk : cs.kind = .function) (N : News h₀ L s.heap news)
    (hd : dp + 6 < recursionLimit) (hu : un + 60 < cLine)
    (hret : ∀ (r : Addr) (vs : List Value) (k' : Nat) (h' : Heap) (tk' : Nat),
      News h₀ L h' ((r, listOf vs.toArray k') :: news) → Fr h₀ L h' m → @Ne Nat x r → ∀ ks : List Int, IntsAre vs ks → MsgIs ks x0 x1 k p0 p1 st y0 y1 l q0 q1 su md → ks.length = 110 → Q (.ref r) { s with heap := h', toks := tk' }) :
    wpAny (model PySem.Challenge.rw_pc0360_01.row.prog w) (ktrTop dp un gd cn cs L ad ccd cl outer) (PySem.call (.ref 209) [.ref ti, .ref ti', .int md td]) Q E s := by
  have R' := R
  obtain ⟨a1, a2, a3, a4, a5, a6, a7, a8, a9, a10, a11, a12, b1, b2, b3, b4, b5, b6, b7, b8, b9, b10, b11, b12, c1, c2⟩ := R'
  exact rows_spec a1 a2 a3 a4 a5 a6 a7 a8 a9 a10 b1 b2 b3 b4 b5 b6 b7 b8 b9 b10 c1 c2 m1 m2 m3 m1' m2' m3' dp un gd cn cs ad ccd cl outer A₀ base h₀ L m s Q E B F X T hk N hd hu fun r vs k' h' tk' N' F' o hi => hret r vs k' h' tk' N' F' (o _ mx) _ hi ⟨rfl, R⟩ msg_len

theorem info_upd {w : World} {p : Program} {loose : List Str} {mean : ExcName → Option Value} {mg mb : Str → Option Value}
    {x : Addr} {a b : Int} {ta tb : Tok} {n : Nat} {news : Led} {upd : Obj → Led}
    (hb : 0 ≤ b) (hb' : b < 2147483647)
    (dp un : Nat) (gd : Option (List Code)) (cn : Str) (cs : Scope) (ad : Addr) (ccd : Value) (cl : List (Str × Addr)) (outer : List Env) (A₀ : Around) (base h₀ : Heap) (L : Addr) (m : Str → Option Value) (s : Shared) (Q E : Value → Shared → Prop)
    (B : Below A₀ base outer h₀) (F : Fr h₀ L s.heap m) (X : (heapK w.params).In h₀) (T : Top p loose mean mg mb h₀) (hk : cs.kind = .function) (N : News h₀ L s.heap news) (hU : ∀ o', Upd x (srcO a b ta tb n) o' news (upd o'))
    (hd : dp + 3 < recursionLimit) (hu : un + 24 < cLine)
    (hret : ∀ (ti sy po : Addr) (x0 x1 k p0 p1 st : Int) (t0 t1 t2 t3 t4 t5 : Tok) (a' b' : Int) (ta' tb' : Tok) (n' : Nat) (h' : Heap) (tk' : Nat),
      News h₀ L h' ((ti, tupO [.ref sy, .int k t2, .ref po, .int st t5]) :: (sy, tupO [.int x0 t0, .int x1 t1]) :: (po, tupO [.int p0 t3, .int p1 t4]) :: upd (srcO a' b' ta' tb' n')) → Fr h₀ L h' m →
      @LT.lt Nat _ x ti → @LT.lt Nat _ x sy → @LT.lt Nat _ x po → 0 ≤ x0 → x0 < 65536 → 0 ≤ x1 → x1 < 281474976710656 → 0 ≤ k → k < 65536 → 0 ≤ p0 → p0 < 65536 → 0 ≤ p1 → p1 < 65536 → 0 ≤ st → st < 256 → 0 ≤ b' → b' < 2147483647 → Q (.ref ti) { s with heap := h', toks := tk' }) :
    wpAny (model PySem.Challenge.rw_pc0360_01.row.prog w) (ktrTop dp un gd cn cs L ad ccd cl outer) (PySem.call (.ref 197) [.ref x]) Q E s :=
  info_spec others_ne hb hb' dp un gd cn cs ad ccd cl outer A₀ base h₀ L m s Q E B F X T hk (news_front (hU (srcO a b ta tb n)) N) hd hu
    fun ti sy po x0 x1 k p0 p1 st t0 t1 t2 t3 t4 t5 a' b' ta' tb' n' h' tk' N' F' l1 l2 l3 => hret ti sy po x0 x1 k p0 p1 st t0 t1 t2 t3 t4 t5 a' b' ta' tb' n' h' tk' (news_cons N' (.head _) (news_cons N' (.tail _ (.head _)) (news_cons N' (.tail _ (.tail _ (.head _))) (news_back (hU _) (news_tail (news_tail (news_tail N'))))))) F' l1 l2 l3

/-- unpack_lacpdu upon the octets of a message, or of what differs in what is free -/
theorem unpack_ok {w : World} {p : Program} {loose : List Str} {mean : ExcName → Option Value} {mg mb : Str → Option Value}
    {b : Array UInt8} {ks : List Int} {t : Tok} {news : Led} {x0 x1 k p0 p1 st y0 y1 l q0 q1 su md : Int} (hb : KBw.bInts b = ks) (h2 : ks.length ≤ 1000) (hD : Dec ks x0 x1 k p0 p1 st y0 y1 l q0 q1 su md)
    (dp un : Nat) (gd : Option (List Code)) (cn : Str) (cs : Scope) (ad : Addr) (ccd : Value) (cl : List (Str × Addr)) (outer : List Env) (A₀ : Around) (base h₀ : Heap) (L : Addr) (m : Str → Option Value) (s : Shared) (Q E : Value → Shared → Prop)
    (B : Below A₀ base outer h₀) (F : Fr h₀ L s.heap m) (X : (heapK w.params).In h₀) (T : Top p loose mean mg mb h₀) (hk : cs.kind = .function) (N : News h₀ L s.heap news)
    (hd : dp + 14 < recursionLimit) (hu : un + 120 < cLine)
    (hret : ∀ (r d ti sy po ti' sy' po' : Addr) (ka kb kc t0 t1 t2 t3 t4 t5 t0' t1' t2' t3' t4' t5' td : Tok) (h' : Heap) (tk' : Nat),
      News h₀ L h' ((r, instObj 123 d) :: (d, pduD w.params ka kb kc (.ref ti) (.ref ti') (.int md td)) ::
        (ti, tupO [.ref sy, .int k t2, .ref po, .int st t5]) :: (sy, tupO [.int x0 t0, .int x1 t1]) :: (po, tupO [.int p0 t3, .int p1 t4]) ::
        (ti', tupO [.ref sy', .int l t2', .ref po', .int su t5']) :: (sy', tupO [.int y0 t0', .int y1 t1']) :: (po', tupO [.int q0 t3', .int q1 t4']) :: news) →
      Fr h₀ L h' m → Q (.ref r) { s with heap := h', toks := tk' }) :
    wpAny (model PySem.Challenge.rw_pc0360_01.row.prog w) (ktrTop dp un gd cn cs L ad ccd cl outer) (PySem.call (.ref 169) [.bytes b t]) Q E s := by
  obtain ⟨hg, rfl, rfl, rfl, rfl, rfl, rfl, rfl, rfl, rfl, rfl, rfl, rfl, rfl⟩ := hD
  exact unpack_spec hb h2 dp un gd cn cs ad ccd cl outer A₀ base h₀ L m s Q E B F X T hk N hd hu (fun _ => hret) fun h => absurd hg h

/-- the same, said of the frames below: the ground from which the turning is counted -/
theorem refused_T {w : World} {p : Program} {loose : List Str} {mean : ExcName → Option Value} {mg mb : Str → Option Value}
    {x : Addr} {vs : List Value} {ns : List Int} {k : Nat} {news : Led} {g₀ : Heap} (hi : IntsAre vs ns) (hl : ns.length ≤ 1000) (hin : KBa.In ns) (hbad : ¬ Good ns) (hm : (x, listOf vs.toArray k) ∈ news)
    (dp un : Nat) (gd : Option (List Code)) (cn : Str) (cs : Scope) (ad : Addr) (ccd : Value) (outer : List Env) (A₀ : Around) (base h₀ : Heap) (L : Addr) (m : Str → Option Value) (s : Shared) (Q E : Value → Shared → Prop)
    (B : Below A₀ base outer h₀) (F : Fr h₀ L s.heap m) (X : (heapK w.params).In h₀) (T : Top p loose mean mg mb h₀) (hk : cs.kind = .function) (XB : (heapK w.params).In base) (TB : Top p loose mean mg mb base) (D : KtsDicts (outer.filterMap (·.frame)) h₀) (T0 : KtsTurn (outer.filterMap (·.frame)) g₀ h₀) (N : News h₀ L s.heap news)
    (hd : dp + 16 < recursionLimit) (hu : un + 140 < cLine)
    (hret : ∀ h₀' h' tk', KtsTurn (outer.filterMap (·.frame)) g₀ h₀' → Fr h₀' L h' m → News h₀' L h' news → Below A₀ base outer h₀' → (Pc.heapK w.params).In h₀' → Top p loose mean mg mb h₀' → KtsDicts (outer.filterMap (·.frame)) h₀' → Q (.bool true) { s with heap := h', toks := tk' }) :
    wpAny (model PySem.Challenge.rw_pc0360_01.row.prog w) (ktrTop dp un gd cn cs L ad ccd [] outer) (PySem.call (.ref 216) [.ref x]) Q E s :=
  refused_spec hi hl hin hbad hm dp un gd cn cs ad ccd outer A₀ base h₀ L m s Q E B F X T hk XB TB D N hd hu fun h₀' h' tk' T' => hret h₀' h' tk' (T0.trans T')
end Pc
end

section
open PySem PySem.W PySem.Spec PySem.Calls PyProof.Rows
set_option maxRecDepth 100000
namespace Pc
section
variable {prog : Program} {w : World} {A A₀ : Around} {E : Value → Shared → Prop} {s : Shared} {K : Frag} {L : Addr} {g₀ base g : Heap} {outer : List Env} {m₀ mg mb : Str → Option Value} {p : Program} {loose : List Str} {mean : ExcName → Option Value}
  {env : Env} {target : Expr} {body : List Stmt} {Q : Flow → Shared → Prop} {fs : List Addr} {l : Addr}
/-- what is kept through the loops of _law_message_right -/
abbrev led1 (x : Addr) (so : Obj) (i1 : Addr) (o1 : Obj) (i2 : Addr) (o2 : Obj) (ti sy po ti' sy' po' : Addr) (x0 x1 k p0 p1 st y0 y1 l q0 q1 su : Int) (t0 t1 t2 t3 t4 t5 t0' t1' t2' t3' t4' t5' : Tok) (r : Addr) (vs : List Value) (c : Nat) : Led :=
  [(x, so), (i1, o1), (i2, o2), (ti, tupO [.ref sy, .int k t2, .ref po, .int st t5]), (sy, tupO [.int x0 t0, .int x1 t1]), (po, tupO [.int p0 t3, .int p1 t4]),
    (ti', tupO [.ref sy', .int l t2', .ref po', .int su t5']), (sy', tupO [.int y0 t0', .int y1 t1']), (po', tupO [.int q0 t3', .int q1 t4']), (r, listOf vs.toArray c)]
/-- what a turn asks of the octets -/
structure Fine (ks : List Int) (x0 x1 k p0 p1 st y0 y1 l q0 q1 su md : Int) : Prop where
  lo : KBa.In ks
  dec : Dec ks x0 x1 k p0 p1 st y0 y1 l q0 q1 su md
  len : ks.length ≤ 1000
theorem turn_shape {ks t : List Int} {p v : Int} (h : 0 ≤ p) : List.take p.toNat ks ++ [v] ++ List.drop (p + 1).toNat ks ++ t = turn ks p.toNat v t := by
  unfold turn
  rw [show (p + 1).toNat = p.toNat + 1 by omega]
theorem third_shape (ks : List Int) (v : Int) : List.take (Int.toNat 1) ks ++ [v] ++ List.drop (Int.toNat 2) ks = turn ks 1 v [] := by
  unfold turn
  rw [List.append_nil]
  rfl
section
variable {x0 x1 k p0 p1 st y0 y1 l q0 q1 su md : Int}
theorem fine_msg {ks : List Int} (M : MsgIs ks x0 x1 k p0 p1 st y0 y1 l q0 q1 su md) : Fine ks x0 x1 k p0 p1 st y0 y1 l q0 q1 su md := by
  obtain ⟨rfl, R⟩ := M
  exact ⟨msg_in R, msg_dec R, by rw [msg_len]; decide⟩
theorem fine_odd {ks : List Int} {pl v n : Int} (M : MsgIs ks x0 x1 k p0 p1 st y0 y1 l q0 q1 su md) (hp : pl ∈ [(19 : Int), 20, 21, 39, 40, 41, 46, 57, 58, 109]) (h0 : 0 ≤ v) (h1 : v < 255) (hn : n < 3) :
    Fine (List.take pl.toNat ks ++ [1 + v] ++ List.drop (pl + 1).toNat ks ++ (List.replicate n.toNat [(9 : Int)]).flatten) x0 x1 k p0 p1 st y0 y1 l q0 q1 su md := by
  obtain ⟨rfl, R⟩ := M
  have hlt : pl.toNat < 110 := by
    simp only [List.mem_cons, List.not_mem_nil, or_false] at hp
    omega
  rw [turn_shape (free_lo hp)]
  exact ⟨turn_in (msg_in R) (by omega) (by omega) (nines_in _), odd_dec R hp _ rfl, by rw [turn_len (by rw [msg_len]; exact hlt), msg_len, nines_len]; omega⟩
theorem fine_third {ks : List Int} {v : Int} (M : MsgIs ks x0 x1 k p0 p1 st y0 y1 l q0 q1 su md) (h0 : 0 ≤ v) (h1 : v < 5) :
    Fine (List.take (Int.toNat 1) ks ++ [1 + v] ++ List.drop (Int.toNat 2) ks) x0 x1 k p0 p1 st y0 y1 l q0 q1 su md := by
  obtain ⟨rfl, R⟩ := M
  rw [third_shape]
  exact ⟨turn_in (msg_in R) (by omega) (by omega) in_nil, vers_dec R (by omega), by rw [turn_len (by rw [msg_len]; decide), msg_len]; decide⟩
end
theorem over_self (m : Str → Option Value) (z : Str) : m = fun y => if y = z then m z else m y := by
  funext y
  by_cases h : y = z
  · rw [if_pos h, h]
  · rw [if_neg h]
theorem over_twice (m : Str → Option Value) (z : Str) (a b : Option Value) : (fun y => if y = z then a else if y = z then b else m y) = fun y => if y = z then a else m y := by
  funext y
  by_cases h : y = z
  · rw [if_pos h, if_pos h]
  · rw [if_neg h, if_neg h, if_neg h]
theorem news_sub {h₀ h : Heap} {L : Addr} {l l' : Led} (N : News h₀ L h l) (hs : ∀ q ∈ l', q ∈ l) : News h₀ L h l' := fun q hq => N q (hs q hq)
theorem sub_nil {l : Led} : ∀ q ∈ ([] : Led), q ∈ l := fun _ h => absurd h List.not_mem_nil
theorem sub_cons {l l' : Led} {e : Addr × Obj} (h : e ∈ l) (hs : ∀ q ∈ l', q ∈ l) : ∀ q ∈ e :: l', q ∈ l := fun q hq => by
  rcases List.mem_cons.mp hq with rfl | hq
  · exact h
  · exact hs q hq
theorem turnT_end {J : (Str → Option Value) → Prop} {m : Str → Option Value} {h : Heap} {tk : Nat} {led : Led} (F : Fr g L h m) (hJ : J m) (N : News g L h led) (T : KtsTurn fs g₀ g) (B : Below A₀ base outer g) (X : K.In g) (P : Top p loose mean mg mb g) (D : KtsDicts fs g) :
    TurnT Q s (fun m h g' => J m ∧ Sit fs g₀ A₀ base outer K p loose mean mg mb L m led h g') .next { s with heap := h, toks := tk } := ⟨h, tk, m, g, rfl, hJ, T, F, N, B, X, P, D⟩
/-- the loop over three rows -/
theorem loop_rows {all : Led} {x i1 i2 ti sy po ti' sy' po' r r1 r2 : Addr} {so o1 o2 : Obj} {x0 x1 k p0 p1 st y0 y1 l' q0 q1 su md : Int} {t0 t1 t2 t3 t4 t5 t0' t1' t2' t3' t4' t5' : Tok} {vs vs1 vs2 : List Value} {ks ks1 ks2 : List Int} {c c1 c2 cl : Nat}
    (name : Str) (eL : env.locals = L)
    (T₀ : KtsTurn fs g₀ g) (F : Fr g L s.heap m₀) (N : News g L s.heap all) (B : Below A₀ base outer g) (X : K.In g) (P : Top p loose mean mg mb g) (D : KtsDicts fs g)
    (hl : (l, listOf #[.ref r, .ref r1, .ref r2] cl) ∈ all) (nr0 : (r, listOf vs.toArray c) ∈ all) (nr1 : (r1, listOf vs1.toArray c1) ∈ all) (nr2 : (r2, listOf vs2.toArray c2) ∈ all)
    (sub : ∀ q ∈ led1 x so i1 o1 i2 o2 ti sy po ti' sy' po' x0 x1 k p0 p1 st y0 y1 l' q0 q1 su t0 t1 t2 t3 t4 t5 t0' t1' t2' t3' t4' t5' r vs c, q ∈ all)
    (hi : IntsAre vs ks) (hi1 : IntsAre vs1 ks1) (hi2 : IntsAre vs2 ks2)
    (f0 : Fine ks x0 x1 k p0 p1 st y0 y1 l' q0 q1 su md) (f1 : Fine ks1 x0 x1 k p0 p1 st y0 y1 l' q0 q1 su md) (f2 : Fine ks2 x0 x1 k p0 p1 st y0 y1 l' q0 q1 su md)
    (hh : A.handled = none) (hE : PassesOwn (model prog w) A env E)
    (turn : ∀ R vs' c' ks' u g' h tk I o,
      IntsAre vs' ks' → KBa.In ks' → Dec ks' x0 x1 k p0 p1 st y0 y1 l' q0 q1 su md → ks'.length ≤ 1000 →
      KtsTurn fs g₀ g' → Fr g' L h (fun y => if y = name then u else m₀ y) →
      News g' L h ((R, listOf (List.toArray vs') c') :: (I, o) :: (l, listOf #[.ref r, .ref r1, .ref r2] cl) :: (r1, listOf vs1.toArray c1) :: (r2, listOf vs2.toArray c2) :: led1 x so i1 o1 i2 o2 ti sy po ti' sy' po' x0 x1 k p0 p1 st y0 y1 l' q0 q1 su t0 t1 t2 t3 t4 t5 t0' t1' t2' t3' t4' t5' r vs c) →
      Below A₀ base outer g' → K.In g' → Top p loose mean mg mb g' → KtsDicts fs g' →
      wpAny (model prog w) A (assign target env (.ref R)) (fun _ s₂ => wpAny (model prog w) A (execs body env) (TurnT Q s fun m h g' => (∃ u, m = fun y => if y = name then u else m₀ y) ∧ Sit fs g₀ A₀ base outer K p loose mean mg mb L m
        ((I, o) :: (l, listOf #[.ref r, .ref r1, .ref r2] cl) :: (r1, listOf vs1.toArray c1) :: (r2, listOf vs2.toArray c2) :: led1 x so i1 o1 i2 o2 ti sy po ti' sy' po' x0 x1 k p0 p1 st y0 y1 l' q0 q1 su t0 t1 t2 t3 t4 t5 t0' t1' t2' t3' t4' t5' r vs c) h g') E s₂) E { s with heap := h, toks := tk })
    (done : ∀ u g' h tk, IntsAre vs ks → KtsTurn fs g₀ g' → Fr g' L h (fun y => if y = name then u else m₀ y) →
      News g' L h (led1 x so i1 o1 i2 o2 ti sy po ti' sy' po' x0 x1 k p0 p1 st y0 y1 l' q0 q1 su t0 t1 t2 t3 t4 t5 t0' t1' t2' t3' t4' t5' r vs c) →
      Below A₀ base outer g' → K.In g' → Top p loose mean mg mb g' → KtsDicts fs g' → Q .next { s with heap := h, toks := tk }) :
    wpAny (model prog w) A (pyIter (.ref l)) (fun it s₂ => codeAny (model prog w) A (.forLoop target it body [] env) (fun r s' => match r with | .ok f => Q f s' | .error e => cameBackBy (model prog w) A env E e s') s₂) E s := by
  subst eL
  have nr : (r, listOf vs.toArray c) ∈ all := sub _ (.tail _ (.tail _ (.tail _ (.tail _ (.tail _ (.tail _ (.tail _ (.tail _ (.tail _ (.head _))))))))))
  refine loop_T (g := g) (vs := [.ref r, .ref r1, .ref r2]) (led := (l, listOf #[.ref r, .ref r1, .ref r2] cl) :: (r1, listOf vs1.toArray c1) :: (r2, listOf vs2.toArray c2) :: led1 x so i1 o1 i2 o2 ti sy po ti' sy' po' x0 x1 k p0 p1 st y0 y1 l' q0 q1 su t0 t1 t2 t3 t4 t5 t0' t1' t2' t3' t4' t5' r vs c)
    (fun _ m => ∃ u, m = fun y => if y = name then u else m₀ y) (.head _) rfl rfl hh ⟨T₀, F, news_sub N (sub_cons hl (sub_cons nr1 (sub_cons nr2 sub))), B, X, P, D⟩ ⟨_, over_self _ _⟩ ?_ ?_ hE
  · rintro i v m g' h tk I o hv ⟨u, rfl⟩ _ ⟨T', F', N', B', X', P', D'⟩
    have hv' : v = .ref r ∨ v = .ref r1 ∨ v = .ref r2 := by
      have := List.mem_of_getElem? hv
      simpa using this
    rcases hv' with rfl | rfl | rfl
    · exact turn r vs c ks u g' h tk I o hi f0.lo f0.dec f0.len T' F' (news_cons N' (.tail _ (.tail _ (.tail _ (.tail _ (.tail _ (.tail _ (.tail _ (.tail _ (.tail _ (.tail _ (.tail _ (.tail _ (.tail _ (.head _)))))))))))))) N') B' X' P' D'
    · exact turn r1 vs1 c1 ks1 u g' h tk I o hi1 f1.lo f1.dec f1.len T' F' (news_cons N' (.tail _ (.tail _ (.head _))) N') B' X' P' D'
    · exact turn r2 vs2 c2 ks2 u g' h tk I o hi2 f2.lo f2.dec f2.len T' F' (news_cons N' (.tail _ (.tail _ (.tail _ (.head _)))) N') B' X' P' D'
  · rintro m g' h tk ⟨u, rfl⟩ ⟨T', F', N', B', X', P', D'⟩
    exact done u g' h tk hi T' F' (news_tail (news_tail (news_tail N'))) B' X' P' D'

theorem MsgIs.len {ks : List Int} {x0 x1 k p0 p1 st y0 y1 l q0 q1 su md : Int} (M : MsgIs ks x0 x1 k p0 p1 st y0 y1 l q0 q1 su md) : ks.length = 110 := by
  obtain ⟨rfl, _⟩ := M
  exact msg_len
theorem short_msg {ks : List Int} {x0 x1 k p0 p1 st y0 y1 l q0 q1 su md v : Int} (M : MsgIs ks x0 x1 k p0 p1 st y0 y1 l q0 q1 su md) (h0 : 0 ≤ v) (h : v < 110) : ¬ Good (List.take v.toNat ks) := by
  obtain ⟨rfl, _⟩ := M
  exact short_bad (by omega)
theorem short_in {ks : List Int} {x0 x1 k p0 p1 st y0 y1 l q0 q1 su md v : Int} (M : MsgIs ks x0 x1 k p0 p1 st y0 y1 l q0 q1 su md) : KBa.In (List.take v.toNat ks) := by
  obtain ⟨rfl, R⟩ := M
  exact take_in (msg_in R) _
theorem short_len {ks : List Int} {x0 x1 k p0 p1 st y0 y1 l q0 q1 su md v : Int} (M : MsgIs ks x0 x1 k p0 p1 st y0 y1 l q0 q1 su md) : (List.take v.toNat ks).length ≤ 1000 := by
  rw [List.length_take, M.len]
  omega
/-- a turn of the pairs: what stands there -/
structure Pair (ks : List Int) (pl oc : Int) : Prop where
  lo : 0 ≤ pl
  lo1 : 0 ≤ pl + 1
  bad : ¬ Good (List.take pl.toNat ks ++ [oc] ++ List.drop (pl + 1).toNat ks)
  inb : KBa.In (List.take pl.toNat ks ++ [oc] ++ List.drop (pl + 1).toNat ks)
  len : (List.take pl.toNat ks ++ [oc] ++ List.drop (pl + 1).toNat ks).length ≤ 1000
theorem pair_of {ks : List Int} {pl oc : Int} {x0 x1 k p0 p1 st y0 y1 l q0 q1 su md : Int} (M : MsgIs ks x0 x1 k p0 p1 st y0 y1 l q0 q1 su md) (h : (pl, oc) ∈ [((0 : Int), (2 : Int)), (1, 0), (2, 2), (3, 19), (22, 1), (23, 21), (42, 0), (43, 15)]) : Pair ks pl oc := by
  obtain ⟨rfl, R⟩ := M
  have hb : 0 ≤ pl ∧ pl < 110 ∧ 0 ≤ oc ∧ oc < 256 := by
    simp only [List.mem_cons, List.not_mem_nil, or_false, Prod.mk.injEq] at h
    omega
  have e : List.take pl.toNat (msg x0 x1 k p0 p1 st y0 y1 l q0 q1 su md) ++ [oc] ++ List.drop (pl + 1).toNat (msg x0 x1 k p0 p1 st y0 y1 l q0 q1 su md) = turn (msg x0 x1 k p0 p1 st y0 y1 l q0 q1 su md) pl.toNat oc [] := by
    rw [← turn_shape hb.1, List.append_nil]
  refine ⟨hb.1, by omega, ?_, ?_, ?_⟩ <;> rw [e]
  · exact bad_turn h []
  · exact turn_in (msg_in R) hb.2.2.1 hb.2.2.2 in_nil
  · rw [turn_len (by rw [msg_len]; omega), msg_len]; decide
theorem over_self2 (m : Str → Option Value) (z z' : Str) : m = fun y => if y = z then m z else if y = z' then m z' else m y := by
  funext y
  by_cases h : y = z
  · rw [if_pos h, h]
  · by_cases h' : y = z'
    · rw [if_neg h, if_pos h', h']
    · rw [if_neg h, if_neg h']
theorem over_twice2 (m : Str → Option Value) (z z' : Str) (a b a' b' : Option Value) : (fun y => if y = z then a else if y = z' then a' else if y = z then b else if y = z' then b' else m y) = fun y => if y = z then a else if y = z' then a' else m y := by
  funext y
  by_cases h : y = z
  · rw [if_pos h, if_pos h]
  · by_cases h' : y = z'
    · rw [if_neg h, if_pos h', if_neg h, if_pos h']
    · rw [if_neg h, if_neg h', if_neg h, if_neg h', if_neg h, if_neg h']
/-- the loop over the eight pairs -/
theorem loop_pairs {all : Led} {x i1 i2 ti sy po ti' sy' po' r a0 a1 a2 a3 a4 a5 a6 a7 : Addr} {so o1 o2 : Obj} {x0 x1 k p0 p1 st y0 y1 l' q0 q1 su md : Int} {t0 t1 t2 t3 t4 t5 t0' t1' t2' t3' t4' t5' s0 v0 s1 v1 s2 v2 s3 v3 s4 v4 s5 v5 s6 v6 s7 v7 : Tok} {vs : List Value} {ks : List Int} {c cl : Nat}
    (name name' : Str) (eL : env.locals = L)
    (T₀ : KtsTurn fs g₀ g) (F : Fr g L s.heap m₀) (N : News g L s.heap all) (B : Below A₀ base outer g) (X : K.In g) (P : Top p loose mean mg mb g) (D : KtsDicts fs g)
    (hl : (l, listOf #[.ref a0, .ref a1, .ref a2, .ref a3, .ref a4, .ref a5, .ref a6, .ref a7] cl) ∈ all) (n0 : (a0, tupO [.int 0 s0, .int 2 v0]) ∈ all) (n1 : (a1, tupO [.int 1 s1, .int 0 v1]) ∈ all) (n2 : (a2, tupO [.int 2 s2, .int 2 v2]) ∈ all) (n3 : (a3, tupO [.int 3 s3, .int 19 v3]) ∈ all) (n4 : (a4, tupO [.int 22 s4, .int 1 v4]) ∈ all) (n5 : (a5, tupO [.int 23 s5, .int 21 v5]) ∈ all) (n6 : (a6, tupO [.int 42 s6, .int 0 v6]) ∈ all) (n7 : (a7, tupO [.int 43 s7, .int 15 v7]) ∈ all)
    (sub : ∀ q ∈ led1 x so i1 o1 i2 o2 ti sy po ti' sy' po' x0 x1 k p0 p1 st y0 y1 l' q0 q1 su t0 t1 t2 t3 t4 t5 t0' t1' t2' t3' t4' t5' r vs c, q ∈ all) (M : MsgIs ks x0 x1 k p0 p1 st y0 y1 l' q0 q1 su md) (hi : IntsAre vs ks)
    (hh : A.handled = none) (hE : PassesOwn (model prog w) A env E)
    (turn : ∀ R pl oc t t' u u' g' h tk I o, Pair ks pl oc → IntsAre vs ks → ks.length = 110 →
      KtsTurn fs g₀ g' → Fr g' L h (fun y => if y = name then u else if y = name' then u' else m₀ y) →
      News g' L h ((R, tupO [.int pl t, .int oc t']) :: (I, o) :: (l, listOf #[.ref a0, .ref a1, .ref a2, .ref a3, .ref a4, .ref a5, .ref a6, .ref a7] cl) :: (a0, tupO [.int 0 s0, .int 2 v0]) :: (a1, tupO [.int 1 s1, .int 0 v1]) :: (a2, tupO [.int 2 s2, .int 2 v2]) :: (a3, tupO [.int 3 s3, .int 19 v3]) :: (a4, tupO [.int 22 s4, .int 1 v4]) :: (a5, tupO [.int 23 s5, .int 21 v5]) :: (a6, tupO [.int 42 s6, .int 0 v6]) :: (a7, tupO [.int 43 s7, .int 15 v7]) :: led1 x so i1 o1 i2 o2 ti sy po ti' sy' po' x0 x1 k p0 p1 st y0 y1 l' q0 q1 su t0 t1 t2 t3 t4 t5 t0' t1' t2' t3' t4' t5' r vs c) →
      Below A₀ base outer g' → K.In g' → Top p loose mean mg mb g' → KtsDicts fs g' →
      wpAny (model prog w) A (assign target env (.ref R)) (fun _ s₂ => wpAny (model prog w) A (execs body env) (TurnT Q s fun m h g' => (∃ u u', m = fun y => if y = name then u else if y = name' then u' else m₀ y) ∧ Sit fs g₀ A₀ base outer K p loose mean mg mb L m
        ((I, o) :: (l, listOf #[.ref a0, .ref a1, .ref a2, .ref a3, .ref a4, .ref a5, .ref a6, .ref a7] cl) :: (a0, tupO [.int 0 s0, .int 2 v0]) :: (a1, tupO [.int 1 s1, .int 0 v1]) :: (a2, tupO [.int 2 s2, .int 2 v2]) :: (a3, tupO [.int 3 s3, .int 19 v3]) :: (a4, tupO [.int 22 s4, .int 1 v4]) :: (a5, tupO [.int 23 s5, .int 21 v5]) :: (a6, tupO [.int 42 s6, .int 0 v6]) :: (a7, tupO [.int 43 s7, .int 15 v7]) :: led1 x so i1 o1 i2 o2 ti sy po ti' sy' po' x0 x1 k p0 p1 st y0 y1 l' q0 q1 su t0 t1 t2 t3 t4 t5 t0' t1' t2' t3' t4' t5' r vs c) h g') E s₂) E { s with heap := h, toks := tk })
    (done : ∀ u u' g' h tk, IntsAre vs ks → ks.length = 110 → KtsTurn fs g₀ g' → Fr g' L h (fun y => if y = name then u else if y = name' then u' else m₀ y) →
      News g' L h (led1 x so i1 o1 i2 o2 ti sy po ti' sy' po' x0 x1 k p0 p1 st y0 y1 l' q0 q1 su t0 t1 t2 t3 t4 t5 t0' t1' t2' t3' t4' t5' r vs c) →
      Below A₀ base outer g' → K.In g' → Top p loose mean mg mb g' → KtsDicts fs g' → Q .next { s with heap := h, toks := tk }) :
    wpAny (model prog w) A (pyIter (.ref l)) (fun it s₂ => codeAny (model prog w) A (.forLoop target it body [] env) (fun r s' => match r with | .ok f => Q f s' | .error e => cameBackBy (model prog w) A env E e s') s₂) E s := by
  subst eL
  refine loop_T (g := g) (vs := [.ref a0, .ref a1, .ref a2, .ref a3, .ref a4, .ref a5, .ref a6, .ref a7]) (led := (l, listOf #[.ref a0, .ref a1, .ref a2, .ref a3, .ref a4, .ref a5, .ref a6, .ref a7] cl) :: (a0, tupO [.int 0 s0, .int 2 v0]) :: (a1, tupO [.int 1 s1, .int 0 v1]) :: (a2, tupO [.int 2 s2, .int 2 v2]) :: (a3, tupO [.int 3 s3, .int 19 v3]) :: (a4, tupO [.int 22 s4, .int 1 v4]) :: (a5, tupO [.int 23 s5, .int 21 v5]) :: (a6, tupO [.int 42 s6, .int 0 v6]) :: (a7, tupO [.int 43 s7, .int 15 v7]) :: led1 x so i1 o1 i2 o2 ti sy po ti' sy' po' x0 x1 k p0 p1 st y0 y1 l' q0 q1 su t0 t1 t2 t3 t4 t5 t0' t1' t2' t3' t4' t5' r vs c)
    (fun _ m => ∃ u u', m = fun y => if y = name then u else if y = name' then u' else m₀ y) (.head _) rfl rfl hh ⟨T₀, F, news_sub N (sub_cons hl (sub_cons n0 (sub_cons n1 (sub_cons n2 (sub_cons n3 (sub_cons n4 (sub_cons n5 (sub_cons n6 (sub_cons n7 (sub)))))))))), B, X, P, D⟩ ⟨_, _, over_self2 _ _ _⟩ ?_ ?_ hE
  · rintro i v m g' h tk I o hv ⟨u, u', rfl⟩ _ ⟨T', F', N', B', X', P', D'⟩
    have hv' : v = .ref a0 ∨ v = .ref a1 ∨ v = .ref a2 ∨ v = .ref a3 ∨ v = .ref a4 ∨ v = .ref a5 ∨ v = .ref a6 ∨ v = .ref a7 := by
      have := List.mem_of_getElem? hv
      simpa using this
    rcases hv' with rfl | rfl | rfl | rfl | rfl | rfl | rfl | rfl
    · exact turn a0 0 2 s0 v0 u u' g' h tk I o (pair_of M (by decide)) hi M.len T' F' (news_cons N' (.tail _ (.tail _ (.head _))) N') B' X' P' D'
    · exact turn a1 1 0 s1 v1 u u' g' h tk I o (pair_of M (by decide)) hi M.len T' F' (news_cons N' (.tail _ (.tail _ (.tail _ (.head _)))) N') B' X' P' D'
    · exact turn a2 2 2 s2 v2 u u' g' h tk I o (pair_of M (by decide)) hi M.len T' F' (news_cons N' (.tail _ (.tail _ (.tail _ (.tail _ (.head _))))) N') B' X' P' D'
    · exact turn a3 3 19 s3 v3 u u' g' h tk I o (pair_of M (by decide)) hi M.len T' F' (news_cons N' (.tail _ (.tail _ (.tail _ (.tail _ (.tail _ (.head _)))))) N') B' X' P' D'
    · exact turn a4 22 1 s4 v4 u u' g' h tk I o (pair_of M (by decide)) hi M.len T' F' (news_cons N' (.tail _ (.tail _ (.tail _ (.tail _ (.tail _ (.tail _ (.head _))))))) N') B' X' P' D'
    · exact turn a5 23 21 s5 v5 u u' g' h tk I o (pair_of M (by decide)) hi M.len T' F' (news_cons N' (.tail _ (.tail _ (.tail _ (.tail _ (.tail _ (.tail _ (.tail _ (.head _)))))))) N') B' X' P' D'
    · exact turn a6 42 0 s6 v6 u u' g' h tk I o (pair_of M (by decide)) hi M.len T' F' (news_cons N' (.tail _ (.tail _ (.tail _ (.tail _ (.tail _ (.tail _ (.tail _ (.tail _ (.head _))))))))) N') B' X' P' D'
    · exact turn a7 43 15 s7 v7 u u' g' h tk I o (pair_of M (by decide)) hi M.len T' F' (news_cons N' (.tail _ (.tail _ (.tail _ (.tail _ (.tail _ (.tail _ (.tail _ (.tail _ (.tail _ (.head _)))))))))) N') B' X' P' D'
  · rintro m g' h tk ⟨u, u', rfl⟩ ⟨T', F', N', B', X', P', D'⟩
    exact done u u' g' h tk hi M.len T' F' (news_tail (news_tail (news_tail (news_tail (news_tail (news_tail (news_tail (news_tail (news_tail (N')))))))))) B' X' P' D'
end
end Pc
end

section
open PySem PySem.W PySem.Spec PySem.Calls PyProof.Rows
namespace Pc
local macro_rules | `(tactic| k_lt $h:ident) => `(tactic| (replace $h := allLt_of $h))
local macro_rules | `(tactic| k_ne) => `(tactic| (refine neN ?_; (try dsimp only); first | with_reducible assumption | with_reducible exact Ne.symm (by with_reducible assumption) | with_reducible exact Nat.ne_of_lt (by with_reducible assumption) | with_reducible exact Nat.ne_of_gt (by with_reducible assumption) | exact ne_r (by assumption) (by k_mem) | exact ne_l (by assumption) (by k_mem) | omega | (simp only [AllLt, and_true] at *; omega)))

set_option maxRecDepth 100000 in
set_option maxHeartbeats 4000000 in
theorem msg_spec {w : World} {p : Program} {loose : List Str} {mean : ExcName → Option Value} {mg mb : Str → Option Value}
    {x i1 i2 : Addr} {o1 o2 : Obj} {a b : Int} {ta tb : Tok} {n : Nat} (hx1 : @Ne Nat x i1) (hx2 : @Ne Nat x i2) (hb : 0 ≤ b) (hb' : b < 2147483647)
    (dp un : Nat) (gd : Option (List Code)) (cn : Str) (cs : Scope) (ad : Addr) (ccd : Value) (outer : List Env) (A₀ : Around) (base h₀ : Heap) (L : Addr) (m : Str → Option Value) (s : Shared) (Q E : Value → Shared → Prop)
    (B : Below A₀ base outer h₀) (F : Fr h₀ L s.heap m) (X : (heapK w.params).In h₀) (T : Top p loose mean mg mb h₀) (hk : cs.kind = .function) (XB : (heapK w.params).In base) (TB : Top p loose mean mg mb base) (D : KtsDicts (outer.filterMap (·.frame)) h₀) (N : News h₀ L s.heap [(x, srcO a b ta tb n), (i1, o1), (i2, o2)])
    (hd : dp + 20 < recursionLimit) (hu : un + 300 < cLine)
    (hret : ∀ h₀' a' b' ta' tb' n' h' tk', KtsTurn (outer.filterMap (·.frame)) h₀ h₀' → Fr h₀' L h' m → News h₀' L h' [(x, srcO a' b' ta' tb' n'), (i1, o1), (i2, o2)] → Below A₀ base outer h₀' → (Pc.heapK w.params).In h₀' → Top p loose mean mg mb h₀' → KtsDicts (outer.filterMap (·.frame)) h₀' → 0 ≤ b' → b' < 2147483647 → Q (.bool true) { s with heap := h', toks := tk' }) :
    wpAny (model PySem.Challenge.rw_pc0360_01.row.prog w) (ktrTop dp un gd cn cs L ad ccd [] outer) (PySem.call (.ref 223) [.ref x]) Q E s := by
  k_with_none
  k_with "call ref" => (k_here; (with_reducible show wpAny _ _ (PySem.call (Value.ref 183) [_, _]) _ _ _); k_dflt (refine' take_upd ?_ ?_ ?_ ?_ _ _ _ _ _ _ _ _ _ _ _ _ _ _ _ _ _ ?_ ?_ ?_ ?_ ?_ ?_ ?_ ?_ ?_ ?_; rotate_right 10; (focus ((k_asm); done)); (focus ((k_asm); done)); (focus ((k_asm); done)); (focus ((k_asm); done)); (focus ((first | rfl | assumption); done)); (focus ((k_asm); done)); (focus (((intro o9; k_upd)); done)); (focus ((ktr_room); done)); (focus ((ktr_units); done)); (all_goals skip); rotate_right 4; (focus ((first | assumption | omega | (simp only [List.mem_cons, List.not_mem_nil, or_false] at *; omega)); done)); (focus ((first | assumption | omega | (simp only [List.mem_cons, List.not_mem_nil, or_false] at *; omega)); done)); (focus ((first | assumption | omega | (simp only [List.mem_cons, List.not_mem_nil, or_false] at *; omega)); done)); (focus ((first | assumption | omega | (simp only [List.mem_cons, List.not_mem_nil, or_false] at *; omega)); done)); k_whole; intro v9 t9 a9 b9 ta9 tb9 n9 h9 tk9 hv9 hv9' hb9 hb9' F9 N9; (try dsimp only at N9); (try k_sweep); (try dsimp only); (try k_fold)))
  k_with "call ref" => (k_here; (with_reducible show wpAny _ _ (PySem.call (Value.ref 190) [_, _]) _ _ _); k_dflt (refine' one_upd ?_ ?_ ?_ ?_ ?_ _ _ _ _ _ _ _ _ _ _ _ _ _ _ _ _ _ ?_ ?_ ?_ ?_ ?_ ?_ ?_ ?_ ?_ ?_ ?_ ?_; rotate_right 12; (focus ((k_asm); done)); (focus ((k_asm); done)); (focus ((k_asm); done)); (focus ((k_asm); done)); (focus ((first | rfl | assumption); done)); (focus ((k_asm); done)); (focus (((intro o9; k_upd)); done)); rotate_left 1; (focus ((k_mem); done)); rotate_right 1; (focus ((first | exact lt_of_all (by assumption) (by k_mem) | (refine ltN ?_; omega)); done)); (focus ((ktr_room); done)); (focus ((ktr_units); done)); (all_goals skip); rotate_right 5; (focus ((repeat constructor); done)); (focus (((simp only [List.length_cons, List.length_nil]; omega)); done)); (focus (((simp only [List.length_cons, List.length_nil]; omega)); done)); (focus ((first | assumption | omega | (simp only [List.mem_cons, List.not_mem_nil, or_false] at *; omega)); done)); (focus ((first | assumption | omega | (simp only [List.mem_cons, List.not_mem_nil, or_false] at *; omega)); done)); k_whole; intro v9 t9 a9 b9 ta9 tb9 n9 h9 tk9 hv9 hb9 hb9' F9 N9; (try dsimp only at N9); (try k_sweep); (try dsimp only); (try k_fold)))
  k_with "call ref" => (k_here; (with_reducible show wpAny _ _ (PySem.call (Value.ref 197) [_]) _ _ _); k_dflt (refine' info_upd ?_ ?_ _ _ _ _ _ _ _ _ _ _ _ _ _ _ _ _ _ ?_ ?_ ?_ ?_ ?_ ?_ ?_ ?_ ?_ ?_; rotate_right 10; (focus ((k_asm); done)); (focus ((k_asm); done)); (focus ((k_asm); done)); (focus ((k_asm); done)); (focus ((first | rfl | assumption); done)); (focus ((k_asm); done)); (focus (((intro o9; k_upd)); done)); (focus ((ktr_room); done)); (focus ((ktr_units); done)); (all_goals skip); rotate_right 2; (focus ((first | assumption | omega | (simp only [List.mem_cons, List.not_mem_nil, or_false] at *; omega)); done)); (focus ((first | assumption | omega | (simp only [List.mem_cons, List.not_mem_nil, or_false] at *; omega)); done)); k_whole; intro ti9 sy9 po9 x09 x19 k9 p09 p19 st9 t09 t19 t29 t39 t49 t59 a9 b9 ta9 tb9 n9 h9 tk9 N9 F9 l19 l29 l39 i19 i29 i39 i49 i59 i69 i79 i89 i99 j19 j29 j39 hb9 hb9'; (try dsimp only at N9); (try k_sweep); (try dsimp only); (try k_fold)))
  k_with "call ref" => (k_here; (with_reducible show wpAny _ _ (PySem.call (Value.ref 209) [.ref _, .ref _, .int _ _]) _ _ _); k_dflt (refine' rows_msg ?_ ?_ ?_ ?_ ?_ ?_ ?_ ?_ _ _ _ _ _ _ _ _ _ _ _ _ _ _ _ _ _ ?_ ?_ ?_ ?_ ?_ ?_  ?_ ?_ ?_; rotate_right 9; (focus ((k_asm); done)); (focus ((k_asm); done)); (focus ((k_asm); done)); (focus ((k_asm); done)); (focus ((first | rfl | assumption); done)); (focus ((k_asm); done)); (focus ((ktr_room); done)); (focus ((ktr_units); done)); (all_goals skip); rotate_right 7; (focus ((k_mem); done)); (focus ((k_mem); done)); (focus ((k_mem); done)); (focus ((k_mem); done)); (focus ((k_mem); done)); (focus ((k_mem); done)); (focus ((k_mem); done)); rotate_right 1; (focus (((constructor <;> (first | assumption | omega | (simp only [List.mem_cons, List.not_mem_nil, or_false] at *; omega)))); done)); k_whole; intro r9 vs9 k9 h9 tk9 N9 F9 o9 ks9 hi9 M9 hl9; (try k_sweep); (try dsimp only); (try k_fold)))
  k_with "call ref" => (k_here; (with_reducible show wpAny _ _ (PySem.call (Value.ref 162) [.ref _]) _ _ _); k_dflt (refine' pack_msg ?_ ?_ ?_ ?_ ?_ ?_ ?_ ?_ ?_ _ _ _ _ _ _ _ _ _ _ _ _ _ _ _ _ _ ?_ ?_ ?_ ?_ ?_ ?_  ?_ ?_ ?_; rotate_right 9; (focus ((k_asm); done)); (focus ((k_asm); done)); (focus ((k_asm); done)); (focus ((k_asm); done)); (focus ((first | rfl | assumption); done)); (focus ((k_asm); done)); (focus ((ktr_room); done)); (focus ((ktr_units); done)); (all_goals skip); rotate_right 9; (focus ((assumption); done)); (focus ((k_mem); done)); (focus ((k_mem); done)); (focus ((k_mem); done)); (focus ((k_mem); done)); (focus ((k_mem); done)); (focus ((k_mem); done)); (focus ((k_mem); done)); (focus ((k_mem); done)); k_whole; intro b9 t9 h9 tk9 N9 F9 hb9; (try k_sweep); (try dsimp only); (try k_fold)))
  k_with "call type:list" => (k_here; (with_reducible show wpAny _ _ (PySem.call (Value.type "list") [Value.bytes _ _]) _ _ _); k_dflt (refine' list_of_bytes ?_ ?_ ?_ ?_ ?_ ?_; rotate_right 6; (focus ((k_asm); done)); (focus ((k_asm); done)); (focus ((rfl); done)); (focus ((assumption); done)); (focus ((omega); done)); k_whole); intro D8 vs8 c8 h8 tk8 F8 N8 l8 hI8; (try k_lt l8); (try k_sweep); (try dsimp only); (try k_fold))
  k_with "compareOp NotEq ref ref" => (k_here; k_dflt (refine' ne_same ?_ ?_ ?_ ?_ ?_ ?_; rotate_right 6; (focus ((exact News.isList (by k_asm) (by k_mem)); done)); (focus ((assumption); done)); (focus ((exact News.isList (by k_asm) (by k_mem)); done)); (focus ((assumption); done)); (focus ((ktr_units); done)); k_whole); (try dsimp only); (try k_fold))
  k_with "call builtin:len" => (k_here; k_dflt (refine' len_110 ?_ ?_ ?_ ?_; rotate_right 4; (focus ((exact News.isList (by k_asm) (by k_mem)); done)); (focus ((assumption); done)); (focus ((assumption); done)); k_whole); (try dsimp only); (try k_fold))
  k_with "exec For Name List cons nil" => (k_here; k_dflt (refine' For_stop ?_; k_whole))
  k_with "exec For Tuple List cons nil" => (k_here; k_dflt (refine' For_stop ?_; k_whole))
  k_with "ite" => first | with_reducible refine ite_tt ?_ | with_reducible refine ite_ff ?_ | with_reducible refine ite_110 ?_ | with_reducible refine ite_True_then ?_ | with_reducible refine ite_False_else ?_
  k_with "subscriptTail Name Slice ref ref" => (k_here; (with_reducible show wpAny _ _ (subscriptTail _ (PySem.Expr.Slice _ _ none _) (Value.ref _) (Value.ref _)) _ _ _); k_dflt (refine' kmk_slice_ints ?_ ?_ ?_ ?_ ?_ ?_ ?_ ?_ ?_ ?_ ?_ ?_; rotate_right 12; (focus ((k_asm); done)); (focus ((k_asm); done)); (focus ((exact News.isList (by k_asm) (by k_mem)); done)); (focus ((kmk_part); done)); (focus ((kmk_part); done)); (focus ((assumption); done)); (focus ((first | exact kmk_upto (by assumption) (by first | assumption | decide | exact free_lo (by assumption) | omega) | exact kmk_from (by assumption) (by first | assumption | decide | exact free_lo1 (by assumption) | omega)); done)); (focus ((kmk_len); done)); rotate_left 1; (focus ((with_unfolding_all rfl); done)); (focus ((kmk_pure); done)); (focus ((exact sz_110 (by assumption) (by assumption)); done)); rotate_right 1; k_whole); intro D8 ws8 h8 F8 N8 l8 hI8 hC8 hL8; (try k_lt l8); (try k_sweep); (try dsimp only); (try k_fold))
  k_with "subscriptTail Name Slice ref ref" => (k_here; (with_reducible show wpAny _ _ (subscriptTail _ (PySem.Expr.Slice _ _ none _) (Value.ref _) (Value.ref _)) _ _ _); k_dflt (refine' slice_at ?_ ?_ ?_ ?_ ?_ ?_ ?_ ?_ ?_ ?_ ?_ ?_; rotate_right 12; (focus ((k_asm); done)); (focus ((k_asm); done)); (focus ((exact News.isList (by k_asm) (by k_mem)); done)); (focus ((kmk_part); done)); (focus ((kmk_part); done)); (focus ((assumption); done)); (focus ((first | exact kmk_upto (by assumption) (by first | assumption | decide | exact free_lo (by assumption) | omega) | exact kmk_from (by assumption) (by first | assumption | decide | exact free_lo1 (by assumption) | omega)); done)); (focus ((kmk_len); done)); rotate_left 1; (focus ((with_unfolding_all rfl); done)); (focus ((kmk_pure); done)); (focus ((exact sz_110 (by assumption) (by assumption)); done)); rotate_right 1; k_whole); intro D8 ws8 h8 F8 N8 l8 hI8 hC8 hL8; (try k_lt l8); (try k_sweep); (try dsimp only); (try k_fold))
  k_with "binaryOp Add ref ref" => (k_here; (with_reducible show wpAny _ _ (binaryOp _ (Value.ref _) (Value.ref _)) _ _ _); k_dflt (refine' kmk_add_ints ?_ ?_ ?_ ?_ ?_ ?_ ?_ ?_; rotate_right 8; (focus ((k_asm); done)); (focus ((k_asm); done)); (focus ((exact News.isList (by k_asm) (by k_mem)); done)); (focus ((exact News.isList (by k_asm) (by k_mem)); done)); (focus ((first | assumption | (repeat constructor; done)); done)); (focus ((first | assumption | (repeat constructor; done)); done)); rotate_left 1; (focus ((first | (simp only [sizeLine_eq, num2, num6, List.length_append, List.length_cons, List.length_nil, List.length_replicate]; decide) | (simp only [sizeLine_eq, num2, num6, List.length_append, List.length_cons, List.length_nil, List.length_replicate, List.length_take, List.length_drop] at *; omega)); done)); rotate_right 1; k_whole); intro D8 ws8 h8 F8 N8 l8 hI8; (have l8a := l8); (try k_lt l8); (try k_sweep); (try dsimp only); (try k_fold))
  k_with "call type:bytes" => (k_here; (with_reducible show wpAny _ _ (PySem.call (Value.type "bytes") [Value.ref _]) _ _ _); k_dflt (refine' KBa.make_K ?_ ?_ ?_ ?_ ?_ ?_ ?_ ?_; rotate_right 8; (focus ((k_asm); done)); (focus ((k_asm); done)); (focus ((rfl); done)); (focus ((exact News.isList (by k_asm) (by k_mem)); done)); (focus ((assumption); done)); (focus ((assumption); done)); (focus ((omega); done)); k_whole); intro _ _ _ F' N' kbaIn; (try k_sweep); (try dsimp only); (try k_fold))
  k_with "call ref" => (k_here; (with_reducible show wpAny _ _ (PySem.call (Value.ref 169) [_]) _ _ _); k_dflt (refine' unpack_ok ?_ ?_ ?_ _ _ _ _ _ _ _ _ _ _ _ _ _ _ _ _ _ ?_ ?_ ?_ ?_ ?_ ?_  ?_ ?_ ?_; rotate_right 9; (focus ((k_asm); done)); (focus ((k_asm); done)); (focus ((k_asm); done)); (focus ((k_asm); done)); (focus ((first | rfl | assumption); done)); (focus ((k_asm); done)); (focus ((ktr_room); done)); (focus ((ktr_units); done)); (all_goals skip); rotate_right 1; (focus ((assumption); done)); rotate_right 2; (focus ((first | assumption | exact KBa.ints_make (by assumption)); done)); (focus ((first | assumption | omega); done)); k_whole; intro r9 d9 ti9 sy9 po9 ti9' sy9' po9' ka9 kb9 kc9 t09 t19 t29 t39 t49 t59 t09' t19' t29' t39' t49' t59' td9 h9 tk9 N9 F9; (try k_sweep); (try dsimp only); (try k_fold)))
  k_with "call ref" => (k_here; (with_reducible show wpAny _ _ (PySem.call (Value.ref 216) [_]) _ _ _); k_dflt (refine' refused_T ?_ ?_ ?_ ?_ ?_ _ _ _ _ _ _ _ _ _ _ _ _ _ _ _ _ ?_ ?_ ?_ ?_ ?_ ?_ ?_ ?_ ?_ ?_ ?_ ?_ ?_; rotate_right 12; (focus ((k_asm); done)); rotate_left 7; (focus ((k_asm); done)); rotate_right 8; (focus ((k_asm); done)); (focus ((k_asm); done)); (focus ((k_asm); done)); (focus ((first | rfl | assumption); done)); (focus ((assumption); done)); (focus ((assumption); done)); (focus ((assumption); done)); (focus ((first | assumption | exact KtsTurn.refl); done)); (focus ((ktr_room); done)); (focus ((ktr_units); done)); (all_goals skip); rotate_right 1; (focus ((k_mem); done)); rotate_right 4; (focus ((assumption); done)); rotate_left 2; (focus ((first | assumption | exact short_msg (by assumption) (by assumption) (by assumption)); done)); rotate_right 2; (focus ((first | assumption | exact short_len (by assumption)); done)); (focus ((first | assumption | exact short_in (by assumption)); done)); k_whole; intro h₀9 h9 tk9 T9 F9 N9 B9 X9 P9 D9; (try dsimp only); (try k_fold)))
  k_with "binaryOp Pow int int" => (k_here; k_dflt (refine' pow2_rule ?_ ?_ ?_; rotate_right 3; (focus ((assumption); done)); (focus ((assumption); done)); k_whole); intro b8 hb8; (try dsimp only); (try k_fold))
  k_with "binaryOp FloorDiv int int" => (k_here; k_dflt (refine' fdiv_rule ?_ ?_ ?_ ?_; rotate_right 4; (focus ((assumption); done)); (focus ((assumption); done)); (focus ((assumption); done)); k_whole); (try dsimp only); (try k_fold))
  k_with "compareOp Eq int int" => (k_here; k_dflt (refine' eqset_rule ?_ ?_ ?_ ?_ ?_; rotate_right 5; (focus ((exact rfl); done)); (focus ((assumption); done)); (focus ((assumption); done))); (all_goals k_whole); (all_goals (intro hset; (try dsimp only); (try k_fold))))
  k_with "compareOp NotEq bool bool" => (k_here; k_dflt (refine ne_same_bool ?_); (try dsimp only); (try k_fold))
  k_with "call ref" => (k_here; (with_reducible show wpAny _ _ (PySem.call (Value.ref 134) [_, _]) _ _ _); k_dflt (refine' has_c ?_ ?_ ?_ ?_ ?_ _ _ _ _ _ _ _ _ _ _ _ _ _ _ _ _ _ ?_ ?_ ?_ ?_ ?_ ?_  ?_ ?_ ?_; rotate_right 9; (focus ((k_asm); done)); (focus ((k_asm); done)); (focus ((k_asm); done)); (focus ((k_asm); done)); (focus ((first | rfl | assumption); done)); (focus ((k_asm); done)); (focus ((ktr_room); done)); (focus ((ktr_units); done)); (all_goals skip); rotate_right 5; (focus ((assumption); done)); rotate_left 3; (focus ((k_mem); done)); rotate_right 3; (focus ((assumption); done)); (focus ((assumption); done)); (focus ((assumption); done)); k_whole; intro h9 tk9 N9 F9; (try k_sweep); (try dsimp only); (try k_fold)))
  k_with "call ref" => (k_here; (with_reducible show wpAny _ _ (PySem.call (Value.ref 141) [_, _, _]) _ _ _); k_dflt (refine' with_c ?_ ?_ ?_ ?_ ?_ _ _ _ _ _ _ _ _ _ _ _ _ _ _ _ _ _ ?_ ?_ ?_ ?_ ?_ ?_  ?_ ?_ ?_; rotate_right 9; (focus ((k_asm); done)); (focus ((k_asm); done)); (focus ((k_asm); done)); (focus ((k_asm); done)); (focus ((first | rfl | assumption); done)); (focus ((k_asm); done)); (focus ((ktr_room); done)); (focus ((ktr_units); done)); (all_goals skip); rotate_right 5; (focus ((assumption); done)); rotate_left 3; (focus ((k_mem); done)); rotate_right 3; (focus ((assumption); done)); (focus ((assumption); done)); (focus ((assumption); done)); k_whole; intro r9 t9 h9 tk9 N9 F9 l9; (try dsimp only [sv] at N9); (try k_lt l9); (try k_sweep); (try dsimp only); (try k_fold)))
  k_with "subscriptTail Name Slice ref ref" => (k_here; (with_reducible show wpAny _ _ (subscriptTail _ (PySem.Expr.Slice _ _ none _) (Value.ref _) (Value.ref _)) _ _ _); k_dflt (refine' tup_to3 ?_ ?_ ?_ ?_ ?_ ?_; rotate_right 6; (focus ((k_asm); done)); (focus ((k_asm); done)); (focus ((k_mem); done)); rotate_left 1; (focus ((with_unfolding_all rfl); done)); (focus ((kmk_pure); done)); rotate_right 1; k_whole); intro D8 h8 F8 N8 l8; (try k_lt l8); (try k_sweep); (try dsimp only); (try k_fold))
  revert X; k_fill; w_top off; intro X
  refine wpAny_call ?_
  k_dflt (refine' code_defS ?k1 ?k2 ?k3 ?k4 ?k5 ?XB ?TB ?D ?T0 ?kA ?k6 ?k7 ?k8 ?k9 ?kB ?_ ?cK ?c2 ?c3 ?c4 ?c5; (case kA => exact rfl); (case k2 => k_asm); (case k1 => k_asm); (case XB => assumption); (case TB => assumption); (case D => assumption); (case T0 => exact KtsTurn.refl); (case k3 => k_asm); (case k4 => k_asm); (case k5 => k_asm); (case k6 => k_is); (case k7 => k_is); (case k8 => ktr_room); (case k9 => exact BindsTo.of_eq rfl); (case kB => exact locs rfl); (case cK => assumption); (case c2 => exact rfl); (case c3 => exact rfl); (case c4 => exact rfl); (case c5 => decide); k_whole; intro g' L' h' FG' F' N' B' X' T' D'; (try dsimp only); (try k_lift B'); (try k_fold))
  k_steps
  refine Stop.mk ?_
  refine' loop_rows (x := x) (i1 := i1) (i2 := i2) (Str.ofString "some") rfl KtsTurn.refl ?zF ?zN ?zB ?zX ?zP ?zD ?zhl ?znr0 ?znr1 ?znr2 ?zsub ?zhi ?zhi1 ?zhi2 ?zf0 ?zf1 ?zf2 ?zhh ?zhE ?zturn ?zdone
  (case zF => k_asm)
  (case zN => k_asm)
  (case zB => k_asm)
  (case zX => k_asm)
  (case zP => k_asm)
  (case zD => assumption)
  (case zhl => k_mem)
  (case znr0 => k_mem)
  (case znr1 => k_mem)
  (case znr2 => k_mem)
  (case zhi => assumption)
  (case zhi1 => assumption)
  (case zhi2 => assumption)
  (case zf0 => exact fine_msg (by assumption))
  (case zf1 => exact fine_odd (by assumption) (by assumption) (by assumption) (by assumption) (by assumption))
  (case zf2 => exact fine_third (by assumption) (by assumption) (by assumption))
  (case zsub => exact sub_cons (by k_mem) (sub_cons (by k_mem) (sub_cons (by k_mem) (sub_cons (by k_mem) (sub_cons (by k_mem) (sub_cons (by k_mem) (sub_cons (by k_mem) (sub_cons (by k_mem) (sub_cons (by k_mem) (sub_cons (by k_mem) sub_nil))))))))))
  (case zhh => rfl)
  (case zhE => passes_own)
  case zturn =>
    clear hret N B' X' T' D' FG' F B T X D
    (with_reducible ((repeat (rename (@LT.lt Nat _ _ _ ∧ _) => hz; clear hz)); (repeat (rename (IntsAre _ _) => hz; clear hz)); (repeat (rename (List.length _ = _) => hz; clear hz)); (repeat (rename (List.length _ ≤ _) => hz; clear hz)); (repeat (rename (∀ q ∈ _, @LT.lt Nat _ _ _) => hz; clear hz))))
    intro R vs' c' ks' u g₂ h₂ tk₂ I oI hi₂ hin₂ hdec₂ hlen₂ T₂ F₂ N₂ B₂ X₂ P₂ D₂
    k_steps
    refine' turnT_end ?zhF ?zhJ ?zhN T₂ B₂ X₂ P₂ D₂
    case zhF => k_asm
    case zhJ => exact ⟨_, over_twice _ _ _ _⟩
    case zhN =>
      rename News g₂ _ _ _ => NN8
      repeat (first | exact NN8 | (replace NN8 := news_tail NN8))
  case zdone =>
    clear N B' X' T' D' FG' F B T X D
    (with_reducible ((repeat (rename (@LT.lt Nat _ _ _ ∧ _) => hz; clear hz)); (repeat (rename (IntsAre _ _) => hz; clear hz)); (repeat (rename (List.length _ = _) => hz; clear hz)); (repeat (rename (List.length _ ≤ _) => hz; clear hz)); (repeat (rename (∀ q ∈ _, @LT.lt Nat _ _ _) => hz; clear hz))))
    intro u₂ g₂ h₂ tk₂ hi₂ T₂ F₂ N₂ B₂ X₂ P₂ D₂
    k_steps
    refine Stop.mk ?_
    refine' loop_pairs (x := x) (i1 := i1) (i2 := i2) (Str.ofString "octet") (Str.ofString "place") rfl T₂ ?yF ?yN ?yB ?yX ?yP ?yD ?yhl ?pp0 ?pp1 ?pp2 ?pp3 ?pp4 ?pp5 ?pp6 ?pp7 ?ysub ?yM ?yhi ?yhh ?yhE ?yturn ?ydone
    (case yF => k_asm)
    (case yN => k_asm)
    (case yB => k_asm)
    (case yX => k_asm)
    (case yP => k_asm)
    (case yD => assumption)
    (case yhl => k_mem)
    (case pp0 => k_mem)
    (case pp1 => k_mem)
    (case pp2 => k_mem)
    (case pp3 => k_mem)
    (case pp4 => k_mem)
    (case pp5 => k_mem)
    (case pp6 => k_mem)
    (case pp7 => k_mem)
    (case yM => assumption)
    (case yhi => assumption)
    (case ysub => exact sub_cons (by k_mem) (sub_cons (by k_mem) (sub_cons (by k_mem) (sub_cons (by k_mem) (sub_cons (by k_mem) (sub_cons (by k_mem) (sub_cons (by k_mem) (sub_cons (by k_mem) (sub_cons (by k_mem) (sub_cons (by k_mem) sub_nil))))))))))
    (case yhh => rfl)
    (case yhE => passes_own)
    case yturn =>
      clear hret
      (with_reducible ((repeat (rename News g₂ _ _ _ => hz; clear hz)); (repeat (rename Fr g₂ _ _ _ => hz; clear hz))))
      (with_reducible ((repeat (rename (@LT.lt Nat _ _ _ ∧ _) => hz; clear hz)); (repeat (rename (IntsAre _ _) => hz; clear hz)); (repeat (rename (List.length _ = _) => hz; clear hz)); (repeat (rename (List.length _ ≤ _) => hz; clear hz)); (repeat (rename (∀ q ∈ _, @LT.lt Nat _ _ _) => hz; clear hz))))
      intro R pl oc t t' u u' g₃ h₃ tk₃ I oI Pr hi₃ hl₃ T₃ F₃ N₃ B₃ X₃ P₃ D₃
      obtain ⟨p₀, p₁, hbad, hin, hlen⟩ := Pr
      clear T₂ B₂ X₂ P₂ D₂
      k_steps
      refine' turnT_end ?yyF ?yyJ ?yyN ?yyT ?yyB ?yyX ?yyP ?yyD
      case yyF => k_asm
      case yyJ => exact ⟨_, _, over_twice2 _ _ _ _ _ _ _⟩
      case yyN =>
        rename News _ _ _ _ => NN8
        repeat (first | exact NN8 | (replace NN8 := news_tail NN8))
      case yyT => assumption
      case yyB => assumption
      case yyX => assumption
      case yyP => assumption
      case yyD => assumption
    case ydone =>
      clear B₂ X₂ P₂ D₂ T₂
      (with_reducible ((repeat (rename News g₂ _ _ _ => hz; clear hz)); (repeat (rename Fr g₂ _ _ _ => hz; clear hz))))
      (with_reducible ((repeat (rename (@LT.lt Nat _ _ _ ∧ _) => hz; clear hz)); (repeat (rename (IntsAre _ _) => hz; clear hz)); (repeat (rename (List.length _ = _) => hz; clear hz)); (repeat (rename (List.length _ ≤ _) => hz; clear hz)); (repeat (rename (∀ q ∈ _, @LT.lt Nat _ _ _) => hz; clear hz))))
      intro u₃ u₄ g₃ h₃ tk₃ hi₃ hl₃ T₃ F₃ N₃ B₃ X₃ P₃ D₃
      k_steps
      · (with_reducible rename KtsTurn _ h₀ _ => kT9)
        (with_reducible rename Fr _ L _ m => kF9)
        (with_reducible rename News _ L _ _ => kN8)
        have q1 := fun a' b' ta' tb' n' tk' => hret _ a' b' ta' tb' n' _ tk' kT9 kF9
        have kN9 := news_sub (l' := [(x, srcO _ _ _ _ _), (i1, o1), (i2, o2)]) kN8 (sub_cons (by k_mem) (sub_cons (by k_mem) (sub_cons (by k_mem) sub_nil)))
        have q2 := fun tk' => q1 _ _ _ _ _ tk' kN9 (by with_reducible assumption) (by with_reducible assumption) (by with_reducible assumption) (by with_reducible assumption)
        have q3 := fun tk' => q2 tk' (by with_reducible assumption) (by with_reducible assumption)
        clear q1 q2 hret
        exact q3 _
      · (with_reducible rename KtsTurn _ h₀ _ => kT9)
        (with_reducible rename Fr _ L _ m => kF9)
        (with_reducible rename News _ L _ _ => kN8)
        have q1 := fun a' b' ta' tb' n' tk' => hret _ a' b' ta' tb' n' _ tk' kT9 kF9
        have kN9 := news_sub (l' := [(x, srcO _ _ _ _ _), (i1, o1), (i2, o2)]) kN8 (sub_cons (by k_mem) (sub_cons (by k_mem) (sub_cons (by k_mem) sub_nil)))
        have q2 := fun tk' => q1 _ _ _ _ _ tk' kN9 (by with_reducible assumption) (by with_reducible assumption) (by with_reducible assumption) (by with_reducible assumption)
        have q3 := fun tk' => q2 tk' (by with_reducible assumption) (by with_reducible assumption)
        clear q1 q2 hret
        exact q3 _
end Pc
end

section
open PySem PySem.W PySem.Spec PySem.Calls PyProof.Rows
namespace Pc

set_option maxRecDepth 100000 in
set_option maxHeartbeats 4000000 in
theorem pool_spec {w : World} {p : Program} {loose : List Str} {mean : ExcName → Option Value} {mg mb : Str → Option Value}
    {l : Addr} {vs : List Value} {ns : List Int} {k : Int} {tk : Tok} {news : Led} (hi : IntsAre vs ns) (hn : ns.length ≤ 63) (h0 : 0 ≤ k) (h1 : k < 2)
    (dp un : Nat) (gd : Option (List Code)) (cn : Str) (cs : Scope) (ad : Addr) (ccd : Value) (cl : List (Str × Addr)) (outer : List Env) (A₀ : Around) (base h₀ : Heap) (L : Addr) (m : Str → Option Value) (s : Shared) (Q E : Value → Shared → Prop)
    (B : Below A₀ base outer h₀) (F : Fr h₀ L s.heap m) (X : (heapK w.params).In h₀) (T : Top p loose mean mg mb h₀) (hk : cs.kind = .function) (N : News h₀ L s.heap news) (hl : h₀.IsList l vs.toArray)
    (hd : dp + 2 < recursionLimit) (hu : un + 16 < cLine)
    (hret : ∀ (x : Addr) (a b : Int) (ta tb : Tok) (n : Nat) (h' : Heap) (tk' : Nat), News h₀ L h' ((x, srcO a b ta tb n) :: news) → Fr h₀ L h' m → (∀ q ∈ news, q.1 < x) → 0 ≤ b → b < 2147483647 → Q (.ref x) { s with heap := h', toks := tk' }) :
    wpAny (model PySem.Challenge.rw_pc0360_01.row.prog w) (ktrTop dp un gd cn cs L ad ccd cl outer) (PySem.call (.ref 176) [.ref l, .int k tk]) Q E s := by
  k_with_none
  revert X; k_fill; w_top off; intro X
  refine wpAny_call ?_
  k_dflt ktr_enter
  rename Fr h₀ L _ m => FG8
  have hl8 := Fr.lst FG8 hl
  k_steps
  all_goals (
    rename News h₀ L _ _ => kN
    refine hret _ _ _ _ _ _ _ _ kN (by assumption) ?_ ?_ ?_
    · assumption
    · (first | omega | exact Int.fmod_nonneg_of_pos _ (by decide) | exact Int.emod_nonneg _ (by decide))
    · (first | omega | exact Int.fmod_lt_of_pos _ (by decide) | exact Int.emod_lt_of_pos _ (by decide)))
end Pc
end

section
open PySem PySem.W PySem.Spec PySem.Calls PyProof.Rows
namespace Pc
theorem turn_nil {g g' : Heap} (T : KtsTurn [] g g') (b : Addr) : g'.get? b = g.get? b := by
  cases e : g.get? b with
  | none => exact T.none_ b e
  | some o => exact T.other b o e (fun h => nomatch h)
theorem fr_turn {g g' h : Heap} {L : Addr} {m : Str → Option Value} (T : KtsTurn [] g g') (F : Fr g' L h m) : Fr g L h m :=
  ⟨F.ns, fun b o e => F.keep b o ((turn_nil T b).trans e), T.size ▸ F.above⟩
theorem news_turn {g g' h : Heap} {L : Addr} {l : Led} (T : KtsTurn [] g g') (N : News g' L h l) : News g L h l := fun p hp => ⟨(N p hp).1, (N p hp).2.1, (turn_nil T _).symm.trans (N p hp).2.2⟩

theorem msg_top {w : World} {p : Program} {loose : List Str} {mean : ExcName → Option Value} {mg mb : Str → Option Value}
    {x i1 i2 : Addr} {o1 o2 : Obj} {a b : Int} {ta tb : Tok} {n : Nat} (hx1 : @Ne Nat x i1) (hx2 : @Ne Nat x i2) (hb : 0 ≤ b) (hb' : b < 2147483647)
    (dp un : Nat) (gd : Option (List Code)) (cn : Str) (cs : Scope) (ad : Addr) (ccd : Value) (A₀ : Around) (h₀ : Heap) (L : Addr) (m : Str → Option Value) (s : Shared) (Q E : Value → Shared → Prop)
    (B : Below A₀ h₀ [] h₀) (F : Fr h₀ L s.heap m) (X : (heapK w.params).In h₀) (T : Top p loose mean mg mb h₀) (hk : cs.kind = .function)
    (N : News h₀ L s.heap [(i1, o1), (x, srcO a b ta tb n), (i2, o2)])
    (hd : dp + 20 < recursionLimit) (hu : un + 300 < cLine)
    (hret : ∀ a' b' ta' tb' n' h' tk', Fr h₀ L h' m → News h₀ L h' [(i1, o1), (x, srcO a' b' ta' tb' n'), (i2, o2)] → 0 ≤ b' → b' < 2147483647 → Q (.bool true) { s with heap := h', toks := tk' }) :
    wpAny (model PySem.Challenge.rw_pc0360_01.row.prog w) (ktrTop dp un gd cn cs L ad ccd [] []) (PySem.call (.ref 223) [.ref x]) Q E s :=
  msg_spec hx1 hx2 hb hb' dp un gd cn cs ad ccd [] A₀ h₀ h₀ L m s Q E B F X T hk X T ktsDicts_nil (news_sub N (sub_cons (.tail _ (.head _)) (sub_cons (.head _) (sub_cons (.tail _ (.tail _ (.head _))) sub_nil)))) hd hu
    fun h₀' a' b' ta' tb' n' h' tk' T' F' N' _ _ _ _ p0 p1 => hret a' b' ta' tb' n' h' tk' (fr_turn T' F') (news_sub (news_turn T' N') (sub_cons (.tail _ (.head _)) (sub_cons (.head _) (sub_cons (.tail _ (.tail _ (.head _))) sub_nil)))) p0 p1
theorem pool_ne {I x : Addr} {it : Obj} (h : ∀ q ∈ [(I, it)], q.1 < x) : @Ne Nat x I := Nat.ne_of_gt (h _ (.head _))
theorem last_rng : Rng 1 2 772 3 4 61 1 2 772 3 4 61 5 := by constructor <;> decide
theorem last_msg : MsgIs (msg 1 2 772 3 4 61 1 2 772 3 4 61 5) 1 2 772 3 4 61 1 2 772 3 4 61 5 := ⟨rfl, last_rng⟩
theorem last_dec : Dec (msg 1 2 772 3 4 61 1 2 772 3 4 61 5) 1 2 772 3 4 61 1 2 772 3 4 61 5 := msg_dec last_rng
section
variable {prog : Program} {w : World} {A : Around} {E : Value → Shared → Prop} {s : Shared} {env : Env} {h₀ : Heap} {x : Str} {body : List Stmt} {Q : Flow → Shared → Prop}
theorem unrPost_mono {L I : Addr} {it : Obj} {s₁ : Shared} {R R' : (Str → Option Value) → Led → Prop} (hR : ∀ m l, (∀ p ∈ l, p.1 ≠ I) → R m l → R' m l) {f : Flow} {s₂ : Shared} (h : UnrPost h₀ L s₁ I it R Q f s₂) : UnrPost h₀ L s₁ I it R' Q f s₂ := by
  cases f with
  | ret v => exact h
  | brk => exact h
  | next => obtain ⟨h', tk, m', l, e, F, N, o, r⟩ := h; exact ⟨h', tk, m', l, e, F, N, o, hR _ _ o r⟩
  | cont => obtain ⟨h', tk, m', l, e, F, N, o, r⟩ := h; exact ⟨h', tk, m', l, e, F, N, o, hR _ _ o r⟩
/-- a loop over a range by what holds between its turns -/
theorem loop_R {r : Addr} {b₀ : Int} {t₀ u₀ v₀ : Tok} {m₀ : Str → Option Value} {news : Led} (kk : Int) (J : (Str → Option Value) → Led → Prop) (hk : kk ≤ 100) (hb0 : 0 ≤ b₀) (hb : b₀ ≤ kk)
    (hh : A.handled = none) (hr : IsRange s.heap r 0 b₀ 1 t₀ u₀ v₀) (F : Fr h₀ env.locals s.heap m₀) (N : News h₀ env.locals s.heap news)
    (hJ : J m₀ news)
    (turn : ∀ v m led t h tk I it, 0 ≤ v → v < kk → J m led → (∀ p ∈ led, p.1 ≠ I) → Fr h₀ env.locals h (fun y => if y = x then some (.int v t) else m y) → News h₀ env.locals h ((I, it) :: led) →
      wpAny (model prog w) A (execs body env) (UnrPost h₀ env.locals { s with heap := h, toks := tk } I it J Q) E { s with heap := h, toks := tk })
    (done : ∀ m led h tk, J m led → Fr h₀ env.locals h m → News h₀ env.locals h led → Q .next { s with heap := h, toks := tk }) :
    wpAny (model prog w) A (pyIter (.ref r)) (fun it s₂ => LoopAtV prog w A h₀ env x body Q E it s₂) E s := by
  have hn : Builtin.Range.rangeSize 0 b₀ 1 = (b₀.toNat : Int) := (rangeSize_nat 0 b₀).trans (by rw [Int.sub_zero])
  have key : ∀ (I : Addr) k i m led, i + k = b₀.toNat → J m led → (∀ p ∈ led, p.1 ≠ I) → RangeRest prog w A E h₀ env x body Q s I 0 b₀.toNat k i m led := by
    intro I k
    induction k with
    | zero =>
      intro i m led e hj _
      exact RangeRest.zero fun h tk F' N' => done m led h tk hj F' N'
    | succ k ih =>
      intro i m led e hj ho
      refine RangeRest.succ fun t h tk F' N' => ?_
      rw [Int.zero_add] at F'
      exact wpAny_mono (turn i m led t h tk I _ (by omega) (by omega) hj ho F' N') (fun f s₂ p => unrPost_mono (fun m' l' o' j' => ih (i + 1) m' l' (by omega) j' o') p) fun _ _ e => e
  exact iter_rangeUnr hh hr (small_one (by decide) (by decide) (by omega) (by omega)) hn F N fun I hI => key I b₀.toNat 0 m₀ news (Nat.zero_add _) hJ fun p hp => Nat.ne_of_lt (hI p hp)
theorem unr_end {L I : Addr} {it : Obj} {s₁ : Shared} {J : (Str → Option Value) → Led → Prop} {h' : Heap} {tk : Nat} {m' : Str → Option Value} {all : Led} (led : Led) (F : Fr h₀ L h' m') (N : News h₀ L h' all) (sub : ∀ q ∈ (I, it) :: led, q ∈ all) (off : ∀ p ∈ led, p.1 ≠ I) (hJ : J m' led) :
    UnrPost h₀ L s₁ I it J Q .next { s₁ with heap := h', toks := tk } := ⟨h', tk, m', led, rfl, F, fun q hq => N q (sub q hq), off, hJ⟩
end
def Same3 (x1 x2 x3 : Str) (m m₀ : Str → Option Value) : Prop := ∀ y, y ≠ x1 → y ≠ x2 → y ≠ x3 → m y = m₀ y
theorem Same3.shape {x1 x2 x3 : Str} {m m₀ : Str → Option Value} (h : Same3 x1 x2 x3 m m₀) : m = fun y => if y = x1 then m x1 else if y = x2 then m x2 else if y = x3 then m x3 else m₀ y := by
  funext y
  by_cases h1 : y = x1
  · rw [if_pos h1, h1]
  · by_cases h2 : y = x2
    · rw [if_neg h1, if_pos h2, h2]
    · by_cases h3 : y = x3
      · rw [if_neg h1, if_neg h2, if_pos h3, h3]
      · rw [if_neg h1, if_neg h2, if_neg h3, h y h1 h2 h3]
theorem cells_lo (n : Nat) : (0 : Int) ≤ (if (if (2 : Int) < n then 2 else (n : Int)) > 1 then if (2 : Int) < n then 2 else (n : Int) else 1) := by
  split <;> split <;> omega
theorem cells_hi (n : Nat) : (if (if (2 : Int) < n then 2 else (n : Int)) > 1 then if (2 : Int) < n then 2 else (n : Int) else 1) ≤ 2 := by
  split
  · split <;> omega
  · omega
section
variable {prog : Program} {w : World} {A : Around} {E : Value → Shared → Prop} {s : Shared} {env : Env} {h₀ : Heap} {x : Str} {body : List Stmt} {Q : Flow → Shared → Prop}
/-- the loop over the cells -/
theorem loop_cells {L r : Addr} {b₀ : Int} {t₀ u₀ v₀ : Tok} {m₀ : Str → Option Value} {news : Led} (x2 x3 : Str) (eL : env.locals = L) (hb0 : 0 ≤ b₀) (hb : b₀ ≤ 2)
    (hh : A.handled = none) (hr : IsRange s.heap r 0 b₀ 1 t₀ u₀ v₀) (F : Fr h₀ L s.heap m₀) (N : News h₀ L s.heap news)
    (turn : ∀ v u1 u2 t h tk I it, 0 ≤ v → v < 2 → Fr h₀ L h (fun y => if y = x then some (.int v t) else if y = x2 then u1 else if y = x3 then u2 else m₀ y) → News h₀ L h [(I, it)] →
      wpAny (model prog w) A (execs body env) (UnrPost h₀ L { s with heap := h, toks := tk } I it (fun m led => led = [] ∧ Same3 x x2 x3 m m₀) Q) E { s with heap := h, toks := tk })
    (done : ∀ u u1 u2 h tk, Fr h₀ L h (fun y => if y = x then u else if y = x2 then u1 else if y = x3 then u2 else m₀ y) → News h₀ L h [] → Q .next { s with heap := h, toks := tk }) :
    wpAny (model prog w) A (pyIter (.ref r)) (fun it s₂ => LoopAtV prog w A h₀ env x body Q E it s₂) E s := by
  subst eL
  refine loop_R 2 (fun m led => led = [] ∧ Same3 x x2 x3 m m₀) (by decide) hb0 hb hh hr F (news := []) News.nil ⟨rfl, fun _ _ _ _ => rfl⟩ ?_ ?_
  · rintro v m led t h tk I it h0 h1 ⟨rfl, S⟩ _ F' N'
    refine turn v (m x2) (m x3) t h tk I it h0 h1 ?_ N'
    rw [S.shape, over_twice] at F'
    exact F'
  · rintro m led h tk ⟨rfl, S⟩ F' N'
    refine done (m x) (m x2) (m x3) h tk ?_ N'
    rw [S.shape] at F'
    exact F'
/-- the loop over the three turns -/
theorem loop_turns {L r i1 X : Addr} {o1 : Obj} {a b : Int} {ta tb : Tok} {n : Nat} {t₀ u₀ v₀ : Tok} {m₀ : Str → Option Value} {news : Led} (eL : env.locals = L)
    (hh : A.handled = none) (hr : IsRange s.heap r 0 3 1 t₀ u₀ v₀) (F : Fr h₀ L s.heap m₀) (N : News h₀ L s.heap news) (m0 : (X, srcO a b ta tb n) ∈ news) (m1 : (i1, o1) ∈ news) (hb : 0 ≤ b) (hb' : b < 2147483647)
    (turn : ∀ v a b ta tb n t h tk I it, 0 ≤ b → b < 2147483647 → @Ne Nat X I → @Ne Nat i1 I → Fr h₀ L h (fun y => if y = x then some (.int v t) else m₀ y) → News h₀ L h [(I, it), (X, srcO a b ta tb n), (i1, o1)] →
      wpAny (model prog w) A (execs body env) (UnrPost h₀ L { s with heap := h, toks := tk } I it (fun m led => (∃ u, m = fun y => if y = x then u else m₀ y) ∧ ∃ a b ta tb n, led = [(X, srcO a b ta tb n), (i1, o1)] ∧ 0 ≤ b ∧ b < 2147483647) Q) E { s with heap := h, toks := tk })
    (done : ∀ u h tk, Fr h₀ L h (fun y => if y = x then u else m₀ y) → News h₀ L h [(i1, o1)] → Q .next { s with heap := h, toks := tk }) :
    wpAny (model prog w) A (pyIter (.ref r)) (fun it s₂ => LoopAtV prog w A h₀ env x body Q E it s₂) E s := by
  subst eL
  refine loop_R 3 (fun m led => (∃ u, m = fun y => if y = x then u else m₀ y) ∧ ∃ a b ta tb n, led = [(X, srcO a b ta tb n), (i1, o1)] ∧ 0 ≤ b ∧ b < 2147483647) (by decide) (by decide) (by decide) hh hr F (news := [(X, srcO a b ta tb n), (i1, o1)]) ?_ ⟨⟨_, over_self _ _⟩, _, _, _, _, _, rfl, hb, hb'⟩ ?_ ?_
  · intro q hq
    rcases List.mem_cons.mp hq with rfl | hq
    · exact N _ m0
    · rw [List.mem_singleton.mp hq]; exact N _ m1
  · rintro v m led t h tk I it h0 h1 ⟨⟨u, rfl⟩, a, b, ta, tb, n, rfl, p0, p1⟩ off F' N'
    rw [over_twice] at F'
    exact turn v a b ta tb n t h tk I it p0 p1 (off _ (.head _)) (off _ (.tail _ (.head _))) F' N'
  · rintro m led h tk ⟨⟨u, rfl⟩, a, b, ta, tb, n, rfl, p0, p1⟩ F' N'
    exact done u h tk F' fun q hq => N' q (.tail _ hq)
end

set_option maxRecDepth 100000 in
set_option maxHeartbeats 8000000 in
theorem holds : PySem.Challenge.rw_pc0360_01.Holds := by
  k_with_none
  k_with "call ref" => (k_here; (with_reducible show wpAny _ _ (PySem.call (Value.ref 162) [.ref _]) _ _ _); k_dflt (refine' pack_msg ?_ ?_ ?_ ?_ ?_ ?_ ?_ ?_ ?_ _ _ _ _ _ _ _ _ _ _ _ _ _ _ _ _ _ ?_ ?_ ?_ ?_ ?_ ?_  ?_ ?_ ?_; rotate_right 9; (focus ((k_asm); done)); (focus ((k_asm); done)); (focus ((k_asm); done)); (focus ((k_asm); done)); (focus ((first | rfl | assumption); done)); (focus ((k_asm); done)); (focus ((ktr_room); done)); (focus ((ktr_units); done)); (all_goals skip); rotate_right 9; (focus ((assumption); done)); (focus ((k_mem); done)); (focus ((k_mem); done)); (focus ((k_mem); done)); (focus ((k_mem); done)); (focus ((k_mem); done)); (focus ((k_mem); done)); (focus ((k_mem); done)); (focus ((k_mem); done)); k_whole; intro b9 t9 h9 tk9 N9 F9 hb9; (try k_sweep); (try dsimp only); (try k_fold)))
  k_with "call ref" => (k_here; (with_reducible show wpAny _ _ (PySem.call (Value.ref 169) [_]) _ _ _); k_dflt (refine' unpack_ok ?_ ?_ ?_ _ _ _ _ _ _ _ _ _ _ _ _ _ _ _ _ _ ?_ ?_ ?_ ?_ ?_ ?_  ?_ ?_ ?_; rotate_right 9; (focus ((k_asm); done)); (focus ((k_asm); done)); (focus ((k_asm); done)); (focus ((k_asm); done)); (focus ((first | rfl | assumption); done)); (focus ((k_asm); done)); (focus ((ktr_room); done)); (focus ((ktr_units); done)); (all_goals skip); rotate_right 1; (focus ((assumption); done)); rotate_right 2; (focus ((first | assumption | exact KBa.ints_make (by assumption)); done)); (focus ((first | assumption | omega); done)); k_whole; intro r9 d9 ti9 sy9 po9 ti9' sy9' po9' ka9 kb9 kc9 t09 t19 t29 t39 t49 t59 t09' t19' t29' t39' t49' t59' td9 h9 tk9 N9 F9; (try k_sweep); (try dsimp only); (try k_fold)))
  k_with "call ref" => (k_here; (with_reducible show wpAny _ _ (PySem.call (Value.ref 176) [.ref _, .int _ _]) _ _ _); k_dflt (refine' pool_spec ?_ ?_ ?_ ?_ _ _ _ _ _ _ _ _ _ _ _ _ _ _ _ _ _ ?_ ?_ ?_ ?_ ?_ ?_ ?_ ?_ ?_ ?_; rotate_right 10; (focus ((k_asm); done)); (focus ((k_asm); done)); (focus ((k_asm); done)); (focus ((k_asm); done)); (focus ((first | rfl | assumption); done)); (focus ((k_asm); done)); (focus ((assumption); done)); (focus ((ktr_room); done)); (focus ((ktr_units); done)); (all_goals skip); rotate_right 4; (focus ((assumption); done)); (focus ((omega); done)); (focus ((omega); done)); (focus ((omega); done)); k_whole; intro x9 a9 b9 ta9 tb9 n9 h9 tk9 N9 F9 l9 b90 b91; (have e9 := pool_ne l9); (try k_sweep); (try dsimp only); (try k_fold)))
  k_with "call ref" => (k_here; (with_reducible show wpAny _ _ (PySem.call (Value.ref 223) [_]) _ _ _); k_dflt (refine' msg_top ?_ ?_ ?_ ?_ _ _ _ _ _ _ _ _ _ _ _ _ _ _ ?_ ?_ ?_ ?_ ?_ ?_ ?_ ?_ ?_; rotate_right 9; (focus ((k_asm); done)); (focus ((k_asm); done)); (focus ((k_asm); done)); (focus ((k_asm); done)); (focus ((first | rfl | assumption); done)); (focus ((k_asm); done)); (focus ((ktr_room); done)); (focus ((ktr_units); done)); (all_goals skip); rotate_right 4; (focus ((assumption); done)); (focus ((assumption); done)); (focus ((assumption); done)); (focus ((assumption); done)); k_whole; intro a9 b9 ta9 tb9 n9 h9 tk9 F9 N9 b90 b91; (try k_sweep); (try dsimp only); (try k_fold)))
  k_with "pyIter ref" => (refine Stop.go ?_)
  k_with "UnrPost" => (refine Stop.go ?_)
  have hM8 := last_msg
  have hD8 := last_dec
  have hL8 : (msg 1 2 772 3 4 61 1 2 772 3 4 61 5).length ≤ 1000 := by rw [msg_len]; decide
  generalize msg 1 2 772 3 4 61 1 2 772 3 4 61 5 = ks8 at hM8 hD8 hL8
  w_on
  o_law
  refine holds_open (q := view) (loose := [Str.ofString "WHOLE_SIZE"]) (Xt := fun s => xlAt view seen8 s && recOk (RowW.records (OpenRow.toRowW (OpenLaw.row PySem.Challenge.rw_pc0360_01))) s) (XP := XL view seen8) (Yf := Hook.obs hook8) (Ya := Hook.val hook8) (YP := Hook.says hook8) (N := 3554) ?hl (Hook.of hook8) (Hook.keeps hook8) (fun s e => xl_of s (Bool.and_eq_true_iff.mp e).1) XL.keeps (by rfl) (by rfl) (by rfl) (fun s e => recFacts_of (Bool.and_eq_true_iff.mp e).2) (by rfl) (by decide +kernel) (by decide +kernel) ⟨rfl, rfl, rfl, rfl, rfl, by decide +kernel⟩ ?hw ?hc
  case hl => exact left8
  case hw => w_witness2
  case hc =>
    delta hook8 seen8
    k_go0
    all_goals (try k_fold)
    k_steps
    refine Stop.mk ?_
    rename IsRange _ _ _ _ _ _ _ _ => hR
    refine' loop_cells (Str.ofString "source") (Str.ofString "turn") rfl (cells_lo _) (cells_hi _) rfl hR ?zF ?zN ?zT ?zD
    case zF => k_asm
    case zN => k_asm
    case zT =>
      intro v u1 u2 t h tk I it v0 v1 F1 N1
      (try dsimp only at F1)
      k_steps
      refine Stop.mk ?_
      rename IsRange _ _ _ _ _ _ _ _ => hR
      refine' loop_turns rfl rfl hR ?yF ?yN ?ym0 ?ym1 ?yb ?yb' ?yT ?yD
      case yF => k_asm
      case yN => k_asm
      case ym0 => k_mem
      case ym1 => exact List.Mem.tail _ (List.Mem.head _)
      case yb => assumption
      case yb' => assumption
      case yT =>
        intro v2 a2 b2 ta2 tb2 n2 t2 h2 tk2 I2 it2 p0 p1 e1 e2 F2 N2
        (try dsimp only at F2)
        k_steps
        refine Stop.mk ?_
        refine unr_end _ (by k_asm) (by k_asm) (fun q hq => hq) ?off ⟨⟨_, rfl⟩, _, _, _, _, _, rfl, by assumption, by assumption⟩
        intro q hq
        rcases List.mem_cons.mp hq with rfl | hq
        · exact e1
        · rw [List.mem_singleton.mp hq]; exact e2
      case yD =>
        intro u3 h2 tk2 F2 N2
        (try dsimp only at F2)
        k_steps
        refine Stop.mk ?_
        refine unr_end [] (by k_asm) (by k_asm) (fun q hq => hq) (fun _ h => nomatch h) ⟨rfl, ?_⟩
        intro y q1 q2 q3
        (try dsimp only)
        rw [if_neg q3, if_neg q2, if_neg q1, if_neg q2, if_neg q3]
    case zD =>
      intro u u1 u2 h tk F1 N1
      (try dsimp only at F1)
      k_steps
end Pc
end

end

theorem PySem.Challenge.cw_pc0360_01_holds : PySem.Challenge.rw_pc0360_01.Holds :=
  Pc.holds
