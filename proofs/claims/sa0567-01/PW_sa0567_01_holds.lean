import PyProof.Rows.All
import Wide.All
import OpenK.AllK
import Wide.FinOn
import PySem.Challenge.RW_sa0567_01
open PySem PySem.W PyProof.Rows
set_option Elab.async false
set_option linter.all false
namespace Mine
set_option maxRecDepth 100000
set_option maxHeartbeats 8000000
noncomputable def pick {α : Type} : List Bool → List α → List α
  | true :: m, x :: l => x :: pick m l
  | false :: m, _ :: l => pick m l
  | _, _ => []
noncomputable def fnPart : List Stmt → Nat → Arguments × List Stmt × Scope
  | .FunctionDef _ a b _ _ _ c .. :: _, 0 => (a, b, c)
  | _ :: l, i + 1 => fnPart l i
  | _, _ => (⟨[], [], none, [], [], none, []⟩, [], { kind := .function, names := [], isGenerator := false, isCoroutine := false })
noncomputable def clsPart : List Stmt → Nat → List Stmt
  | .ClassDef _ _ _ b .. :: _, 0 => b
  | _ :: l, i + 1 => clsPart l i
  | _, _ => []
noncomputable abbrev hd.P0 : Program := PySem.Challenge.rw_sa0567_01.row.toRowW.prog
noncomputable def hd.body : List Stmt := PySem.Challenge.pw_sa0567_01.main.body
noncomputable def hd.view_39 : Program := { PySem.Challenge.pw_sa0567_01 with main := { PySem.Challenge.pw_sa0567_01.main with body := pick [true, false, true, true, true, true, false, true, true, true, false, true, true, false, true, false, true, true, true, true, true, true, true, true, false, true, true, true, true] hd.body } }
noncomputable def hd.heap_39 : Params → Frag := by
  refine' (fun (A21 : Arguments) (B21 : List Stmt) (C21 : Scope) (_ : fnPart hd.body 0 = (A21, B21, C21))
    (A35 : Arguments) (B35 : List Stmt) (C35 : Scope) (_ : fnPart (clsPart hd.body 5) 0 = (A35, B35, C35))
    (A48 : Arguments) (B48 : List Stmt) (C48 : Scope) (_ : fnPart hd.body 7 = (A48, B48, C48))
    (A55 : Arguments) (B55 : List Stmt) (C55 : Scope) (_ : fnPart hd.body 8 = (A55, B55, C55))
    (A60 : Arguments) (B60 : List Stmt) (C60 : Scope) (_ : fnPart hd.body 9 = (A60, B60, C60))
    (A74 : Arguments) (B74 : List Stmt) (C74 : Scope) (_ : fnPart (clsPart hd.body 12) 0 = (A74, B74, C74))
    (A81 : Arguments) (B81 : List Stmt) (C81 : Scope) (_ : fnPart (clsPart hd.body 12) 1 = (A81, B81, C81))
    (A88 : Arguments) (B88 : List Stmt) (C88 : Scope) (_ : fnPart (clsPart hd.body 12) 2 = (A88, B88, C88))
    (A102 : Arguments) (B102 : List Stmt) (C102 : Scope) (_ : fnPart hd.body 14 = (A102, B102, C102))
    (A116 : Arguments) (B116 : List Stmt) (C116 : Scope) (_ : fnPart (clsPart hd.body 23) 0 = (A116, B116, C116))
    (A123 : Arguments) (B123 : List Stmt) (C123 : Scope) (_ : fnPart (clsPart hd.body 23) 1 = (A123, B123, C123))
    (A130 : Arguments) (B130 : List Stmt) (C130 : Scope) (_ : fnPart (clsPart hd.body 23) 2 = (A130, B130, C130))
    (A137 : Arguments) (B137 : List Stmt) (C137 : Scope) (_ : fnPart (clsPart hd.body 23) 3 = (A137, B137, C137))
    (A144 : Arguments) (B144 : List Stmt) (C144 : Scope) (_ : fnPart (clsPart hd.body 23) 4 = (A144, B144, C144))
    (A151 : Arguments) (B151 : List Stmt) (C151 : Scope) (_ : fnPart (clsPart hd.body 23) 5 = (A151, B151, C151))
    (A158 : Arguments) (B158 : List Stmt) (C158 : Scope) (_ : fnPart (clsPart hd.body 23) 6 = (A158, B158, C158))
    (A165 : Arguments) (B165 : List Stmt) (C165 : Scope) (_ : fnPart (clsPart hd.body 23) 7 = (A165, B165, C165))
    (A172 : Arguments) (B172 : List Stmt) (C172 : Scope) (_ : fnPart (clsPart hd.body 23) 8 = (A172, B172, C172))
    (A179 : Arguments) (B179 : List Stmt) (C179 : Scope) (_ : fnPart (clsPart hd.body 23) 9 = (A179, B179, C179))
    (A186 : Arguments) (B186 : List Stmt) (C186 : Scope) (_ : fnPart (clsPart hd.body 23) 10 = (A186, B186, C186))
    (A200 : Arguments) (B200 : List Stmt) (C200 : Scope) (_ : fnPart hd.body 25 = (A200, B200, C200))
    (A207 : Arguments) (B207 : List Stmt) (C207 : Scope) (_ : fnPart hd.body 26 = (A207, B207, C207))
    (A214 : Arguments) (B214 : List Stmt) (C214 : Scope) (_ : fnPart hd.body 27 = (A214, B214, C214))
    (A219 : Arguments) (B219 : List Stmt) (C219 : Scope) (_ : fnPart hd.body 28 = (A219, B219, C219))
    (P : Params) => (
    (nat_lit 2, { cls := Value.none, data := Data.dict #[{ hash := PyData.keyHash P (Str.ofString "type.__subclasses__.Exception.0"), key := Value.str (Str.ofString "type.__subclasses__.Exception.0") 231, val := Value.int 38 0 }, { hash := PyData.keyHash P (Str.ofString "type.__subclasses__.Exception.n"), key := Value.str (Str.ofString "type.__subclasses__.Exception.n") 232, val := Value.int 1 0 }] 2 }) ::
    (nat_lit 3, { cls := Value.type "dict", data := Data.dict #[{ hash := PyData.keyHash P (Str.ofString "__name__"), key := Value.str (Str.ofString "__name__") 165, val := Value.str (Str.ofString "law_sa0567_01") 477 }, { hash := PyData.keyHash P (Str.ofString "__doc__"), key := Value.str (Str.ofString "__doc__") 166, val := Value.none }, { hash := PyData.keyHash P (Str.ofString "__package__"), key := Value.str (Str.ofString "__package__") 167, val := Value.none }, { hash := PyData.keyHash P (Str.ofString "__loader__"), key := Value.str (Str.ofString "__loader__") 168, val := Value.builtin "__main__.__loader__#opaque" }, { hash := PyData.keyHash P (Str.ofString "__spec__"), key := Value.str (Str.ofString "__spec__") 169, val := Value.none }, { hash := PyData.keyHash P (Str.ofString "__annotations__"), key := Value.str (Str.ofString "__annotations__") 170, val := Value.ref 6 }, { hash := PyData.keyHash P (Str.ofString "__builtins__"), key := Value.str (Str.ofString "__builtins__") 171, val := Value.ref 4 }, { hash := PyData.keyHash P (Str.ofString "__file__"), key := Value.str (Str.ofString "__file__") 173, val := Value.str (Str.ofString "/claim/cut.py") 172 }, { hash := PyData.keyHash P (Str.ofString "__cached__"), key := Value.str (Str.ofString "__cached__") 174, val := Value.none }, { hash := PyData.keyHash P (Str.ofString "_wall"), key := Value.str (Str.ofString "_wall") 193, val := Value.ref 21 }, { hash := PyData.keyHash P (Str.ofString "FLOW_CONTROL_ERROR"), key := Value.str (Str.ofString "FLOW_CONTROL_ERROR") 197, val := Value.int 3 196 }, { hash := PyData.keyHash P (Str.ofString "FINAL_SIZE_ERROR"), key := Value.str (Str.ofString "FINAL_SIZE_ERROR") 199, val := Value.int 6 198 }, { hash := PyData.keyHash P (Str.ofString "CRYPTO_BUFFER_EXCEEDED"), key := Value.str (Str.ofString "CRYPTO_BUFFER_EXCEEDED") 201, val := Value.int 13 200 }, { hash := PyData.keyHash P (Str.ofString "QuicError"), key := Value.str (Str.ofString "QuicError") 234, val := Value.ref 38 }, { hash := PyData.keyHash P (Str.ofString "add_piece"), key := Value.str (Str.ofString "add_piece") 254, val := Value.ref 48 }, { hash := PyData.keyHash P (Str.ofString "taken_from"), key := Value.str (Str.ofString "taken_from") 266, val := Value.ref 55 }, { hash := PyData.keyHash P (Str.ofString "covered"), key := Value.str (Str.ofString "covered") 272, val := Value.ref 60 }, { hash := PyData.keyHash P (Str.ofString "CRYPTO_FRAME"), key := Value.str (Str.ofString "CRYPTO_FRAME") 276, val := Value.int 6 275 }, { hash := PyData.keyHash P (Str.ofString "CryptoIn"), key := Value.str (Str.ofString "CryptoIn") 324, val := Value.ref 91 }, { hash := PyData.keyHash P (Str.ofString "has_span"), key := Value.str (Str.ofString "has_span") 337, val := Value.ref 102 }, { hash := PyData.keyHash P (Str.ofString "RECEIVING"), key := Value.str (Str.ofString "RECEIVING") 341, val := Value.str (Str.ofString "recv") 340 }, { hash := PyData.keyHash P (Str.ofString "SIZE_KNOWN"), key := Value.str (Str.ofString "SIZE_KNOWN") 343, val := Value.str (Str.ofString "size_known") 342 }, { hash := PyData.keyHash P (Str.ofString "DATA_RECEIVED"), key := Value.str (Str.ofString "DATA_RECEIVED") 345, val := Value.str (Str.ofString "data_recvd") 344 }, { hash := PyData.keyHash P (Str.ofString "DATA_READ"), key := Value.str (Str.ofString "DATA_READ") 347, val := Value.str (Str.ofString "data_read") 346 }, { hash := PyData.keyHash P (Str.ofString "RESET_RECEIVED"), key := Value.str (Str.ofString "RESET_RECEIVED") 349, val := Value.str (Str.ofString "reset_recvd") 348 }, { hash := PyData.keyHash P (Str.ofString "RESET_READ"), key := Value.str (Str.ofString "RESET_READ") 351, val := Value.str (Str.ofString "reset_read") 350 }, { hash := PyData.keyHash P (Str.ofString "FRAME_STREAM"), key := Value.str (Str.ofString "FRAME_STREAM") 353, val := Value.int 8 352 }, { hash := PyData.keyHash P (Str.ofString "RecvPart"), key := Value.str (Str.ofString "RecvPart") 476, val := Value.ref 189 }, { hash := PyData.keyHash P (Str.ofString "_law_take"), key := Value.str (Str.ofString "_law_take") 486, val := Value.ref 200 }, { hash := PyData.keyHash P (Str.ofString "_law_by_one"), key := Value.str (Str.ofString "_law_by_one") 496, val := Value.ref 207 }, { hash := PyData.keyHash P (Str.ofString "_law_by_other"), key := Value.str (Str.ofString "_law_by_other") 506, val := Value.ref 214 }, { hash := PyData.keyHash P (Str.ofString "law"), key := Value.str (Str.ofString "law") 512, val := Value.ref 219 }] 32 }) ::
    (nat_lit 15, { cls := Value.type "tuple", data := Data.seq #[] }) ::
    (nat_lit 17, { cls := Value.type "tuple", data := Data.seq #[Value.str (Str.ofString "k") 190] }) ::
    (nat_lit 18, { cls := Value.type "tuple", data := Data.seq #[] }) ::
    (nat_lit 20, { cls := Value.type "code", data := Data.fields #[Value.str (Str.ofString "_wall") 187, Value.str (Str.ofString "_wall") 188, Value.str (Str.ofString "/claim/cut.py") 189, Value.int 1 0, Value.int 1 0, Value.int 0 0, Value.int 0 0, Value.int 3 0, Value.ref 15, Value.bool true, Value.int 181 0, Value.ref 16, Value.none, Value.ref 17, Value.ref 18, Value.ref 19, Value.int 191 0, Value.int 1 0, Value.str (Str.ofString "/claim/cut.py") 192] }) ::
    (nat_lit 21, { cls := Value.type "function", data := Data.func { name := Str.ofString "_wall", qualname := Str.ofString "_wall", params := A21, body := FuncBody.stmts B21, scope := C21, globals := 3, closure := [], defaults := Value.none, kwdefaults := Value.none, pyModule := Value.str (Str.ofString "__main__") 164, code := Value.ref 20 } }) ::
    (nat_lit 22, { cls := Value.type "tuple", data := Data.seq #[Value.type "Exception"] }) ::
    (nat_lit 29, { cls := Value.type "tuple", data := Data.seq #[] }) ::
    (nat_lit 31, { cls := Value.type "tuple", data := Data.seq #[Value.str (Str.ofString "self") 217, Value.str (Str.ofString "code") 218, Value.str (Str.ofString "frame_type") 219, Value.str (Str.ofString "text") 220] }) ::
    (nat_lit 32, { cls := Value.type "tuple", data := Data.seq #[] }) ::
    (nat_lit 34, { cls := Value.type "code", data := Data.fields #[Value.str (Str.ofString "__init__") 214, Value.str (Str.ofString "QuicError.__init__") 215, Value.str (Str.ofString "/claim/cut.py") 216, Value.int 10 0, Value.int 4 0, Value.int 0 0, Value.int 0 0, Value.int 3 0, Value.ref 29, Value.bool true, Value.int 181 0, Value.ref 30, Value.none, Value.ref 31, Value.ref 32, Value.ref 33, Value.int 221 0, Value.int 10 0, Value.str (Str.ofString "/claim/cut.py") 222] }) ::
    (nat_lit 35, { cls := Value.type "function", data := Data.func { name := Str.ofString "__init__", qualname := Str.ofString "QuicError.__init__", params := A35, body := FuncBody.stmts B35, scope := C35, globals := 3, closure := [], defaults := Value.none, kwdefaults := Value.none, pyModule := Value.str (Str.ofString "quic.errors") 194, code := Value.ref 34 } }) ::
    (nat_lit 36, { cls := Value.type "tuple", data := Data.seq #[Value.str (Str.ofString "code") 224, Value.str (Str.ofString "frame_type") 225, Value.str (Str.ofString "text") 226] }) ::
    (nat_lit 37, { cls := Value.type "dict", data := Data.dict #[{ hash := PyData.keyHash P (Str.ofString "__module__"), key := Value.str (Str.ofString "__module__") 209, val := Value.str (Str.ofString "quic.errors") 194 }, { hash := PyData.keyHash P (Str.ofString "__firstlineno__"), key := Value.str (Str.ofString "__firstlineno__") 213, val := Value.int 8 212 }, { hash := PyData.keyHash P (Str.ofString "__init__"), key := Value.str (Str.ofString "__init__") 223, val := Value.ref 35 }, { hash := PyData.keyHash P (Str.ofString "__static_attributes__"), key := Value.str (Str.ofString "__static_attributes__") 227, val := Value.ref 36 }, { hash := PyData.keyHash P (Str.ofString "__weakref__"), key := Value.str (Str.ofString "__weakref__") 229, val := Value.ref 39 }, { hash := PyData.keyHash P (Str.ofString "__doc__"), key := Value.str (Str.ofString "__doc__") 230, val := Value.none }] 3 }) ::
    (nat_lit 38, { cls := Value.type "type", data := Data.cls { name := Str.ofString "QuicError", bases := [Value.type "Exception"], mro := [Value.ref 38, Value.type "Exception", Value.type "BaseException", Value.type "object"], ns := 37, qualname := Str.ofString "QuicError" }, slots := #[some (Value.ref 22), none, some (Value.str (Str.ofString "QuicError") 202), some (Value.str (Str.ofString "QuicError") 210), some (Value.builtin "Exception.__new__"), some (Value.bool true)] }) ::
    (nat_lit 39, { cls := Value.type "getset_descriptor", data := Data.fields #[Value.str (Str.ofString "__weakref__") 228, Value.ref 38, Value.builtin "ExceptionGroup.__weakref__", Value.none] }) ::
    (nat_lit 42, { cls := Value.type "tuple", data := Data.seq #[] }) ::
    (nat_lit 44, { cls := Value.type "tuple", data := Data.seq #[Value.str (Str.ofString "pieces") 240, Value.str (Str.ofString "offset") 241, Value.str (Str.ofString "data") 242, Value.str (Str.ofString "found") 243, Value.str (Str.ofString "begin") 244, Value.str (Str.ofString "joined") 245, Value.str (Str.ofString "start") 246, Value.str (Str.ofString "octets") 247, Value.str (Str.ofString "end") 248, Value.str (Str.ofString "last") 249, Value.str (Str.ofString "ahead") 250, Value.str (Str.ofString "behind") 251] }) ::
    (nat_lit 45, { cls := Value.type "tuple", data := Data.seq #[] }) ::
    (nat_lit 47, { cls := Value.type "code", data := Data.fields #[Value.str (Str.ofString "add_piece") 237, Value.str (Str.ofString "add_piece") 238, Value.str (Str.ofString "/claim/cut.py") 239, Value.int 16 0, Value.int 3 0, Value.int 0 0, Value.int 0 0, Value.int 3 0, Value.ref 42, Value.bool true, Value.int 181 0, Value.ref 43, Value.none, Value.ref 44, Value.ref 45, Value.ref 46, Value.int 252 0, Value.int 16 0, Value.str (Str.ofString "/claim/cut.py") 253] }) ::
    (nat_lit 48, { cls := Value.type "function", data := Data.func { name := Str.ofString "add_piece", qualname := Str.ofString "add_piece", params := A48, body := FuncBody.stmts B48, scope := C48, globals := 3, closure := [], defaults := Value.none, kwdefaults := Value.none, pyModule := Value.str (Str.ofString "quic.pieces") 235, code := Value.ref 47 } }) ::
    (nat_lit 49, { cls := Value.type "tuple", data := Data.seq #[] }) ::
    (nat_lit 51, { cls := Value.type "tuple", data := Data.seq #[Value.str (Str.ofString "pieces") 258, Value.str (Str.ofString "at") 259, Value.str (Str.ofString "found") 260, Value.str (Str.ofString "left") 261, Value.str (Str.ofString "start") 262, Value.str (Str.ofString "octets") 263] }) ::
    (nat_lit 52, { cls := Value.type "tuple", data := Data.seq #[] }) ::
    (nat_lit 54, { cls := Value.type "code", data := Data.fields #[Value.str (Str.ofString "taken_from") 255, Value.str (Str.ofString "taken_from") 256, Value.str (Str.ofString "/claim/cut.py") 257, Value.int 29 0, Value.int 2 0, Value.int 0 0, Value.int 0 0, Value.int 3 0, Value.ref 49, Value.bool true, Value.int 181 0, Value.ref 50, Value.none, Value.ref 51, Value.ref 52, Value.ref 53, Value.int 264 0, Value.int 29 0, Value.str (Str.ofString "/claim/cut.py") 265] }) ::
    (nat_lit 55, { cls := Value.type "function", data := Data.func { name := Str.ofString "taken_from", qualname := Str.ofString "taken_from", params := A55, body := FuncBody.stmts B55, scope := C55, globals := 3, closure := [], defaults := Value.none, kwdefaults := Value.none, pyModule := Value.str (Str.ofString "quic.pieces") 235, code := Value.ref 54 } }) ::
    (nat_lit 56, { cls := Value.type "tuple", data := Data.seq #[] }) ::
    (nat_lit 59, { cls := Value.type "code", data := Data.fields #[Value.str (Str.ofString "covered") 267, Value.str (Str.ofString "covered") 268, Value.str (Str.ofString "/claim/cut.py") 269, Value.int 37 0, Value.int 1 0, Value.int 0 0, Value.int 0 0, Value.int 3 0, Value.ref 56, Value.bool true, Value.int 181 0, Value.ref 57, Value.none, Value.none, Value.none, Value.ref 58, Value.int 270 0, Value.int 37 0, Value.str (Str.ofString "/claim/cut.py") 271] }) ::
    (nat_lit 60, { cls := Value.type "function", data := Data.func { name := Str.ofString "covered", qualname := Str.ofString "covered", params := A60, body := FuncBody.stmts B60, scope := C60, globals := 3, closure := [], defaults := Value.none, kwdefaults := Value.none, pyModule := Value.str (Str.ofString "quic.pieces") 235, code := Value.ref 59 } }) ::
    (nat_lit 68, { cls := Value.type "tuple", data := Data.seq #[] }) ::
    (nat_lit 70, { cls := Value.type "tuple", data := Data.seq #[Value.str (Str.ofString "self") 292, Value.str (Str.ofString "limit") 293] }) ::
    (nat_lit 71, { cls := Value.type "tuple", data := Data.seq #[] }) ::
    (nat_lit 73, { cls := Value.type "code", data := Data.fields #[Value.str (Str.ofString "__init__") 289, Value.str (Str.ofString "CryptoIn.__init__") 290, Value.str (Str.ofString "/claim/cut.py") 291, Value.int 43 0, Value.int 2 0, Value.int 0 0, Value.int 0 0, Value.int 3 0, Value.ref 68, Value.bool true, Value.int 181 0, Value.ref 69, Value.none, Value.ref 70, Value.ref 71, Value.ref 72, Value.int 294 0, Value.int 43 0, Value.str (Str.ofString "/claim/cut.py") 295] }) ::
    (nat_lit 74, { cls := Value.type "function", data := Data.func { name := Str.ofString "__init__", qualname := Str.ofString "CryptoIn.__init__", params := A74, body := FuncBody.stmts B74, scope := C74, globals := 3, closure := [], defaults := Value.none, kwdefaults := Value.none, pyModule := Value.str (Str.ofString "quic.cryptostream") 273, code := Value.ref 73 } }) ::
    (nat_lit 75, { cls := Value.type "tuple", data := Data.seq #[] }) ::
    (nat_lit 77, { cls := Value.type "tuple", data := Data.seq #[Value.str (Str.ofString "self") 300, Value.str (Str.ofString "offset") 301, Value.str (Str.ofString "data") 302, Value.str (Str.ofString "found") 303] }) ::
    (nat_lit 78, { cls := Value.type "tuple", data := Data.seq #[] }) ::
    (nat_lit 80, { cls := Value.type "code", data := Data.fields #[Value.str (Str.ofString "arrived") 297, Value.str (Str.ofString "CryptoIn.arrived") 298, Value.str (Str.ofString "/claim/cut.py") 299, Value.int 48 0, Value.int 3 0, Value.int 0 0, Value.int 0 0, Value.int 3 0, Value.ref 75, Value.bool true, Value.int 181 0, Value.ref 76, Value.none, Value.ref 77, Value.ref 78, Value.ref 79, Value.int 304 0, Value.int 48 0, Value.str (Str.ofString "/claim/cut.py") 305] }) ::
    (nat_lit 81, { cls := Value.type "function", data := Data.func { name := Str.ofString "arrived", qualname := Str.ofString "CryptoIn.arrived", params := A81, body := FuncBody.stmts B81, scope := C81, globals := 3, closure := [], defaults := Value.none, kwdefaults := Value.none, pyModule := Value.str (Str.ofString "quic.cryptostream") 273, code := Value.ref 80 } }) ::
    (nat_lit 82, { cls := Value.type "tuple", data := Data.seq #[] }) ::
    (nat_lit 84, { cls := Value.type "tuple", data := Data.seq #[Value.str (Str.ofString "self") 310] }) ::
    (nat_lit 85, { cls := Value.type "tuple", data := Data.seq #[] }) ::
    (nat_lit 87, { cls := Value.type "code", data := Data.fields #[Value.str (Str.ofString "has_waiting") 307, Value.str (Str.ofString "CryptoIn.has_waiting") 308, Value.str (Str.ofString "/claim/cut.py") 309, Value.int 60 0, Value.int 1 0, Value.int 0 0, Value.int 0 0, Value.int 3 0, Value.ref 82, Value.bool true, Value.int 181 0, Value.ref 83, Value.none, Value.ref 84, Value.ref 85, Value.ref 86, Value.int 311 0, Value.int 60 0, Value.str (Str.ofString "/claim/cut.py") 312] }) ::
    (nat_lit 88, { cls := Value.type "function", data := Data.func { name := Str.ofString "has_waiting", qualname := Str.ofString "CryptoIn.has_waiting", params := A88, body := FuncBody.stmts B88, scope := C88, globals := 3, closure := [], defaults := Value.none, kwdefaults := Value.none, pyModule := Value.str (Str.ofString "quic.cryptostream") 273, code := Value.ref 87 } }) ::
    (nat_lit 89, { cls := Value.type "tuple", data := Data.seq #[Value.str (Str.ofString "limit") 314, Value.str (Str.ofString "told") 315, Value.str (Str.ofString "waiting") 316] }) ::
    (nat_lit 90, { cls := Value.type "dict", data := Data.dict #[{ hash := PyData.keyHash P (Str.ofString "__module__"), key := Value.str (Str.ofString "__module__") 284, val := Value.str (Str.ofString "quic.cryptostream") 273 }, { hash := PyData.keyHash P (Str.ofString "__firstlineno__"), key := Value.str (Str.ofString "__firstlineno__") 288, val := Value.int 41 287 }, { hash := PyData.keyHash P (Str.ofString "__init__"), key := Value.str (Str.ofString "__init__") 296, val := Value.ref 74 }, { hash := PyData.keyHash P (Str.ofString "arrived"), key := Value.str (Str.ofString "arrived") 306, val := Value.ref 81 }, { hash := PyData.keyHash P (Str.ofString "has_waiting"), key := Value.str (Str.ofString "has_waiting") 313, val := Value.ref 88 }, { hash := PyData.keyHash P (Str.ofString "__static_attributes__"), key := Value.str (Str.ofString "__static_attributes__") 317, val := Value.ref 89 }, { hash := PyData.keyHash P (Str.ofString "__dict__"), key := Value.str (Str.ofString "__dict__") 319, val := Value.ref 92 }, { hash := PyData.keyHash P (Str.ofString "__weakref__"), key := Value.str (Str.ofString "__weakref__") 321, val := Value.ref 93 }, { hash := PyData.keyHash P (Str.ofString "__doc__"), key := Value.str (Str.ofString "__doc__") 322, val := Value.none }] 4 }) ::
    (nat_lit 91, { cls := Value.type "type", data := Data.cls { name := Str.ofString "CryptoIn", bases := [Value.type "object"], mro := [Value.ref 91, Value.type "object"], ns := 90, qualname := Str.ofString "CryptoIn" }, slots := #[none, none, some (Value.str (Str.ofString "CryptoIn") 277), some (Value.str (Str.ofString "CryptoIn") 285), some (Value.builtin "object.__new__"), some (Value.bool true)] }) ::
    (nat_lit 92, { cls := Value.type "getset_descriptor", data := Data.fields #[Value.str (Str.ofString "__dict__") 318, Value.ref 91, Value.builtin "function.__dict__", Value.builtin "function.__dict__#set"] }) ::
    (nat_lit 93, { cls := Value.type "getset_descriptor", data := Data.fields #[Value.str (Str.ofString "__weakref__") 320, Value.ref 91, Value.builtin "ExceptionGroup.__weakref__", Value.none] }) ::
    (nat_lit 96, { cls := Value.type "tuple", data := Data.seq #[] }) ::
    (nat_lit 98, { cls := Value.type "tuple", data := Data.seq #[Value.str (Str.ofString "spans") 330, Value.str (Str.ofString "low") 331, Value.str (Str.ofString "high") 332, Value.str (Str.ofString "one") 333, Value.str (Str.ofString "other") 334] }) ::
    (nat_lit 99, { cls := Value.type "tuple", data := Data.seq #[] }) ::
    (nat_lit 101, { cls := Value.type "code", data := Data.fields #[Value.str (Str.ofString "has_span") 327, Value.str (Str.ofString "has_span") 328, Value.str (Str.ofString "/claim/cut.py") 329, Value.int 63 0, Value.int 3 0, Value.int 0 0, Value.int 0 0, Value.int 3 0, Value.ref 96, Value.bool true, Value.int 181 0, Value.ref 97, Value.none, Value.ref 98, Value.ref 99, Value.ref 100, Value.int 335 0, Value.int 63 0, Value.str (Str.ofString "/claim/cut.py") 336] }) ::
    (nat_lit 102, { cls := Value.type "function", data := Data.func { name := Str.ofString "has_span", qualname := Str.ofString "has_span", params := A102, body := FuncBody.stmts B102, scope := C102, globals := 3, closure := [], defaults := Value.none, kwdefaults := Value.none, pyModule := Value.str (Str.ofString "quic.spans") 325, code := Value.ref 101 } }) ::
    (nat_lit 110, { cls := Value.type "tuple", data := Data.seq #[] }) ::
    (nat_lit 112, { cls := Value.type "tuple", data := Data.seq #[Value.str (Str.ofString "self") 369, Value.str (Str.ofString "limit") 370] }) ::
    (nat_lit 113, { cls := Value.type "tuple", data := Data.seq #[] }) ::
    (nat_lit 115, { cls := Value.type "code", data := Data.fields #[Value.str (Str.ofString "__init__") 366, Value.str (Str.ofString "RecvPart.__init__") 367, Value.str (Str.ofString "/claim/cut.py") 368, Value.int 80 0, Value.int 2 0, Value.int 0 0, Value.int 0 0, Value.int 3 0, Value.ref 110, Value.bool true, Value.int 181 0, Value.ref 111, Value.none, Value.ref 112, Value.ref 113, Value.ref 114, Value.int 371 0, Value.int 80 0, Value.str (Str.ofString "/claim/cut.py") 372] }) ::
    (nat_lit 116, { cls := Value.type "function", data := Data.func { name := Str.ofString "__init__", qualname := Str.ofString "RecvPart.__init__", params := A116, body := FuncBody.stmts B116, scope := C116, globals := 3, closure := [], defaults := Value.none, kwdefaults := Value.none, pyModule := Value.str (Str.ofString "quic.recvpart") 338, code := Value.ref 115 } }) ::
    (nat_lit 117, { cls := Value.type "tuple", data := Data.seq #[] }) ::
    (nat_lit 119, { cls := Value.type "tuple", data := Data.seq #[Value.str (Str.ofString "self") 377, Value.str (Str.ofString "end") 378, Value.str (Str.ofString "is_final") 379, Value.str (Str.ofString "frame_type") 380] }) ::
    (nat_lit 120, { cls := Value.type "tuple", data := Data.seq #[] }) ::
    (nat_lit 122, { cls := Value.type "code", data := Data.fields #[Value.str (Str.ofString "check_end") 374, Value.str (Str.ofString "RecvPart.check_end") 375, Value.str (Str.ofString "/claim/cut.py") 376, Value.int 90 0, Value.int 4 0, Value.int 0 0, Value.int 0 0, Value.int 3 0, Value.ref 117, Value.bool true, Value.int 181 0, Value.ref 118, Value.none, Value.ref 119, Value.ref 120, Value.ref 121, Value.int 381 0, Value.int 90 0, Value.str (Str.ofString "/claim/cut.py") 382] }) ::
    (nat_lit 123, { cls := Value.type "function", data := Data.func { name := Str.ofString "check_end", qualname := Str.ofString "RecvPart.check_end", params := A123, body := FuncBody.stmts B123, scope := C123, globals := 3, closure := [], defaults := Value.none, kwdefaults := Value.none, pyModule := Value.str (Str.ofString "quic.recvpart") 338, code := Value.ref 122 } }) ::
    (nat_lit 124, { cls := Value.type "tuple", data := Data.seq #[] }) ::
    (nat_lit 126, { cls := Value.type "tuple", data := Data.seq #[Value.str (Str.ofString "self") 387, Value.str (Str.ofString "end") 388, Value.str (Str.ofString "more") 389] }) ::
    (nat_lit 127, { cls := Value.type "tuple", data := Data.seq #[] }) ::
    (nat_lit 129, { cls := Value.type "code", data := Data.fields #[Value.str (Str.ofString "grown") 384, Value.str (Str.ofString "RecvPart.grown") 385, Value.str (Str.ofString "/claim/cut.py") 386, Value.int 99 0, Value.int 2 0, Value.int 0 0, Value.int 0 0, Value.int 3 0, Value.ref 124, Value.bool true, Value.int 181 0, Value.ref 125, Value.none, Value.ref 126, Value.ref 127, Value.ref 128, Value.int 390 0, Value.int 99 0, Value.str (Str.ofString "/claim/cut.py") 391] }) ::
    (nat_lit 130, { cls := Value.type "function", data := Data.func { name := Str.ofString "grown", qualname := Str.ofString "RecvPart.grown", params := A130, body := FuncBody.stmts B130, scope := C130, globals := 3, closure := [], defaults := Value.none, kwdefaults := Value.none, pyModule := Value.str (Str.ofString "quic.recvpart") 338, code := Value.ref 129 } }) ::
    (nat_lit 131, { cls := Value.type "tuple", data := Data.seq #[] }) ::
    (nat_lit 133, { cls := Value.type "tuple", data := Data.seq #[Value.str (Str.ofString "self") 396, Value.str (Str.ofString "offset") 397, Value.str (Str.ofString "data") 398, Value.str (Str.ofString "is_end") 399, Value.str (Str.ofString "end") 400, Value.str (Str.ofString "more") 401] }) ::
    (nat_lit 134, { cls := Value.type "tuple", data := Data.seq #[] }) ::
    (nat_lit 136, { cls := Value.type "code", data := Data.fields #[Value.str (Str.ofString "on_stream") 393, Value.str (Str.ofString "RecvPart.on_stream") 394, Value.str (Str.ofString "/claim/cut.py") 395, Value.int 104 0, Value.int 4 0, Value.int 0 0, Value.int 0 0, Value.int 3 0, Value.ref 131, Value.bool true, Value.int 181 0, Value.ref 132, Value.none, Value.ref 133, Value.ref 134, Value.ref 135, Value.int 402 0, Value.int 104 0, Value.str (Str.ofString "/claim/cut.py") 403] }) ::
    (nat_lit 137, { cls := Value.type "function", data := Data.func { name := Str.ofString "on_stream", qualname := Str.ofString "RecvPart.on_stream", params := A137, body := FuncBody.stmts B137, scope := C137, globals := 3, closure := [], defaults := Value.none, kwdefaults := Value.none, pyModule := Value.str (Str.ofString "quic.recvpart") 338, code := Value.ref 136 } }) ::
    (nat_lit 138, { cls := Value.type "tuple", data := Data.seq #[] }) ::
    (nat_lit 140, { cls := Value.type "tuple", data := Data.seq #[Value.str (Str.ofString "self") 408] }) ::
    (nat_lit 141, { cls := Value.type "tuple", data := Data.seq #[] }) ::
    (nat_lit 143, { cls := Value.type "code", data := Data.fields #[Value.str (Str.ofString "has_all") 405, Value.str (Str.ofString "RecvPart.has_all") 406, Value.str (Str.ofString "/claim/cut.py") 407, Value.int 120 0, Value.int 1 0, Value.int 0 0, Value.int 0 0, Value.int 3 0, Value.ref 138, Value.bool true, Value.int 181 0, Value.ref 139, Value.none, Value.ref 140, Value.ref 141, Value.ref 142, Value.int 409 0, Value.int 120 0, Value.str (Str.ofString "/claim/cut.py") 410] }) ::
    (nat_lit 144, { cls := Value.type "function", data := Data.func { name := Str.ofString "has_all", qualname := Str.ofString "RecvPart.has_all", params := A144, body := FuncBody.stmts B144, scope := C144, globals := 3, closure := [], defaults := Value.none, kwdefaults := Value.none, pyModule := Value.str (Str.ofString "quic.recvpart") 338, code := Value.ref 143 } }) ::
    (nat_lit 145, { cls := Value.type "tuple", data := Data.seq #[] }) ::
    (nat_lit 147, { cls := Value.type "tuple", data := Data.seq #[Value.str (Str.ofString "self") 415, Value.str (Str.ofString "code") 416, Value.str (Str.ofString "final_size") 417] }) ::
    (nat_lit 148, { cls := Value.type "tuple", data := Data.seq #[] }) ::
    (nat_lit 150, { cls := Value.type "code", data := Data.fields #[Value.str (Str.ofString "on_reset") 412, Value.str (Str.ofString "RecvPart.on_reset") 413, Value.str (Str.ofString "/claim/cut.py") 414, Value.int 123 0, Value.int 3 0, Value.int 0 0, Value.int 0 0, Value.int 3 0, Value.ref 145, Value.bool true, Value.int 181 0, Value.ref 146, Value.none, Value.ref 147, Value.ref 148, Value.ref 149, Value.int 418 0, Value.int 123 0, Value.str (Str.ofString "/claim/cut.py") 419] }) ::
    (nat_lit 151, { cls := Value.type "function", data := Data.func { name := Str.ofString "on_reset", qualname := Str.ofString "RecvPart.on_reset", params := A151, body := FuncBody.stmts B151, scope := C151, globals := 3, closure := [], defaults := Value.none, kwdefaults := Value.none, pyModule := Value.str (Str.ofString "quic.recvpart") 338, code := Value.ref 150 } }) ::
    (nat_lit 152, { cls := Value.type "tuple", data := Data.seq #[] }) ::
    (nat_lit 154, { cls := Value.type "tuple", data := Data.seq #[Value.str (Str.ofString "self") 424, Value.str (Str.ofString "most") 425, Value.str (Str.ofString "found") 426, Value.str (Str.ofString "left") 427] }) ::
    (nat_lit 155, { cls := Value.type "tuple", data := Data.seq #[] }) ::
    (nat_lit 157, { cls := Value.type "code", data := Data.fields #[Value.str (Str.ofString "read") 421, Value.str (Str.ofString "RecvPart.read") 422, Value.str (Str.ofString "/claim/cut.py") 423, Value.int 126 0, Value.int 2 0, Value.int 0 0, Value.int 0 0, Value.int 3 0, Value.ref 152, Value.bool true, Value.int 181 0, Value.ref 153, Value.none, Value.ref 154, Value.ref 155, Value.ref 156, Value.int 428 0, Value.int 126 0, Value.str (Str.ofString "/claim/cut.py") 429] }) ::
    (nat_lit 158, { cls := Value.type "function", data := Data.func { name := Str.ofString "read", qualname := Str.ofString "RecvPart.read", params := A158, body := FuncBody.stmts B158, scope := C158, globals := 3, closure := [], defaults := Value.none, kwdefaults := Value.none, pyModule := Value.str (Str.ofString "quic.recvpart") 338, code := Value.ref 157 } }) ::
    (nat_lit 159, { cls := Value.type "tuple", data := Data.seq #[] }) ::
    (nat_lit 161, { cls := Value.type "tuple", data := Data.seq #[Value.str (Str.ofString "self") 434, Value.str (Str.ofString "code") 435] }) ::
    (nat_lit 162, { cls := Value.type "tuple", data := Data.seq #[] }) ::
    (nat_lit 164, { cls := Value.type "code", data := Data.fields #[Value.str (Str.ofString "stop") 431, Value.str (Str.ofString "RecvPart.stop") 432, Value.str (Str.ofString "/claim/cut.py") 433, Value.int 141 0, Value.int 2 0, Value.int 0 0, Value.int 0 0, Value.int 3 0, Value.ref 159, Value.bool true, Value.int 181 0, Value.ref 160, Value.none, Value.ref 161, Value.ref 162, Value.ref 163, Value.int 436 0, Value.int 141 0, Value.str (Str.ofString "/claim/cut.py") 437] }) ::
    (nat_lit 165, { cls := Value.type "function", data := Data.func { name := Str.ofString "stop", qualname := Str.ofString "RecvPart.stop", params := A165, body := FuncBody.stmts B165, scope := C165, globals := 3, closure := [], defaults := Value.none, kwdefaults := Value.none, pyModule := Value.str (Str.ofString "quic.recvpart") 338, code := Value.ref 164 } }) ::
    (nat_lit 166, { cls := Value.type "tuple", data := Data.seq #[] }) ::
    (nat_lit 168, { cls := Value.type "tuple", data := Data.seq #[Value.str (Str.ofString "self") 442, Value.str (Str.ofString "limit") 443] }) ::
    (nat_lit 169, { cls := Value.type "tuple", data := Data.seq #[] }) ::
    (nat_lit 171, { cls := Value.type "code", data := Data.fields #[Value.str (Str.ofString "raise_limit") 439, Value.str (Str.ofString "RecvPart.raise_limit") 440, Value.str (Str.ofString "/claim/cut.py") 441, Value.int 144 0, Value.int 2 0, Value.int 0 0, Value.int 0 0, Value.int 3 0, Value.ref 166, Value.bool true, Value.int 181 0, Value.ref 167, Value.none, Value.ref 168, Value.ref 169, Value.ref 170, Value.int 444 0, Value.int 144 0, Value.str (Str.ofString "/claim/cut.py") 445] }) ::
    (nat_lit 172, { cls := Value.type "function", data := Data.func { name := Str.ofString "raise_limit", qualname := Str.ofString "RecvPart.raise_limit", params := A172, body := FuncBody.stmts B172, scope := C172, globals := 3, closure := [], defaults := Value.none, kwdefaults := Value.none, pyModule := Value.str (Str.ofString "quic.recvpart") 338, code := Value.ref 171 } }) ::
    (nat_lit 173, { cls := Value.type "tuple", data := Data.seq #[] }) ::
    (nat_lit 175, { cls := Value.type "tuple", data := Data.seq #[Value.str (Str.ofString "self") 450] }) ::
    (nat_lit 176, { cls := Value.type "tuple", data := Data.seq #[] }) ::
    (nat_lit 178, { cls := Value.type "code", data := Data.fields #[Value.str (Str.ofString "used_to") 447, Value.str (Str.ofString "RecvPart.used_to") 448, Value.str (Str.ofString "/claim/cut.py") 449, Value.int 147 0, Value.int 1 0, Value.int 0 0, Value.int 0 0, Value.int 3 0, Value.ref 173, Value.bool true, Value.int 181 0, Value.ref 174, Value.none, Value.ref 175, Value.ref 176, Value.ref 177, Value.int 451 0, Value.int 147 0, Value.str (Str.ofString "/claim/cut.py") 452] }) ::
    (nat_lit 179, { cls := Value.type "function", data := Data.func { name := Str.ofString "used_to", qualname := Str.ofString "RecvPart.used_to", params := A179, body := FuncBody.stmts B179, scope := C179, globals := 3, closure := [], defaults := Value.none, kwdefaults := Value.none, pyModule := Value.str (Str.ofString "quic.recvpart") 338, code := Value.ref 178 } }) ::
    (nat_lit 180, { cls := Value.type "tuple", data := Data.seq #[] }) ::
    (nat_lit 182, { cls := Value.type "tuple", data := Data.seq #[Value.str (Str.ofString "self") 457] }) ::
    (nat_lit 183, { cls := Value.type "tuple", data := Data.seq #[] }) ::
    (nat_lit 185, { cls := Value.type "code", data := Data.fields #[Value.str (Str.ofString "is_over") 454, Value.str (Str.ofString "RecvPart.is_over") 455, Value.str (Str.ofString "/claim/cut.py") 456, Value.int 152 0, Value.int 1 0, Value.int 0 0, Value.int 0 0, Value.int 3 0, Value.ref 180, Value.bool true, Value.int 181 0, Value.ref 181, Value.none, Value.ref 182, Value.ref 183, Value.ref 184, Value.int 458 0, Value.int 152 0, Value.str (Str.ofString "/claim/cut.py") 459] }) ::
    (nat_lit 186, { cls := Value.type "function", data := Data.func { name := Str.ofString "is_over", qualname := Str.ofString "RecvPart.is_over", params := A186, body := FuncBody.stmts B186, scope := C186, globals := 3, closure := [], defaults := Value.none, kwdefaults := Value.none, pyModule := Value.str (Str.ofString "quic.recvpart") 338, code := Value.ref 185 } }) ::
    (nat_lit 187, { cls := Value.type "tuple", data := Data.seq #[Value.str (Str.ofString "final_size") 461, Value.str (Str.ofString "highest") 462, Value.str (Str.ofString "limit") 463, Value.str (Str.ofString "pieces") 464, Value.str (Str.ofString "read_to") 465, Value.str (Str.ofString "reset_code") 466, Value.str (Str.ofString "state") 467, Value.str (Str.ofString "stop_code") 468] }) ::
    (nat_lit 188, { cls := Value.type "dict", data := Data.dict #[{ hash := PyData.keyHash P (Str.ofString "__module__"), key := Value.str (Str.ofString "__module__") 361, val := Value.str (Str.ofString "quic.recvpart") 338 }, { hash := PyData.keyHash P (Str.ofString "__firstlineno__"), key := Value.str (Str.ofString "__firstlineno__") 365, val := Value.int 78 364 }, { hash := PyData.keyHash P (Str.ofString "__init__"), key := Value.str (Str.ofString "__init__") 373, val := Value.ref 116 }, { hash := PyData.keyHash P (Str.ofString "check_end"), key := Value.str (Str.ofString "check_end") 383, val := Value.ref 123 }, { hash := PyData.keyHash P (Str.ofString "grown"), key := Value.str (Str.ofString "grown") 392, val := Value.ref 130 }, { hash := PyData.keyHash P (Str.ofString "on_stream"), key := Value.str (Str.ofString "on_stream") 404, val := Value.ref 137 }, { hash := PyData.keyHash P (Str.ofString "has_all"), key := Value.str (Str.ofString "has_all") 411, val := Value.ref 144 }, { hash := PyData.keyHash P (Str.ofString "on_reset"), key := Value.str (Str.ofString "on_reset") 420, val := Value.ref 151 }, { hash := PyData.keyHash P (Str.ofString "read"), key := Value.str (Str.ofString "read") 430, val := Value.ref 158 }, { hash := PyData.keyHash P (Str.ofString "stop"), key := Value.str (Str.ofString "stop") 438, val := Value.ref 165 }, { hash := PyData.keyHash P (Str.ofString "raise_limit"), key := Value.str (Str.ofString "raise_limit") 446, val := Value.ref 172 }, { hash := PyData.keyHash P (Str.ofString "used_to"), key := Value.str (Str.ofString "used_to") 453, val := Value.ref 179 }, { hash := PyData.keyHash P (Str.ofString "is_over"), key := Value.str (Str.ofString "is_over") 460, val := Value.ref 186 }, { hash := PyData.keyHash P (Str.ofString "__static_attributes__"), key := Value.str (Str.ofString "__static_attributes__") 469, val := Value.ref 187 }, { hash := PyData.keyHash P (Str.ofString "__dict__"), key := Value.str (Str.ofString "__dict__") 471, val := Value.ref 190 }, { hash := PyData.keyHash P (Str.ofString "__weakref__"), key := Value.str (Str.ofString "__weakref__") 473, val := Value.ref 191 }, { hash := PyData.keyHash P (Str.ofString "__doc__"), key := Value.str (Str.ofString "__doc__") 474, val := Value.none }] 4 }) ::
    (nat_lit 189, { cls := Value.type "type", data := Data.cls { name := Str.ofString "RecvPart", bases := [Value.type "object"], mro := [Value.ref 189, Value.type "object"], ns := 188, qualname := Str.ofString "RecvPart" }, slots := #[none, none, some (Value.str (Str.ofString "RecvPart") 354), some (Value.str (Str.ofString "RecvPart") 362), some (Value.builtin "object.__new__"), some (Value.bool true)] }) ::
    (nat_lit 190, { cls := Value.type "getset_descriptor", data := Data.fields #[Value.str (Str.ofString "__dict__") 470, Value.ref 189, Value.builtin "function.__dict__", Value.builtin "function.__dict__#set"] }) ::
    (nat_lit 191, { cls := Value.type "getset_descriptor", data := Data.fields #[Value.str (Str.ofString "__weakref__") 472, Value.ref 189, Value.builtin "ExceptionGroup.__weakref__", Value.none] }) ::
    (nat_lit 194, { cls := Value.type "tuple", data := Data.seq #[] }) ::
    (nat_lit 196, { cls := Value.type "tuple", data := Data.seq #[Value.str (Str.ofString "box") 482, Value.str (Str.ofString "many") 483] }) ::
    (nat_lit 197, { cls := Value.type "tuple", data := Data.seq #[] }) ::
    (nat_lit 199, { cls := Value.type "code", data := Data.fields #[Value.str (Str.ofString "_law_take") 479, Value.str (Str.ofString "_law_take") 480, Value.str (Str.ofString "/claim/cut.py") 481, Value.int 155 0, Value.int 2 0, Value.int 0 0, Value.int 0 0, Value.int 3 0, Value.ref 194, Value.bool true, Value.int 181 0, Value.ref 195, Value.none, Value.ref 196, Value.ref 197, Value.ref 198, Value.int 484 0, Value.int 155 0, Value.str (Str.ofString "/claim/cut.py") 485] }) ::
    (nat_lit 200, { cls := Value.type "function", data := Data.func { name := Str.ofString "_law_take", qualname := Str.ofString "_law_take", params := A200, body := FuncBody.stmts B200, scope := C200, globals := 3, closure := [], defaults := Value.none, kwdefaults := Value.none, pyModule := Value.str (Str.ofString "law_sa0567_01") 477, code := Value.ref 199 } }) ::
    (nat_lit 201, { cls := Value.type "tuple", data := Data.seq #[] }) ::
    (nat_lit 203, { cls := Value.type "tuple", data := Data.seq #[Value.str (Str.ofString "crypto") 490, Value.str (Str.ofString "offset") 491, Value.str (Str.ofString "data") 492, Value.str (Str.ofString "wrong") 493] }) ::
    (nat_lit 204, { cls := Value.type "tuple", data := Data.seq #[] }) ::
    (nat_lit 206, { cls := Value.type "code", data := Data.fields #[Value.str (Str.ofString "_law_by_one") 487, Value.str (Str.ofString "_law_by_one") 488, Value.str (Str.ofString "/claim/cut.py") 489, Value.int 160 0, Value.int 3 0, Value.int 0 0, Value.int 0 0, Value.int 3 0, Value.ref 201, Value.bool true, Value.int 181 0, Value.ref 202, Value.none, Value.ref 203, Value.ref 204, Value.ref 205, Value.int 494 0, Value.int 160 0, Value.str (Str.ofString "/claim/cut.py") 495] }) ::
    (nat_lit 207, { cls := Value.type "function", data := Data.func { name := Str.ofString "_law_by_one", qualname := Str.ofString "_law_by_one", params := A207, body := FuncBody.stmts B207, scope := C207, globals := 3, closure := [], defaults := Value.none, kwdefaults := Value.none, pyModule := Value.str (Str.ofString "law_sa0567_01") 477, code := Value.ref 206 } }) ::
    (nat_lit 208, { cls := Value.type "tuple", data := Data.seq #[] }) ::
    (nat_lit 210, { cls := Value.type "tuple", data := Data.seq #[Value.str (Str.ofString "part") 500, Value.str (Str.ofString "offset") 501, Value.str (Str.ofString "data") 502, Value.str (Str.ofString "wrong") 503] }) ::
    (nat_lit 211, { cls := Value.type "tuple", data := Data.seq #[] }) ::
    (nat_lit 213, { cls := Value.type "code", data := Data.fields #[Value.str (Str.ofString "_law_by_other") 497, Value.str (Str.ofString "_law_by_other") 498, Value.str (Str.ofString "/claim/cut.py") 499, Value.int 165 0, Value.int 3 0, Value.int 0 0, Value.int 0 0, Value.int 3 0, Value.ref 208, Value.bool true, Value.int 181 0, Value.ref 209, Value.none, Value.ref 210, Value.ref 211, Value.ref 212, Value.int 504 0, Value.int 165 0, Value.str (Str.ofString "/claim/cut.py") 505] }) ::
    (nat_lit 214, { cls := Value.type "function", data := Data.func { name := Str.ofString "_law_by_other", qualname := Str.ofString "_law_by_other", params := A214, body := FuncBody.stmts B214, scope := C214, globals := 3, closure := [], defaults := Value.none, kwdefaults := Value.none, pyModule := Value.str (Str.ofString "law_sa0567_01") 477, code := Value.ref 213 } }) ::
    (nat_lit 215, { cls := Value.type "tuple", data := Data.seq #[] }) ::
    (nat_lit 218, { cls := Value.type "code", data := Data.fields #[Value.str (Str.ofString "law") 507, Value.str (Str.ofString "law") 508, Value.str (Str.ofString "/claim/cut.py") 509, Value.int 171 0, Value.int 1 0, Value.int 0 0, Value.int 0 0, Value.int 3 0, Value.ref 215, Value.bool true, Value.int 181 0, Value.ref 216, Value.none, Value.none, Value.none, Value.ref 217, Value.int 510 0, Value.int 171 0, Value.str (Str.ofString "/claim/cut.py") 511] }) ::
    (nat_lit 219, { cls := Value.type "function", data := Data.func { name := Str.ofString "law", qualname := Str.ofString "law", params := A219, body := FuncBody.stmts B219, scope := C219, globals := 3, closure := [], defaults := Value.none, kwdefaults := Value.none, pyModule := Value.str (Str.ofString "law_sa0567_01") 477, code := Value.ref 218 } }) :: [] : List (Nat × Obj))) _ _ _ ?_ _ _ _ ?_ _ _ _ ?_ _ _ _ ?_ _ _ _ ?_ _ _ _ ?_ _ _ _ ?_ _ _ _ ?_ _ _ _ ?_ _ _ _ ?_ _ _ _ ?_ _ _ _ ?_ _ _ _ ?_ _ _ _ ?_ _ _ _ ?_ _ _ _ ?_ _ _ _ ?_ _ _ _ ?_ _ _ _ ?_ _ _ _ ?_ _ _ _ ?_ _ _ _ ?_ _ _ _ ?_ _ _ _ ?_
  all_goals (try (conv => lhs; whnf))
theorem hd.warm : hd.heap_39 = hd.heap_39 ∧ PySem.Challenge.rw_sa0567_01 = PySem.Challenge.rw_sa0567_01 := by k_fill; exact ⟨rfl, rfl⟩
theorem hd.said : PySem.Challenge.rw_sa0567_01.wellSaid = true := by rw [PySem.W.Fast.te9446332074065402090]; kernel_rfl
noncomputable def hd.as : List Addr := [2, 3, 15, 17, 18, 20, 21, 22, 29, 31, 32, 34, 35, 36, 37, 38, 39, 42, 44, 45, 47, 48, 49, 51, 52, 54, 55, 56, 59, 60, 68, 70, 71, 73, 74, 75, 77, 78, 80, 81, 82, 84, 85, 87, 88, 89, 90, 91, 92, 93, 96, 98, 99, 101, 102, 110, 112, 113, 115, 116, 117, 119, 120, 122, 123, 124, 126, 127, 129, 130, 131, 133, 134, 136, 137, 138, 140, 141, 143, 144, 145, 147, 148, 150, 151, 152, 154, 155, 157, 158, 159, 161, 162, 164, 165, 166, 168, 169, 171, 172, 173, 175, 176, 178, 179, 180, 182, 183, 185, 186, 187, 188, 189, 190, 191, 194, 196, 197, 199, 200, 201, 203, 204, 206, 207, 208, 210, 211, 213, 214, 215, 218, 219]
theorem hd.asE : ∀ P, hd.as = (hd.heap_39 P).map (·.1) := fun _ => by kernel_rfl
noncomputable def hd.o_43 (P : Params) : Obj := { cls := Value.type "tuple", data := Data.seq #[] }
noncomputable def hd.o_44 (P : Params) : Obj := { cls := Value.none, data := Data.fields #[] }
noncomputable def hd.o_45 (P : Params) : Obj := { cls := Value.type "code", data := Data.fields #[Value.str (Str.ofString "<module>") 182, Value.str (Str.ofString "<module>") 183, Value.str (Str.ofString "/claim/cut.py") 184, Value.int 1 0, Value.int 0 0, Value.int 0 0, Value.int 0 0, Value.int 0 0, Value.ref 11, Value.bool false, Value.int 181 0, Value.ref 12, Value.none, Value.none, Value.none, Value.none, Value.int 185 0, Value.int 1 0, Value.str (Str.ofString "/claim/cut.py") 186] }
noncomputable def hd.o_46 (P : Params) : Obj := { cls := Value.type "frame", slots := #[some (Value.ref 13), some (Value.ref 3), some (Value.ref 3), none, some (Value.str (Str.ofString "__main__") 164), none, some (Value.ref 0)] }
noncomputable def hd.o_49 (P : Params) : Obj := { cls := Value.none, data := Data.dict #[{ hash := PyData.keyHash P (Str.ofString "type.__subclasses__.Exception.0"), key := Value.str (Str.ofString "type.__subclasses__.Exception.0") 231, val := Value.int 38 0 }, { hash := PyData.keyHash P (Str.ofString "type.__subclasses__.Exception.n"), key := Value.str (Str.ofString "type.__subclasses__.Exception.n") 232, val := Value.int 1 0 }] 2 }
noncomputable def hd.o_50 (P : Params) : Obj := { cls := Value.type "dict", data := Data.dict #[{ hash := PyData.keyHash P (Str.ofString "__name__"), key := Value.str (Str.ofString "__name__") 165, val := Value.str (Str.ofString "quic.pieces") 235 }, { hash := PyData.keyHash P (Str.ofString "__doc__"), key := Value.str (Str.ofString "__doc__") 166, val := Value.none }, { hash := PyData.keyHash P (Str.ofString "__package__"), key := Value.str (Str.ofString "__package__") 167, val := Value.none }, { hash := PyData.keyHash P (Str.ofString "__loader__"), key := Value.str (Str.ofString "__loader__") 168, val := Value.builtin "__main__.__loader__#opaque" }, { hash := PyData.keyHash P (Str.ofString "__spec__"), key := Value.str (Str.ofString "__spec__") 169, val := Value.none }, { hash := PyData.keyHash P (Str.ofString "__annotations__"), key := Value.str (Str.ofString "__annotations__") 170, val := Value.ref 6 }, { hash := PyData.keyHash P (Str.ofString "__builtins__"), key := Value.str (Str.ofString "__builtins__") 171, val := Value.ref 4 }, { hash := PyData.keyHash P (Str.ofString "__file__"), key := Value.str (Str.ofString "__file__") 173, val := Value.str (Str.ofString "/claim/cut.py") 172 }, { hash := PyData.keyHash P (Str.ofString "__cached__"), key := Value.str (Str.ofString "__cached__") 174, val := Value.none }, { hash := PyData.keyHash P (Str.ofString "_wall"), key := Value.str (Str.ofString "_wall") 193, val := Value.ref 21 }, { hash := PyData.keyHash P (Str.ofString "FLOW_CONTROL_ERROR"), key := Value.str (Str.ofString "FLOW_CONTROL_ERROR") 197, val := Value.int 3 196 }, { hash := PyData.keyHash P (Str.ofString "FINAL_SIZE_ERROR"), key := Value.str (Str.ofString "FINAL_SIZE_ERROR") 199, val := Value.int 6 198 }, { hash := PyData.keyHash P (Str.ofString "CRYPTO_BUFFER_EXCEEDED"), key := Value.str (Str.ofString "CRYPTO_BUFFER_EXCEEDED") 201, val := Value.int 13 200 }, { hash := PyData.keyHash P (Str.ofString "QuicError"), key := Value.str (Str.ofString "QuicError") 234, val := Value.ref 38 }, { hash := PyData.keyHash P (Str.ofString "add_piece"), key := Value.str (Str.ofString "add_piece") 254, val := Value.ref 48 }, { hash := PyData.keyHash P (Str.ofString "taken_from"), key := Value.str (Str.ofString "taken_from") 266, val := Value.ref 55 }] 16 }
noncomputable def hd.o_51 (P : Params) : Obj := { cls := Value.none, data := Data.fields #[Value.int 1 0, Value.int 0 0, Value.ref 20, Value.int 8 0, Value.int 0 0, Value.ref 27, Value.int 16 0, Value.int 0 0, Value.ref 47, Value.int 29 0, Value.int 0 0, Value.ref 54] }
noncomputable def hd.o_52 (P : Params) : Obj := { cls := Value.type "tuple", data := Data.seq #[] }
noncomputable def hd.o_53 (P : Params) : Obj := { cls := Value.none, data := Data.fields #[] }
noncomputable def hd.o_54 (P : Params) : Obj := { cls := Value.type "tuple", data := Data.seq #[Value.str (Str.ofString "k") 190] }
noncomputable def hd.o_55 (P : Params) : Obj := { cls := Value.type "tuple", data := Data.seq #[] }
noncomputable def hd.o_56 (P : Params) : Obj := { cls := Value.none, data := Data.func { name := Str.ofString "_wall", qualname := Str.ofString "_wall", params := (fnPart hd.body 0).1, body := FuncBody.stmts (fnPart hd.body 0).2.1, scope := (fnPart hd.body 0).2.2, globals := 0, closure := [], defaults := Value.none, kwdefaults := Value.none } }
noncomputable def hd.o_57 (P : Params) : Obj := { cls := Value.type "code", data := Data.fields #[Value.str (Str.ofString "_wall") 187, Value.str (Str.ofString "_wall") 188, Value.str (Str.ofString "/claim/cut.py") 189, Value.int 1 0, Value.int 1 0, Value.int 0 0, Value.int 0 0, Value.int 3 0, Value.ref 15, Value.bool true, Value.int 181 0, Value.ref 16, Value.none, Value.ref 17, Value.ref 18, Value.ref 19, Value.int 191 0, Value.int 1 0, Value.str (Str.ofString "/claim/cut.py") 192] }
noncomputable def hd.o_58 (P : Params) : Obj := { cls := Value.type "function", data := Data.func { name := Str.ofString "_wall", qualname := Str.ofString "_wall", params := (fnPart hd.body 0).1, body := FuncBody.stmts (fnPart hd.body 0).2.1, scope := (fnPart hd.body 0).2.2, globals := 3, closure := [], defaults := Value.none, kwdefaults := Value.none, pyModule := Value.str (Str.ofString "__main__") 164, code := Value.ref 20 } }
noncomputable def hd.o_59 (P : Params) : Obj := { cls := Value.type "tuple", data := Data.seq #[Value.type "Exception"] }
noncomputable def hd.o_60 (P : Params) : Obj := { cls := Value.type "builtin_function_or_method", data := Data.fields #[Value.builtin "type.__prepare__", Value.type "type"] }
noncomputable def hd.o_61 (P : Params) : Obj := { cls := Value.type "dict", data := Data.dict #[{ hash := PyData.keyHash P (Str.ofString "__module__"), key := Value.str (Str.ofString "__module__") 209, val := Value.str (Str.ofString "quic.errors") 194 }, { hash := PyData.keyHash P (Str.ofString "__qualname__"), key := Value.str (Str.ofString "__qualname__") 211, val := Value.str (Str.ofString "QuicError") 210 }, { hash := PyData.keyHash P (Str.ofString "__firstlineno__"), key := Value.str (Str.ofString "__firstlineno__") 213, val := Value.int 8 212 }, { hash := PyData.keyHash P (Str.ofString "__init__"), key := Value.str (Str.ofString "__init__") 223, val := Value.ref 35 }, { hash := PyData.keyHash P (Str.ofString "__static_attributes__"), key := Value.str (Str.ofString "__static_attributes__") 227, val := Value.ref 36 }] 5 }
noncomputable def hd.o_62 (P : Params) : Obj := { cls := Value.type "tuple", data := Data.seq #[] }
noncomputable def hd.o_63 (P : Params) : Obj := { cls := Value.none, data := Data.fields #[Value.int 10 0, Value.int 4 0, Value.ref 34] }
noncomputable def hd.o_64 (P : Params) : Obj := { cls := Value.type "code", data := Data.fields #[Value.str (Str.ofString "QuicError") 204, Value.str (Str.ofString "QuicError") 205, Value.str (Str.ofString "/claim/cut.py") 206, Value.int 8 0, Value.int 0 0, Value.int 0 0, Value.int 0 0, Value.int 0 0, Value.ref 25, Value.bool false, Value.int 181 0, Value.ref 26, Value.none, Value.none, Value.none, Value.none, Value.int 207 0, Value.int 8 0, Value.str (Str.ofString "/claim/cut.py") 208] }
noncomputable def hd.o_65 (P : Params) : Obj := { cls := Value.type "frame", slots := #[some (Value.ref 27), some (Value.ref 3), some (Value.ref 24), none, some (Value.str (Str.ofString "quic.errors") 194), none, some (Value.ref 0)] }
noncomputable def hd.o_66 (P : Params) : Obj := { cls := Value.type "tuple", data := Data.seq #[] }
noncomputable def hd.o_67 (P : Params) : Obj := { cls := Value.none, data := Data.fields #[] }
noncomputable def hd.o_68 (P : Params) : Obj := { cls := Value.type "tuple", data := Data.seq #[Value.str (Str.ofString "self") 217, Value.str (Str.ofString "code") 218, Value.str (Str.ofString "frame_type") 219, Value.str (Str.ofString "text") 220] }
noncomputable def hd.o_69 (P : Params) : Obj := { cls := Value.type "tuple", data := Data.seq #[] }
noncomputable def hd.o_70 (P : Params) : Obj := { cls := Value.none, data := Data.func { name := Str.ofString "__init__", qualname := Str.ofString "QuicError.__init__", params := (fnPart (clsPart hd.body 5) 0).1, body := FuncBody.stmts (fnPart (clsPart hd.body 5) 0).2.1, scope := (fnPart (clsPart hd.body 5) 0).2.2, globals := 0, closure := [], defaults := Value.none, kwdefaults := Value.none } }
noncomputable def hd.o_71 (P : Params) : Obj := { cls := Value.type "code", data := Data.fields #[Value.str (Str.ofString "__init__") 214, Value.str (Str.ofString "QuicError.__init__") 215, Value.str (Str.ofString "/claim/cut.py") 216, Value.int 10 0, Value.int 4 0, Value.int 0 0, Value.int 0 0, Value.int 3 0, Value.ref 29, Value.bool true, Value.int 181 0, Value.ref 30, Value.none, Value.ref 31, Value.ref 32, Value.ref 33, Value.int 221 0, Value.int 10 0, Value.str (Str.ofString "/claim/cut.py") 222] }
noncomputable def hd.o_72 (P : Params) : Obj := { cls := Value.type "function", data := Data.func { name := Str.ofString "__init__", qualname := Str.ofString "QuicError.__init__", params := (fnPart (clsPart hd.body 5) 0).1, body := FuncBody.stmts (fnPart (clsPart hd.body 5) 0).2.1, scope := (fnPart (clsPart hd.body 5) 0).2.2, globals := 3, closure := [], defaults := Value.none, kwdefaults := Value.none, pyModule := Value.str (Str.ofString "quic.errors") 194, code := Value.ref 34 } }
noncomputable def hd.o_73 (P : Params) : Obj := { cls := Value.type "tuple", data := Data.seq #[Value.str (Str.ofString "code") 224, Value.str (Str.ofString "frame_type") 225, Value.str (Str.ofString "text") 226] }
noncomputable def hd.o_74 (P : Params) : Obj := { cls := Value.type "dict", data := Data.dict #[{ hash := PyData.keyHash P (Str.ofString "__module__"), key := Value.str (Str.ofString "__module__") 209, val := Value.str (Str.ofString "quic.errors") 194 }, { hash := PyData.keyHash P (Str.ofString "__firstlineno__"), key := Value.str (Str.ofString "__firstlineno__") 213, val := Value.int 8 212 }, { hash := PyData.keyHash P (Str.ofString "__init__"), key := Value.str (Str.ofString "__init__") 223, val := Value.ref 35 }, { hash := PyData.keyHash P (Str.ofString "__static_attributes__"), key := Value.str (Str.ofString "__static_attributes__") 227, val := Value.ref 36 }, { hash := PyData.keyHash P (Str.ofString "__weakref__"), key := Value.str (Str.ofString "__weakref__") 229, val := Value.ref 39 }, { hash := PyData.keyHash P (Str.ofString "__doc__"), key := Value.str (Str.ofString "__doc__") 230, val := Value.none }] 3 }
noncomputable def hd.o_75 (P : Params) : Obj := { cls := Value.type "type", data := Data.cls { name := Str.ofString "QuicError", bases := [Value.type "Exception"], mro := [Value.ref 38, Value.type "Exception", Value.type "BaseException", Value.type "object"], ns := 37, qualname := Str.ofString "QuicError" }, slots := #[some (Value.ref 22), none, some (Value.str (Str.ofString "QuicError") 202), some (Value.str (Str.ofString "QuicError") 210), some (Value.builtin "Exception.__new__"), some (Value.bool true)] }
noncomputable def hd.o_76 (P : Params) : Obj := { cls := Value.type "getset_descriptor", data := Data.fields #[Value.str (Str.ofString "__weakref__") 228, Value.ref 38, Value.builtin "ExceptionGroup.__weakref__", Value.none] }
noncomputable def hd.o_77 (P : Params) : Obj := { cls := Value.type "super", data := Data.fields #[Value.ref 38, Value.ref 38, Value.ref 38] }
noncomputable def hd.o_78 (P : Params) : Obj := { cls := Value.type "builtin_function_or_method", data := Data.fields #[Value.builtin "object.__init_subclass__", Value.ref 38] }
noncomputable def hd.o_79 (P : Params) : Obj := { cls := Value.type "tuple", data := Data.seq #[] }
noncomputable def hd.o_80 (P : Params) : Obj := { cls := Value.none, data := Data.fields #[] }
noncomputable def hd.o_81 (P : Params) : Obj := { cls := Value.type "tuple", data := Data.seq #[Value.str (Str.ofString "pieces") 240, Value.str (Str.ofString "offset") 241, Value.str (Str.ofString "data") 242, Value.str (Str.ofString "found") 243, Value.str (Str.ofString "begin") 244, Value.str (Str.ofString "joined") 245, Value.str (Str.ofString "start") 246, Value.str (Str.ofString "octets") 247, Value.str (Str.ofString "end") 248, Value.str (Str.ofString "last") 249, Value.str (Str.ofString "ahead") 250, Value.str (Str.ofString "behind") 251] }
noncomputable def hd.o_82 (P : Params) : Obj := { cls := Value.type "tuple", data := Data.seq #[] }
noncomputable def hd.o_83 (P : Params) : Obj := { cls := Value.none, data := Data.func { name := Str.ofString "add_piece", qualname := Str.ofString "add_piece", params := (fnPart hd.body 7).1, body := FuncBody.stmts (fnPart hd.body 7).2.1, scope := (fnPart hd.body 7).2.2, globals := 0, closure := [], defaults := Value.none, kwdefaults := Value.none } }
noncomputable def hd.o_84 (P : Params) : Obj := { cls := Value.type "code", data := Data.fields #[Value.str (Str.ofString "add_piece") 237, Value.str (Str.ofString "add_piece") 238, Value.str (Str.ofString "/claim/cut.py") 239, Value.int 16 0, Value.int 3 0, Value.int 0 0, Value.int 0 0, Value.int 3 0, Value.ref 42, Value.bool true, Value.int 181 0, Value.ref 43, Value.none, Value.ref 44, Value.ref 45, Value.ref 46, Value.int 252 0, Value.int 16 0, Value.str (Str.ofString "/claim/cut.py") 253] }
noncomputable def hd.o_85 (P : Params) : Obj := { cls := Value.type "function", data := Data.func { name := Str.ofString "add_piece", qualname := Str.ofString "add_piece", params := (fnPart hd.body 7).1, body := FuncBody.stmts (fnPart hd.body 7).2.1, scope := (fnPart hd.body 7).2.2, globals := 3, closure := [], defaults := Value.none, kwdefaults := Value.none, pyModule := Value.str (Str.ofString "quic.pieces") 235, code := Value.ref 47 } }
noncomputable def hd.o_86 (P : Params) : Obj := { cls := Value.type "tuple", data := Data.seq #[] }
noncomputable def hd.o_87 (P : Params) : Obj := { cls := Value.none, data := Data.fields #[] }
noncomputable def hd.o_88 (P : Params) : Obj := { cls := Value.type "tuple", data := Data.seq #[Value.str (Str.ofString "pieces") 258, Value.str (Str.ofString "at") 259, Value.str (Str.ofString "found") 260, Value.str (Str.ofString "left") 261, Value.str (Str.ofString "start") 262, Value.str (Str.ofString "octets") 263] }
noncomputable def hd.o_89 (P : Params) : Obj := { cls := Value.type "tuple", data := Data.seq #[] }
noncomputable def hd.o_90 (P : Params) : Obj := { cls := Value.none, data := Data.func { name := Str.ofString "taken_from", qualname := Str.ofString "taken_from", params := (fnPart hd.body 8).1, body := FuncBody.stmts (fnPart hd.body 8).2.1, scope := (fnPart hd.body 8).2.2, globals := 0, closure := [], defaults := Value.none, kwdefaults := Value.none } }
noncomputable def hd.o_91 (P : Params) : Obj := { cls := Value.type "code", data := Data.fields #[Value.str (Str.ofString "taken_from") 255, Value.str (Str.ofString "taken_from") 256, Value.str (Str.ofString "/claim/cut.py") 257, Value.int 29 0, Value.int 2 0, Value.int 0 0, Value.int 0 0, Value.int 3 0, Value.ref 49, Value.bool true, Value.int 181 0, Value.ref 50, Value.none, Value.ref 51, Value.ref 52, Value.ref 53, Value.int 264 0, Value.int 29 0, Value.str (Str.ofString "/claim/cut.py") 265] }
noncomputable def hd.o_92 (P : Params) : Obj := { cls := Value.type "function", data := Data.func { name := Str.ofString "taken_from", qualname := Str.ofString "taken_from", params := (fnPart hd.body 8).1, body := FuncBody.stmts (fnPart hd.body 8).2.1, scope := (fnPart hd.body 8).2.2, globals := 3, closure := [], defaults := Value.none, kwdefaults := Value.none, pyModule := Value.str (Str.ofString "quic.pieces") 235, code := Value.ref 54 } }
noncomputable def hd.o_93 (P : Params) : Obj := { cls := Value.type "dict", data := Data.dict #[{ hash := PyData.keyHash P (Str.ofString "__name__"), key := Value.str (Str.ofString "__name__") 165, val := Value.str (Str.ofString "quic.recvpart") 338 }, { hash := PyData.keyHash P (Str.ofString "__doc__"), key := Value.str (Str.ofString "__doc__") 166, val := Value.none }, { hash := PyData.keyHash P (Str.ofString "__package__"), key := Value.str (Str.ofString "__package__") 167, val := Value.none }, { hash := PyData.keyHash P (Str.ofString "__loader__"), key := Value.str (Str.ofString "__loader__") 168, val := Value.builtin "__main__.__loader__#opaque" }, { hash := PyData.keyHash P (Str.ofString "__spec__"), key := Value.str (Str.ofString "__spec__") 169, val := Value.none }, { hash := PyData.keyHash P (Str.ofString "__annotations__"), key := Value.str (Str.ofString "__annotations__") 170, val := Value.ref 6 }, { hash := PyData.keyHash P (Str.ofString "__builtins__"), key := Value.str (Str.ofString "__builtins__") 171, val := Value.ref 4 }, { hash := PyData.keyHash P (Str.ofString "__file__"), key := Value.str (Str.ofString "__file__") 173, val := Value.str (Str.ofString "/claim/cut.py") 172 }, { hash := PyData.keyHash P (Str.ofString "__cached__"), key := Value.str (Str.ofString "__cached__") 174, val := Value.none }, { hash := PyData.keyHash P (Str.ofString "_wall"), key := Value.str (Str.ofString "_wall") 193, val := Value.ref 21 }, { hash := PyData.keyHash P (Str.ofString "FLOW_CONTROL_ERROR"), key := Value.str (Str.ofString "FLOW_CONTROL_ERROR") 197, val := Value.int 3 196 }, { hash := PyData.keyHash P (Str.ofString "FINAL_SIZE_ERROR"), key := Value.str (Str.ofString "FINAL_SIZE_ERROR") 199, val := Value.int 6 198 }, { hash := PyData.keyHash P (Str.ofString "CRYPTO_BUFFER_EXCEEDED"), key := Value.str (Str.ofString "CRYPTO_BUFFER_EXCEEDED") 201, val := Value.int 13 200 }, { hash := PyData.keyHash P (Str.ofString "QuicError"), key := Value.str (Str.ofString "QuicError") 234, val := Value.ref 38 }, { hash := PyData.keyHash P (Str.ofString "add_piece"), key := Value.str (Str.ofString "add_piece") 254, val := Value.ref 48 }, { hash := PyData.keyHash P (Str.ofString "taken_from"), key := Value.str (Str.ofString "taken_from") 266, val := Value.ref 55 }, { hash := PyData.keyHash P (Str.ofString "covered"), key := Value.str (Str.ofString "covered") 272, val := Value.ref 60 }, { hash := PyData.keyHash P (Str.ofString "CRYPTO_FRAME"), key := Value.str (Str.ofString "CRYPTO_FRAME") 276, val := Value.int 6 275 }, { hash := PyData.keyHash P (Str.ofString "CryptoIn"), key := Value.str (Str.ofString "CryptoIn") 324, val := Value.ref 91 }, { hash := PyData.keyHash P (Str.ofString "has_span"), key := Value.str (Str.ofString "has_span") 337, val := Value.ref 102 }, { hash := PyData.keyHash P (Str.ofString "RECEIVING"), key := Value.str (Str.ofString "RECEIVING") 341, val := Value.str (Str.ofString "recv") 340 }] 21 }
noncomputable def hd.o_94 (P : Params) : Obj := { cls := Value.none, data := Data.fields #[Value.int 1 0, Value.int 0 0, Value.ref 20, Value.int 8 0, Value.int 0 0, Value.ref 27, Value.int 16 0, Value.int 0 0, Value.ref 47, Value.int 29 0, Value.int 0 0, Value.ref 54, Value.int 37 0, Value.int 0 0, Value.ref 59, Value.int 41 0, Value.int 0 0, Value.ref 66, Value.int 63 0, Value.int 0 0, Value.ref 101] }
noncomputable def hd.o_95 (P : Params) : Obj := { cls := Value.type "tuple", data := Data.seq #[] }
noncomputable def hd.o_96 (P : Params) : Obj := { cls := Value.none, data := Data.fields #[] }
noncomputable def hd.o_97 (P : Params) : Obj := { cls := Value.none, data := Data.func { name := Str.ofString "covered", qualname := Str.ofString "covered", params := (fnPart hd.body 9).1, body := FuncBody.stmts (fnPart hd.body 9).2.1, scope := (fnPart hd.body 9).2.2, globals := 0, closure := [], defaults := Value.none, kwdefaults := Value.none } }
noncomputable def hd.o_98 (P : Params) : Obj := { cls := Value.type "code", data := Data.fields #[Value.str (Str.ofString "covered") 267, Value.str (Str.ofString "covered") 268, Value.str (Str.ofString "/claim/cut.py") 269, Value.int 37 0, Value.int 1 0, Value.int 0 0, Value.int 0 0, Value.int 3 0, Value.ref 56, Value.bool true, Value.int 181 0, Value.ref 57, Value.none, Value.none, Value.none, Value.ref 58, Value.int 270 0, Value.int 37 0, Value.str (Str.ofString "/claim/cut.py") 271] }
noncomputable def hd.o_99 (P : Params) : Obj := { cls := Value.type "function", data := Data.func { name := Str.ofString "covered", qualname := Str.ofString "covered", params := (fnPart hd.body 9).1, body := FuncBody.stmts (fnPart hd.body 9).2.1, scope := (fnPart hd.body 9).2.2, globals := 3, closure := [], defaults := Value.none, kwdefaults := Value.none, pyModule := Value.str (Str.ofString "quic.pieces") 235, code := Value.ref 59 } }
noncomputable def hd.o_100 (P : Params) : Obj := { cls := Value.type "tuple", data := Data.seq #[] }
noncomputable def hd.o_101 (P : Params) : Obj := { cls := Value.type "builtin_function_or_method", data := Data.fields #[Value.builtin "type.__prepare__", Value.type "type"] }
noncomputable def hd.o_102 (P : Params) : Obj := { cls := Value.type "dict", data := Data.dict #[{ hash := PyData.keyHash P (Str.ofString "__module__"), key := Value.str (Str.ofString "__module__") 284, val := Value.str (Str.ofString "quic.cryptostream") 273 }, { hash := PyData.keyHash P (Str.ofString "__qualname__"), key := Value.str (Str.ofString "__qualname__") 286, val := Value.str (Str.ofString "CryptoIn") 285 }, { hash := PyData.keyHash P (Str.ofString "__firstlineno__"), key := Value.str (Str.ofString "__firstlineno__") 288, val := Value.int 41 287 }, { hash := PyData.keyHash P (Str.ofString "__init__"), key := Value.str (Str.ofString "__init__") 296, val := Value.ref 74 }, { hash := PyData.keyHash P (Str.ofString "arrived"), key := Value.str (Str.ofString "arrived") 306, val := Value.ref 81 }, { hash := PyData.keyHash P (Str.ofString "has_waiting"), key := Value.str (Str.ofString "has_waiting") 313, val := Value.ref 88 }, { hash := PyData.keyHash P (Str.ofString "__static_attributes__"), key := Value.str (Str.ofString "__static_attributes__") 317, val := Value.ref 89 }] 7 }
noncomputable def hd.o_103 (P : Params) : Obj := { cls := Value.type "tuple", data := Data.seq #[] }
noncomputable def hd.o_104 (P : Params) : Obj := { cls := Value.none, data := Data.fields #[Value.int 43 0, Value.int 4 0, Value.ref 73, Value.int 48 0, Value.int 4 0, Value.ref 80, Value.int 60 0, Value.int 4 0, Value.ref 87] }
noncomputable def hd.o_105 (P : Params) : Obj := { cls := Value.type "code", data := Data.fields #[Value.str (Str.ofString "CryptoIn") 279, Value.str (Str.ofString "CryptoIn") 280, Value.str (Str.ofString "/claim/cut.py") 281, Value.int 41 0, Value.int 0 0, Value.int 0 0, Value.int 0 0, Value.int 0 0, Value.ref 64, Value.bool false, Value.int 181 0, Value.ref 65, Value.none, Value.none, Value.none, Value.none, Value.int 282 0, Value.int 41 0, Value.str (Str.ofString "/claim/cut.py") 283] }
noncomputable def hd.o_106 (P : Params) : Obj := { cls := Value.type "frame", slots := #[some (Value.ref 66), some (Value.ref 3), some (Value.ref 63), none, some (Value.str (Str.ofString "quic.cryptostream") 273), none, some (Value.ref 0)] }
noncomputable def hd.o_107 (P : Params) : Obj := { cls := Value.type "tuple", data := Data.seq #[] }
noncomputable def hd.o_108 (P : Params) : Obj := { cls := Value.none, data := Data.fields #[] }
noncomputable def hd.o_109 (P : Params) : Obj := { cls := Value.type "tuple", data := Data.seq #[Value.str (Str.ofString "self") 292, Value.str (Str.ofString "limit") 293] }
noncomputable def hd.o_110 (P : Params) : Obj := { cls := Value.type "tuple", data := Data.seq #[] }
noncomputable def hd.o_111 (P : Params) : Obj := { cls := Value.none, data := Data.func { name := Str.ofString "__init__", qualname := Str.ofString "CryptoIn.__init__", params := (fnPart (clsPart hd.body 12) 0).1, body := FuncBody.stmts (fnPart (clsPart hd.body 12) 0).2.1, scope := (fnPart (clsPart hd.body 12) 0).2.2, globals := 0, closure := [], defaults := Value.none, kwdefaults := Value.none } }
noncomputable def hd.o_112 (P : Params) : Obj := { cls := Value.type "code", data := Data.fields #[Value.str (Str.ofString "__init__") 289, Value.str (Str.ofString "CryptoIn.__init__") 290, Value.str (Str.ofString "/claim/cut.py") 291, Value.int 43 0, Value.int 2 0, Value.int 0 0, Value.int 0 0, Value.int 3 0, Value.ref 68, Value.bool true, Value.int 181 0, Value.ref 69, Value.none, Value.ref 70, Value.ref 71, Value.ref 72, Value.int 294 0, Value.int 43 0, Value.str (Str.ofString "/claim/cut.py") 295] }
noncomputable def hd.o_113 (P : Params) : Obj := { cls := Value.type "function", data := Data.func { name := Str.ofString "__init__", qualname := Str.ofString "CryptoIn.__init__", params := (fnPart (clsPart hd.body 12) 0).1, body := FuncBody.stmts (fnPart (clsPart hd.body 12) 0).2.1, scope := (fnPart (clsPart hd.body 12) 0).2.2, globals := 3, closure := [], defaults := Value.none, kwdefaults := Value.none, pyModule := Value.str (Str.ofString "quic.cryptostream") 273, code := Value.ref 73 } }
noncomputable def hd.o_114 (P : Params) : Obj := { cls := Value.type "tuple", data := Data.seq #[] }
noncomputable def hd.o_115 (P : Params) : Obj := { cls := Value.none, data := Data.fields #[] }
noncomputable def hd.o_116 (P : Params) : Obj := { cls := Value.type "tuple", data := Data.seq #[Value.str (Str.ofString "self") 300, Value.str (Str.ofString "offset") 301, Value.str (Str.ofString "data") 302, Value.str (Str.ofString "found") 303] }
noncomputable def hd.o_117 (P : Params) : Obj := { cls := Value.type "tuple", data := Data.seq #[] }
noncomputable def hd.o_118 (P : Params) : Obj := { cls := Value.none, data := Data.func { name := Str.ofString "arrived", qualname := Str.ofString "CryptoIn.arrived", params := (fnPart (clsPart hd.body 12) 1).1, body := FuncBody.stmts (fnPart (clsPart hd.body 12) 1).2.1, scope := (fnPart (clsPart hd.body 12) 1).2.2, globals := 0, closure := [], defaults := Value.none, kwdefaults := Value.none } }
noncomputable def hd.o_119 (P : Params) : Obj := { cls := Value.type "code", data := Data.fields #[Value.str (Str.ofString "arrived") 297, Value.str (Str.ofString "CryptoIn.arrived") 298, Value.str (Str.ofString "/claim/cut.py") 299, Value.int 48 0, Value.int 3 0, Value.int 0 0, Value.int 0 0, Value.int 3 0, Value.ref 75, Value.bool true, Value.int 181 0, Value.ref 76, Value.none, Value.ref 77, Value.ref 78, Value.ref 79, Value.int 304 0, Value.int 48 0, Value.str (Str.ofString "/claim/cut.py") 305] }
noncomputable def hd.o_120 (P : Params) : Obj := { cls := Value.type "function", data := Data.func { name := Str.ofString "arrived", qualname := Str.ofString "CryptoIn.arrived", params := (fnPart (clsPart hd.body 12) 1).1, body := FuncBody.stmts (fnPart (clsPart hd.body 12) 1).2.1, scope := (fnPart (clsPart hd.body 12) 1).2.2, globals := 3, closure := [], defaults := Value.none, kwdefaults := Value.none, pyModule := Value.str (Str.ofString "quic.cryptostream") 273, code := Value.ref 80 } }
noncomputable def hd.o_121 (P : Params) : Obj := { cls := Value.type "tuple", data := Data.seq #[] }
noncomputable def hd.o_122 (P : Params) : Obj := { cls := Value.none, data := Data.fields #[] }
noncomputable def hd.o_123 (P : Params) : Obj := { cls := Value.type "tuple", data := Data.seq #[Value.str (Str.ofString "self") 310] }
noncomputable def hd.o_124 (P : Params) : Obj := { cls := Value.type "tuple", data := Data.seq #[] }
noncomputable def hd.o_125 (P : Params) : Obj := { cls := Value.none, data := Data.func { name := Str.ofString "has_waiting", qualname := Str.ofString "CryptoIn.has_waiting", params := (fnPart (clsPart hd.body 12) 2).1, body := FuncBody.stmts (fnPart (clsPart hd.body 12) 2).2.1, scope := (fnPart (clsPart hd.body 12) 2).2.2, globals := 0, closure := [], defaults := Value.none, kwdefaults := Value.none } }
noncomputable def hd.o_126 (P : Params) : Obj := { cls := Value.type "code", data := Data.fields #[Value.str (Str.ofString "has_waiting") 307, Value.str (Str.ofString "CryptoIn.has_waiting") 308, Value.str (Str.ofString "/claim/cut.py") 309, Value.int 60 0, Value.int 1 0, Value.int 0 0, Value.int 0 0, Value.int 3 0, Value.ref 82, Value.bool true, Value.int 181 0, Value.ref 83, Value.none, Value.ref 84, Value.ref 85, Value.ref 86, Value.int 311 0, Value.int 60 0, Value.str (Str.ofString "/claim/cut.py") 312] }
noncomputable def hd.o_127 (P : Params) : Obj := { cls := Value.type "function", data := Data.func { name := Str.ofString "has_waiting", qualname := Str.ofString "CryptoIn.has_waiting", params := (fnPart (clsPart hd.body 12) 2).1, body := FuncBody.stmts (fnPart (clsPart hd.body 12) 2).2.1, scope := (fnPart (clsPart hd.body 12) 2).2.2, globals := 3, closure := [], defaults := Value.none, kwdefaults := Value.none, pyModule := Value.str (Str.ofString "quic.cryptostream") 273, code := Value.ref 87 } }
noncomputable def hd.o_128 (P : Params) : Obj := { cls := Value.type "tuple", data := Data.seq #[Value.str (Str.ofString "limit") 314, Value.str (Str.ofString "told") 315, Value.str (Str.ofString "waiting") 316] }
noncomputable def hd.o_129 (P : Params) : Obj := { cls := Value.type "dict", data := Data.dict #[{ hash := PyData.keyHash P (Str.ofString "__module__"), key := Value.str (Str.ofString "__module__") 284, val := Value.str (Str.ofString "quic.cryptostream") 273 }, { hash := PyData.keyHash P (Str.ofString "__firstlineno__"), key := Value.str (Str.ofString "__firstlineno__") 288, val := Value.int 41 287 }, { hash := PyData.keyHash P (Str.ofString "__init__"), key := Value.str (Str.ofString "__init__") 296, val := Value.ref 74 }, { hash := PyData.keyHash P (Str.ofString "arrived"), key := Value.str (Str.ofString "arrived") 306, val := Value.ref 81 }, { hash := PyData.keyHash P (Str.ofString "has_waiting"), key := Value.str (Str.ofString "has_waiting") 313, val := Value.ref 88 }, { hash := PyData.keyHash P (Str.ofString "__static_attributes__"), key := Value.str (Str.ofString "__static_attributes__") 317, val := Value.ref 89 }, { hash := PyData.keyHash P (Str.ofString "__dict__"), key := Value.str (Str.ofString "__dict__") 319, val := Value.ref 92 }, { hash := PyData.keyHash P (Str.ofString "__weakref__"), key := Value.str (Str.ofString "__weakref__") 321, val := Value.ref 93 }, { hash := PyData.keyHash P (Str.ofString "__doc__"), key := Value.str (Str.ofString "__doc__") 322, val := Value.none }] 4 }
noncomputable def hd.o_130 (P : Params) : Obj := { cls := Value.type "type", data := Data.cls { name := Str.ofString "CryptoIn", bases := [Value.type "object"], mro := [Value.ref 91, Value.type "object"], ns := 90, qualname := Str.ofString "CryptoIn" }, slots := #[none, none, some (Value.str (Str.ofString "CryptoIn") 277), some (Value.str (Str.ofString "CryptoIn") 285), some (Value.builtin "object.__new__"), some (Value.bool true)] }
noncomputable def hd.o_131 (P : Params) : Obj := { cls := Value.type "getset_descriptor", data := Data.fields #[Value.str (Str.ofString "__dict__") 318, Value.ref 91, Value.builtin "function.__dict__", Value.builtin "function.__dict__#set"] }
noncomputable def hd.o_132 (P : Params) : Obj := { cls := Value.type "getset_descriptor", data := Data.fields #[Value.str (Str.ofString "__weakref__") 320, Value.ref 91, Value.builtin "ExceptionGroup.__weakref__", Value.none] }
noncomputable def hd.o_133 (P : Params) : Obj := { cls := Value.type "super", data := Data.fields #[Value.ref 91, Value.ref 91, Value.ref 91] }
noncomputable def hd.o_134 (P : Params) : Obj := { cls := Value.type "builtin_function_or_method", data := Data.fields #[Value.builtin "object.__init_subclass__", Value.ref 91] }
noncomputable def hd.o_135 (P : Params) : Obj := { cls := Value.type "tuple", data := Data.seq #[] }
noncomputable def hd.o_136 (P : Params) : Obj := { cls := Value.none, data := Data.fields #[] }
noncomputable def hd.o_137 (P : Params) : Obj := { cls := Value.type "tuple", data := Data.seq #[Value.str (Str.ofString "spans") 330, Value.str (Str.ofString "low") 331, Value.str (Str.ofString "high") 332, Value.str (Str.ofString "one") 333, Value.str (Str.ofString "other") 334] }
noncomputable def hd.o_138 (P : Params) : Obj := { cls := Value.type "tuple", data := Data.seq #[] }
noncomputable def hd.o_139 (P : Params) : Obj := { cls := Value.none, data := Data.func { name := Str.ofString "has_span", qualname := Str.ofString "has_span", params := (fnPart hd.body 14).1, body := FuncBody.stmts (fnPart hd.body 14).2.1, scope := (fnPart hd.body 14).2.2, globals := 0, closure := [], defaults := Value.none, kwdefaults := Value.none } }
noncomputable def hd.o_140 (P : Params) : Obj := { cls := Value.type "code", data := Data.fields #[Value.str (Str.ofString "has_span") 327, Value.str (Str.ofString "has_span") 328, Value.str (Str.ofString "/claim/cut.py") 329, Value.int 63 0, Value.int 3 0, Value.int 0 0, Value.int 0 0, Value.int 3 0, Value.ref 96, Value.bool true, Value.int 181 0, Value.ref 97, Value.none, Value.ref 98, Value.ref 99, Value.ref 100, Value.int 335 0, Value.int 63 0, Value.str (Str.ofString "/claim/cut.py") 336] }
noncomputable def hd.o_141 (P : Params) : Obj := { cls := Value.type "function", data := Data.func { name := Str.ofString "has_span", qualname := Str.ofString "has_span", params := (fnPart hd.body 14).1, body := FuncBody.stmts (fnPart hd.body 14).2.1, scope := (fnPart hd.body 14).2.2, globals := 3, closure := [], defaults := Value.none, kwdefaults := Value.none, pyModule := Value.str (Str.ofString "quic.spans") 325, code := Value.ref 101 } }
noncomputable def hd.o_142 (P : Params) : Obj := { cls := Value.type "dict", data := Data.dict #[{ hash := PyData.keyHash P (Str.ofString "__name__"), key := Value.str (Str.ofString "__name__") 165, val := Value.str (Str.ofString "quic.recvpart") 338 }, { hash := PyData.keyHash P (Str.ofString "__doc__"), key := Value.str (Str.ofString "__doc__") 166, val := Value.none }, { hash := PyData.keyHash P (Str.ofString "__package__"), key := Value.str (Str.ofString "__package__") 167, val := Value.none }, { hash := PyData.keyHash P (Str.ofString "__loader__"), key := Value.str (Str.ofString "__loader__") 168, val := Value.builtin "__main__.__loader__#opaque" }, { hash := PyData.keyHash P (Str.ofString "__spec__"), key := Value.str (Str.ofString "__spec__") 169, val := Value.none }, { hash := PyData.keyHash P (Str.ofString "__annotations__"), key := Value.str (Str.ofString "__annotations__") 170, val := Value.ref 6 }, { hash := PyData.keyHash P (Str.ofString "__builtins__"), key := Value.str (Str.ofString "__builtins__") 171, val := Value.ref 4 }, { hash := PyData.keyHash P (Str.ofString "__file__"), key := Value.str (Str.ofString "__file__") 173, val := Value.str (Str.ofString "/claim/cut.py") 172 }, { hash := PyData.keyHash P (Str.ofString "__cached__"), key := Value.str (Str.ofString "__cached__") 174, val := Value.none }, { hash := PyData.keyHash P (Str.ofString "_wall"), key := Value.str (Str.ofString "_wall") 193, val := Value.ref 21 }, { hash := PyData.keyHash P (Str.ofString "FLOW_CONTROL_ERROR"), key := Value.str (Str.ofString "FLOW_CONTROL_ERROR") 197, val := Value.int 3 196 }, { hash := PyData.keyHash P (Str.ofString "FINAL_SIZE_ERROR"), key := Value.str (Str.ofString "FINAL_SIZE_ERROR") 199, val := Value.int 6 198 }, { hash := PyData.keyHash P (Str.ofString "CRYPTO_BUFFER_EXCEEDED"), key := Value.str (Str.ofString "CRYPTO_BUFFER_EXCEEDED") 201, val := Value.int 13 200 }, { hash := PyData.keyHash P (Str.ofString "QuicError"), key := Value.str (Str.ofString "QuicError") 234, val := Value.ref 38 }, { hash := PyData.keyHash P (Str.ofString "add_piece"), key := Value.str (Str.ofString "add_piece") 254, val := Value.ref 48 }, { hash := PyData.keyHash P (Str.ofString "taken_from"), key := Value.str (Str.ofString "taken_from") 266, val := Value.ref 55 }, { hash := PyData.keyHash P (Str.ofString "covered"), key := Value.str (Str.ofString "covered") 272, val := Value.ref 60 }, { hash := PyData.keyHash P (Str.ofString "CRYPTO_FRAME"), key := Value.str (Str.ofString "CRYPTO_FRAME") 276, val := Value.int 6 275 }, { hash := PyData.keyHash P (Str.ofString "CryptoIn"), key := Value.str (Str.ofString "CryptoIn") 324, val := Value.ref 91 }, { hash := PyData.keyHash P (Str.ofString "has_span"), key := Value.str (Str.ofString "has_span") 337, val := Value.ref 102 }, { hash := PyData.keyHash P (Str.ofString "RECEIVING"), key := Value.str (Str.ofString "RECEIVING") 341, val := Value.str (Str.ofString "recv") 340 }, { hash := PyData.keyHash P (Str.ofString "SIZE_KNOWN"), key := Value.str (Str.ofString "SIZE_KNOWN") 343, val := Value.str (Str.ofString "size_known") 342 }, { hash := PyData.keyHash P (Str.ofString "DATA_RECEIVED"), key := Value.str (Str.ofString "DATA_RECEIVED") 345, val := Value.str (Str.ofString "data_recvd") 344 }, { hash := PyData.keyHash P (Str.ofString "DATA_READ"), key := Value.str (Str.ofString "DATA_READ") 347, val := Value.str (Str.ofString "data_read") 346 }, { hash := PyData.keyHash P (Str.ofString "RESET_RECEIVED"), key := Value.str (Str.ofString "RESET_RECEIVED") 349, val := Value.str (Str.ofString "reset_recvd") 348 }, { hash := PyData.keyHash P (Str.ofString "RESET_READ"), key := Value.str (Str.ofString "RESET_READ") 351, val := Value.str (Str.ofString "reset_read") 350 }, { hash := PyData.keyHash P (Str.ofString "FRAME_STREAM"), key := Value.str (Str.ofString "FRAME_STREAM") 353, val := Value.int 8 352 }] 27 }
noncomputable def hd.o_144 (P : Params) : Obj := { cls := Value.type "dict", data := Data.dict #[{ hash := PyData.keyHash P (Str.ofString "__name__"), key := Value.str (Str.ofString "__name__") 165, val := Value.str (Str.ofString "quic.recvpart") 338 }, { hash := PyData.keyHash P (Str.ofString "__doc__"), key := Value.str (Str.ofString "__doc__") 166, val := Value.none }, { hash := PyData.keyHash P (Str.ofString "__package__"), key := Value.str (Str.ofString "__package__") 167, val := Value.none }, { hash := PyData.keyHash P (Str.ofString "__loader__"), key := Value.str (Str.ofString "__loader__") 168, val := Value.builtin "__main__.__loader__#opaque" }, { hash := PyData.keyHash P (Str.ofString "__spec__"), key := Value.str (Str.ofString "__spec__") 169, val := Value.none }, { hash := PyData.keyHash P (Str.ofString "__annotations__"), key := Value.str (Str.ofString "__annotations__") 170, val := Value.ref 6 }, { hash := PyData.keyHash P (Str.ofString "__builtins__"), key := Value.str (Str.ofString "__builtins__") 171, val := Value.ref 4 }, { hash := PyData.keyHash P (Str.ofString "__file__"), key := Value.str (Str.ofString "__file__") 173, val := Value.str (Str.ofString "/claim/cut.py") 172 }, { hash := PyData.keyHash P (Str.ofString "__cached__"), key := Value.str (Str.ofString "__cached__") 174, val := Value.none }, { hash := PyData.keyHash P (Str.ofString "_wall"), key := Value.str (Str.ofString "_wall") 193, val := Value.ref 21 }, { hash := PyData.keyHash P (Str.ofString "FLOW_CONTROL_ERROR"), key := Value.str (Str.ofString "FLOW_CONTROL_ERROR") 197, val := Value.int 3 196 }, { hash := PyData.keyHash P (Str.ofString "FINAL_SIZE_ERROR"), key := Value.str (Str.ofString "FINAL_SIZE_ERROR") 199, val := Value.int 6 198 }, { hash := PyData.keyHash P (Str.ofString "CRYPTO_BUFFER_EXCEEDED"), key := Value.str (Str.ofString "CRYPTO_BUFFER_EXCEEDED") 201, val := Value.int 13 200 }, { hash := PyData.keyHash P (Str.ofString "QuicError"), key := Value.str (Str.ofString "QuicError") 234, val := Value.ref 38 }, { hash := PyData.keyHash P (Str.ofString "add_piece"), key := Value.str (Str.ofString "add_piece") 254, val := Value.ref 48 }, { hash := PyData.keyHash P (Str.ofString "taken_from"), key := Value.str (Str.ofString "taken_from") 266, val := Value.ref 55 }, { hash := PyData.keyHash P (Str.ofString "covered"), key := Value.str (Str.ofString "covered") 272, val := Value.ref 60 }, { hash := PyData.keyHash P (Str.ofString "CRYPTO_FRAME"), key := Value.str (Str.ofString "CRYPTO_FRAME") 276, val := Value.int 6 275 }, { hash := PyData.keyHash P (Str.ofString "CryptoIn"), key := Value.str (Str.ofString "CryptoIn") 324, val := Value.ref 91 }, { hash := PyData.keyHash P (Str.ofString "has_span"), key := Value.str (Str.ofString "has_span") 337, val := Value.ref 102 }, { hash := PyData.keyHash P (Str.ofString "RECEIVING"), key := Value.str (Str.ofString "RECEIVING") 341, val := Value.str (Str.ofString "recv") 340 }, { hash := PyData.keyHash P (Str.ofString "SIZE_KNOWN"), key := Value.str (Str.ofString "SIZE_KNOWN") 343, val := Value.str (Str.ofString "size_known") 342 }, { hash := PyData.keyHash P (Str.ofString "DATA_RECEIVED"), key := Value.str (Str.ofString "DATA_RECEIVED") 345, val := Value.str (Str.ofString "data_recvd") 344 }, { hash := PyData.keyHash P (Str.ofString "DATA_READ"), key := Value.str (Str.ofString "DATA_READ") 347, val := Value.str (Str.ofString "data_read") 346 }, { hash := PyData.keyHash P (Str.ofString "RESET_RECEIVED"), key := Value.str (Str.ofString "RESET_RECEIVED") 349, val := Value.str (Str.ofString "reset_recvd") 348 }, { hash := PyData.keyHash P (Str.ofString "RESET_READ"), key := Value.str (Str.ofString "RESET_READ") 351, val := Value.str (Str.ofString "reset_read") 350 }, { hash := PyData.keyHash P (Str.ofString "FRAME_STREAM"), key := Value.str (Str.ofString "FRAME_STREAM") 353, val := Value.int 8 352 }, { hash := PyData.keyHash P (Str.ofString "RecvPart"), key := Value.str (Str.ofString "RecvPart") 476, val := Value.ref 189 }] 28 }
noncomputable def hd.o_145 (P : Params) : Obj := { cls := Value.none, data := Data.fields #[Value.int 1 0, Value.int 0 0, Value.ref 20, Value.int 8 0, Value.int 0 0, Value.ref 27, Value.int 16 0, Value.int 0 0, Value.ref 47, Value.int 29 0, Value.int 0 0, Value.ref 54, Value.int 37 0, Value.int 0 0, Value.ref 59, Value.int 41 0, Value.int 0 0, Value.ref 66, Value.int 63 0, Value.int 0 0, Value.ref 101, Value.int 78 0, Value.int 0 0, Value.ref 108] }
noncomputable def hd.o_146 (P : Params) : Obj := { cls := Value.type "tuple", data := Data.seq #[] }
noncomputable def hd.o_147 (P : Params) : Obj := { cls := Value.type "builtin_function_or_method", data := Data.fields #[Value.builtin "type.__prepare__", Value.type "type"] }
noncomputable def hd.o_148 (P : Params) : Obj := { cls := Value.type "dict", data := Data.dict #[{ hash := PyData.keyHash P (Str.ofString "__module__"), key := Value.str (Str.ofString "__module__") 361, val := Value.str (Str.ofString "quic.recvpart") 338 }, { hash := PyData.keyHash P (Str.ofString "__qualname__"), key := Value.str (Str.ofString "__qualname__") 363, val := Value.str (Str.ofString "RecvPart") 362 }, { hash := PyData.keyHash P (Str.ofString "__firstlineno__"), key := Value.str (Str.ofString "__firstlineno__") 365, val := Value.int 78 364 }, { hash := PyData.keyHash P (Str.ofString "__init__"), key := Value.str (Str.ofString "__init__") 373, val := Value.ref 116 }, { hash := PyData.keyHash P (Str.ofString "check_end"), key := Value.str (Str.ofString "check_end") 383, val := Value.ref 123 }, { hash := PyData.keyHash P (Str.ofString "grown"), key := Value.str (Str.ofString "grown") 392, val := Value.ref 130 }, { hash := PyData.keyHash P (Str.ofString "on_stream"), key := Value.str (Str.ofString "on_stream") 404, val := Value.ref 137 }, { hash := PyData.keyHash P (Str.ofString "has_all"), key := Value.str (Str.ofString "has_all") 411, val := Value.ref 144 }, { hash := PyData.keyHash P (Str.ofString "on_reset"), key := Value.str (Str.ofString "on_reset") 420, val := Value.ref 151 }, { hash := PyData.keyHash P (Str.ofString "read"), key := Value.str (Str.ofString "read") 430, val := Value.ref 158 }, { hash := PyData.keyHash P (Str.ofString "stop"), key := Value.str (Str.ofString "stop") 438, val := Value.ref 165 }, { hash := PyData.keyHash P (Str.ofString "raise_limit"), key := Value.str (Str.ofString "raise_limit") 446, val := Value.ref 172 }, { hash := PyData.keyHash P (Str.ofString "used_to"), key := Value.str (Str.ofString "used_to") 453, val := Value.ref 179 }, { hash := PyData.keyHash P (Str.ofString "is_over"), key := Value.str (Str.ofString "is_over") 460, val := Value.ref 186 }, { hash := PyData.keyHash P (Str.ofString "__static_attributes__"), key := Value.str (Str.ofString "__static_attributes__") 469, val := Value.ref 187 }] 15 }
noncomputable def hd.o_149 (P : Params) : Obj := { cls := Value.type "tuple", data := Data.seq #[] }
noncomputable def hd.o_150 (P : Params) : Obj := { cls := Value.none, data := Data.fields #[Value.int 80 0, Value.int 4 0, Value.ref 115, Value.int 90 0, Value.int 4 0, Value.ref 122, Value.int 99 0, Value.int 4 0, Value.ref 129, Value.int 104 0, Value.int 4 0, Value.ref 136, Value.int 120 0, Value.int 4 0, Value.ref 143, Value.int 123 0, Value.int 4 0, Value.ref 150, Value.int 126 0, Value.int 4 0, Value.ref 157, Value.int 141 0, Value.int 4 0, Value.ref 164, Value.int 144 0, Value.int 4 0, Value.ref 171, Value.int 147 0, Value.int 4 0, Value.ref 178, Value.int 152 0, Value.int 4 0, Value.ref 185] }
noncomputable def hd.o_151 (P : Params) : Obj := { cls := Value.type "code", data := Data.fields #[Value.str (Str.ofString "RecvPart") 356, Value.str (Str.ofString "RecvPart") 357, Value.str (Str.ofString "/claim/cut.py") 358, Value.int 78 0, Value.int 0 0, Value.int 0 0, Value.int 0 0, Value.int 0 0, Value.ref 106, Value.bool false, Value.int 181 0, Value.ref 107, Value.none, Value.none, Value.none, Value.none, Value.int 359 0, Value.int 78 0, Value.str (Str.ofString "/claim/cut.py") 360] }
noncomputable def hd.o_152 (P : Params) : Obj := { cls := Value.type "frame", slots := #[some (Value.ref 108), some (Value.ref 3), some (Value.ref 105), none, some (Value.str (Str.ofString "quic.recvpart") 338), none, some (Value.ref 0)] }
noncomputable def hd.o_153 (P : Params) : Obj := { cls := Value.type "tuple", data := Data.seq #[] }
noncomputable def hd.o_154 (P : Params) : Obj := { cls := Value.none, data := Data.fields #[] }
noncomputable def hd.o_155 (P : Params) : Obj := { cls := Value.type "tuple", data := Data.seq #[Value.str (Str.ofString "self") 369, Value.str (Str.ofString "limit") 370] }
noncomputable def hd.o_156 (P : Params) : Obj := { cls := Value.type "tuple", data := Data.seq #[] }
noncomputable def hd.o_157 (P : Params) : Obj := { cls := Value.none, data := Data.func { name := Str.ofString "__init__", qualname := Str.ofString "RecvPart.__init__", params := (fnPart (clsPart hd.body 23) 0).1, body := FuncBody.stmts (fnPart (clsPart hd.body 23) 0).2.1, scope := (fnPart (clsPart hd.body 23) 0).2.2, globals := 0, closure := [], defaults := Value.none, kwdefaults := Value.none } }
noncomputable def hd.o_158 (P : Params) : Obj := { cls := Value.type "code", data := Data.fields #[Value.str (Str.ofString "__init__") 366, Value.str (Str.ofString "RecvPart.__init__") 367, Value.str (Str.ofString "/claim/cut.py") 368, Value.int 80 0, Value.int 2 0, Value.int 0 0, Value.int 0 0, Value.int 3 0, Value.ref 110, Value.bool true, Value.int 181 0, Value.ref 111, Value.none, Value.ref 112, Value.ref 113, Value.ref 114, Value.int 371 0, Value.int 80 0, Value.str (Str.ofString "/claim/cut.py") 372] }
noncomputable def hd.o_159 (P : Params) : Obj := { cls := Value.type "function", data := Data.func { name := Str.ofString "__init__", qualname := Str.ofString "RecvPart.__init__", params := (fnPart (clsPart hd.body 23) 0).1, body := FuncBody.stmts (fnPart (clsPart hd.body 23) 0).2.1, scope := (fnPart (clsPart hd.body 23) 0).2.2, globals := 3, closure := [], defaults := Value.none, kwdefaults := Value.none, pyModule := Value.str (Str.ofString "quic.recvpart") 338, code := Value.ref 115 } }
noncomputable def hd.o_160 (P : Params) : Obj := { cls := Value.type "tuple", data := Data.seq #[] }
noncomputable def hd.o_161 (P : Params) : Obj := { cls := Value.none, data := Data.fields #[] }
noncomputable def hd.o_162 (P : Params) : Obj := { cls := Value.type "tuple", data := Data.seq #[Value.str (Str.ofString "self") 377, Value.str (Str.ofString "end") 378, Value.str (Str.ofString "is_final") 379, Value.str (Str.ofString "frame_type") 380] }
noncomputable def hd.o_163 (P : Params) : Obj := { cls := Value.type "tuple", data := Data.seq #[] }
noncomputable def hd.o_164 (P : Params) : Obj := { cls := Value.none, data := Data.func { name := Str.ofString "check_end", qualname := Str.ofString "RecvPart.check_end", params := (fnPart (clsPart hd.body 23) 1).1, body := FuncBody.stmts (fnPart (clsPart hd.body 23) 1).2.1, scope := (fnPart (clsPart hd.body 23) 1).2.2, globals := 0, closure := [], defaults := Value.none, kwdefaults := Value.none } }
noncomputable def hd.o_165 (P : Params) : Obj := { cls := Value.type "code", data := Data.fields #[Value.str (Str.ofString "check_end") 374, Value.str (Str.ofString "RecvPart.check_end") 375, Value.str (Str.ofString "/claim/cut.py") 376, Value.int 90 0, Value.int 4 0, Value.int 0 0, Value.int 0 0, Value.int 3 0, Value.ref 117, Value.bool true, Value.int 181 0, Value.ref 118, Value.none, Value.ref 119, Value.ref 120, Value.ref 121, Value.int 381 0, Value.int 90 0, Value.str (Str.ofString "/claim/cut.py") 382] }
noncomputable def hd.o_166 (P : Params) : Obj := { cls := Value.type "function", data := Data.func { name := Str.ofString "check_end", qualname := Str.ofString "RecvPart.check_end", params := (fnPart (clsPart hd.body 23) 1).1, body := FuncBody.stmts (fnPart (clsPart hd.body 23) 1).2.1, scope := (fnPart (clsPart hd.body 23) 1).2.2, globals := 3, closure := [], defaults := Value.none, kwdefaults := Value.none, pyModule := Value.str (Str.ofString "quic.recvpart") 338, code := Value.ref 122 } }
noncomputable def hd.o_167 (P : Params) : Obj := { cls := Value.type "tuple", data := Data.seq #[] }
noncomputable def hd.o_168 (P : Params) : Obj := { cls := Value.none, data := Data.fields #[] }
noncomputable def hd.o_169 (P : Params) : Obj := { cls := Value.type "tuple", data := Data.seq #[Value.str (Str.ofString "self") 387, Value.str (Str.ofString "end") 388, Value.str (Str.ofString "more") 389] }
noncomputable def hd.o_170 (P : Params) : Obj := { cls := Value.type "tuple", data := Data.seq #[] }
noncomputable def hd.o_171 (P : Params) : Obj := { cls := Value.none, data := Data.func { name := Str.ofString "grown", qualname := Str.ofString "RecvPart.grown", params := (fnPart (clsPart hd.body 23) 2).1, body := FuncBody.stmts (fnPart (clsPart hd.body 23) 2).2.1, scope := (fnPart (clsPart hd.body 23) 2).2.2, globals := 0, closure := [], defaults := Value.none, kwdefaults := Value.none } }
noncomputable def hd.o_172 (P : Params) : Obj := { cls := Value.type "code", data := Data.fields #[Value.str (Str.ofString "grown") 384, Value.str (Str.ofString "RecvPart.grown") 385, Value.str (Str.ofString "/claim/cut.py") 386, Value.int 99 0, Value.int 2 0, Value.int 0 0, Value.int 0 0, Value.int 3 0, Value.ref 124, Value.bool true, Value.int 181 0, Value.ref 125, Value.none, Value.ref 126, Value.ref 127, Value.ref 128, Value.int 390 0, Value.int 99 0, Value.str (Str.ofString "/claim/cut.py") 391] }
noncomputable def hd.o_173 (P : Params) : Obj := { cls := Value.type "function", data := Data.func { name := Str.ofString "grown", qualname := Str.ofString "RecvPart.grown", params := (fnPart (clsPart hd.body 23) 2).1, body := FuncBody.stmts (fnPart (clsPart hd.body 23) 2).2.1, scope := (fnPart (clsPart hd.body 23) 2).2.2, globals := 3, closure := [], defaults := Value.none, kwdefaults := Value.none, pyModule := Value.str (Str.ofString "quic.recvpart") 338, code := Value.ref 129 } }
noncomputable def hd.o_174 (P : Params) : Obj := { cls := Value.type "tuple", data := Data.seq #[] }
noncomputable def hd.o_175 (P : Params) : Obj := { cls := Value.none, data := Data.fields #[] }
noncomputable def hd.o_176 (P : Params) : Obj := { cls := Value.type "tuple", data := Data.seq #[Value.str (Str.ofString "self") 396, Value.str (Str.ofString "offset") 397, Value.str (Str.ofString "data") 398, Value.str (Str.ofString "is_end") 399, Value.str (Str.ofString "end") 400, Value.str (Str.ofString "more") 401] }
noncomputable def hd.o_177 (P : Params) : Obj := { cls := Value.type "tuple", data := Data.seq #[] }
noncomputable def hd.o_178 (P : Params) : Obj := { cls := Value.none, data := Data.func { name := Str.ofString "on_stream", qualname := Str.ofString "RecvPart.on_stream", params := (fnPart (clsPart hd.body 23) 3).1, body := FuncBody.stmts (fnPart (clsPart hd.body 23) 3).2.1, scope := (fnPart (clsPart hd.body 23) 3).2.2, globals := 0, closure := [], defaults := Value.none, kwdefaults := Value.none } }
noncomputable def hd.o_179 (P : Params) : Obj := { cls := Value.type "code", data := Data.fields #[Value.str (Str.ofString "on_stream") 393, Value.str (Str.ofString "RecvPart.on_stream") 394, Value.str (Str.ofString "/claim/cut.py") 395, Value.int 104 0, Value.int 4 0, Value.int 0 0, Value.int 0 0, Value.int 3 0, Value.ref 131, Value.bool true, Value.int 181 0, Value.ref 132, Value.none, Value.ref 133, Value.ref 134, Value.ref 135, Value.int 402 0, Value.int 104 0, Value.str (Str.ofString "/claim/cut.py") 403] }
noncomputable def hd.o_180 (P : Params) : Obj := { cls := Value.type "function", data := Data.func { name := Str.ofString "on_stream", qualname := Str.ofString "RecvPart.on_stream", params := (fnPart (clsPart hd.body 23) 3).1, body := FuncBody.stmts (fnPart (clsPart hd.body 23) 3).2.1, scope := (fnPart (clsPart hd.body 23) 3).2.2, globals := 3, closure := [], defaults := Value.none, kwdefaults := Value.none, pyModule := Value.str (Str.ofString "quic.recvpart") 338, code := Value.ref 136 } }
noncomputable def hd.o_181 (P : Params) : Obj := { cls := Value.type "tuple", data := Data.seq #[] }
noncomputable def hd.o_182 (P : Params) : Obj := { cls := Value.none, data := Data.fields #[] }
noncomputable def hd.o_183 (P : Params) : Obj := { cls := Value.type "tuple", data := Data.seq #[Value.str (Str.ofString "self") 408] }
noncomputable def hd.o_184 (P : Params) : Obj := { cls := Value.type "tuple", data := Data.seq #[] }
noncomputable def hd.o_185 (P : Params) : Obj := { cls := Value.none, data := Data.func { name := Str.ofString "has_all", qualname := Str.ofString "RecvPart.has_all", params := (fnPart (clsPart hd.body 23) 4).1, body := FuncBody.stmts (fnPart (clsPart hd.body 23) 4).2.1, scope := (fnPart (clsPart hd.body 23) 4).2.2, globals := 0, closure := [], defaults := Value.none, kwdefaults := Value.none } }
noncomputable def hd.o_186 (P : Params) : Obj := { cls := Value.type "code", data := Data.fields #[Value.str (Str.ofString "has_all") 405, Value.str (Str.ofString "RecvPart.has_all") 406, Value.str (Str.ofString "/claim/cut.py") 407, Value.int 120 0, Value.int 1 0, Value.int 0 0, Value.int 0 0, Value.int 3 0, Value.ref 138, Value.bool true, Value.int 181 0, Value.ref 139, Value.none, Value.ref 140, Value.ref 141, Value.ref 142, Value.int 409 0, Value.int 120 0, Value.str (Str.ofString "/claim/cut.py") 410] }
noncomputable def hd.o_187 (P : Params) : Obj := { cls := Value.type "function", data := Data.func { name := Str.ofString "has_all", qualname := Str.ofString "RecvPart.has_all", params := (fnPart (clsPart hd.body 23) 4).1, body := FuncBody.stmts (fnPart (clsPart hd.body 23) 4).2.1, scope := (fnPart (clsPart hd.body 23) 4).2.2, globals := 3, closure := [], defaults := Value.none, kwdefaults := Value.none, pyModule := Value.str (Str.ofString "quic.recvpart") 338, code := Value.ref 143 } }
noncomputable def hd.o_188 (P : Params) : Obj := { cls := Value.type "tuple", data := Data.seq #[] }
noncomputable def hd.o_189 (P : Params) : Obj := { cls := Value.none, data := Data.fields #[] }
noncomputable def hd.o_190 (P : Params) : Obj := { cls := Value.type "tuple", data := Data.seq #[Value.str (Str.ofString "self") 415, Value.str (Str.ofString "code") 416, Value.str (Str.ofString "final_size") 417] }
noncomputable def hd.o_191 (P : Params) : Obj := { cls := Value.type "tuple", data := Data.seq #[] }
noncomputable def hd.o_192 (P : Params) : Obj := { cls := Value.none, data := Data.func { name := Str.ofString "on_reset", qualname := Str.ofString "RecvPart.on_reset", params := (fnPart (clsPart hd.body 23) 5).1, body := FuncBody.stmts (fnPart (clsPart hd.body 23) 5).2.1, scope := (fnPart (clsPart hd.body 23) 5).2.2, globals := 0, closure := [], defaults := Value.none, kwdefaults := Value.none } }
noncomputable def hd.o_193 (P : Params) : Obj := { cls := Value.type "code", data := Data.fields #[Value.str (Str.ofString "on_reset") 412, Value.str (Str.ofString "RecvPart.on_reset") 413, Value.str (Str.ofString "/claim/cut.py") 414, Value.int 123 0, Value.int 3 0, Value.int 0 0, Value.int 0 0, Value.int 3 0, Value.ref 145, Value.bool true, Value.int 181 0, Value.ref 146, Value.none, Value.ref 147, Value.ref 148, Value.ref 149, Value.int 418 0, Value.int 123 0, Value.str (Str.ofString "/claim/cut.py") 419] }
noncomputable def hd.o_194 (P : Params) : Obj := { cls := Value.type "function", data := Data.func { name := Str.ofString "on_reset", qualname := Str.ofString "RecvPart.on_reset", params := (fnPart (clsPart hd.body 23) 5).1, body := FuncBody.stmts (fnPart (clsPart hd.body 23) 5).2.1, scope := (fnPart (clsPart hd.body 23) 5).2.2, globals := 3, closure := [], defaults := Value.none, kwdefaults := Value.none, pyModule := Value.str (Str.ofString "quic.recvpart") 338, code := Value.ref 150 } }
noncomputable def hd.o_195 (P : Params) : Obj := { cls := Value.type "tuple", data := Data.seq #[] }
noncomputable def hd.o_196 (P : Params) : Obj := { cls := Value.none, data := Data.fields #[] }
noncomputable def hd.o_197 (P : Params) : Obj := { cls := Value.type "tuple", data := Data.seq #[Value.str (Str.ofString "self") 424, Value.str (Str.ofString "most") 425, Value.str (Str.ofString "found") 426, Value.str (Str.ofString "left") 427] }
noncomputable def hd.o_198 (P : Params) : Obj := { cls := Value.type "tuple", data := Data.seq #[] }
noncomputable def hd.o_199 (P : Params) : Obj := { cls := Value.none, data := Data.func { name := Str.ofString "read", qualname := Str.ofString "RecvPart.read", params := (fnPart (clsPart hd.body 23) 6).1, body := FuncBody.stmts (fnPart (clsPart hd.body 23) 6).2.1, scope := (fnPart (clsPart hd.body 23) 6).2.2, globals := 0, closure := [], defaults := Value.none, kwdefaults := Value.none } }
noncomputable def hd.o_200 (P : Params) : Obj := { cls := Value.type "code", data := Data.fields #[Value.str (Str.ofString "read") 421, Value.str (Str.ofString "RecvPart.read") 422, Value.str (Str.ofString "/claim/cut.py") 423, Value.int 126 0, Value.int 2 0, Value.int 0 0, Value.int 0 0, Value.int 3 0, Value.ref 152, Value.bool true, Value.int 181 0, Value.ref 153, Value.none, Value.ref 154, Value.ref 155, Value.ref 156, Value.int 428 0, Value.int 126 0, Value.str (Str.ofString "/claim/cut.py") 429] }
noncomputable def hd.o_201 (P : Params) : Obj := { cls := Value.type "function", data := Data.func { name := Str.ofString "read", qualname := Str.ofString "RecvPart.read", params := (fnPart (clsPart hd.body 23) 6).1, body := FuncBody.stmts (fnPart (clsPart hd.body 23) 6).2.1, scope := (fnPart (clsPart hd.body 23) 6).2.2, globals := 3, closure := [], defaults := Value.none, kwdefaults := Value.none, pyModule := Value.str (Str.ofString "quic.recvpart") 338, code := Value.ref 157 } }
noncomputable def hd.o_202 (P : Params) : Obj := { cls := Value.type "tuple", data := Data.seq #[] }
noncomputable def hd.o_203 (P : Params) : Obj := { cls := Value.none, data := Data.fields #[] }
noncomputable def hd.o_204 (P : Params) : Obj := { cls := Value.type "tuple", data := Data.seq #[Value.str (Str.ofString "self") 434, Value.str (Str.ofString "code") 435] }
noncomputable def hd.o_205 (P : Params) : Obj := { cls := Value.type "tuple", data := Data.seq #[] }
noncomputable def hd.o_206 (P : Params) : Obj := { cls := Value.none, data := Data.func { name := Str.ofString "stop", qualname := Str.ofString "RecvPart.stop", params := (fnPart (clsPart hd.body 23) 7).1, body := FuncBody.stmts (fnPart (clsPart hd.body 23) 7).2.1, scope := (fnPart (clsPart hd.body 23) 7).2.2, globals := 0, closure := [], defaults := Value.none, kwdefaults := Value.none } }
noncomputable def hd.o_207 (P : Params) : Obj := { cls := Value.type "code", data := Data.fields #[Value.str (Str.ofString "stop") 431, Value.str (Str.ofString "RecvPart.stop") 432, Value.str (Str.ofString "/claim/cut.py") 433, Value.int 141 0, Value.int 2 0, Value.int 0 0, Value.int 0 0, Value.int 3 0, Value.ref 159, Value.bool true, Value.int 181 0, Value.ref 160, Value.none, Value.ref 161, Value.ref 162, Value.ref 163, Value.int 436 0, Value.int 141 0, Value.str (Str.ofString "/claim/cut.py") 437] }
noncomputable def hd.o_208 (P : Params) : Obj := { cls := Value.type "function", data := Data.func { name := Str.ofString "stop", qualname := Str.ofString "RecvPart.stop", params := (fnPart (clsPart hd.body 23) 7).1, body := FuncBody.stmts (fnPart (clsPart hd.body 23) 7).2.1, scope := (fnPart (clsPart hd.body 23) 7).2.2, globals := 3, closure := [], defaults := Value.none, kwdefaults := Value.none, pyModule := Value.str (Str.ofString "quic.recvpart") 338, code := Value.ref 164 } }
noncomputable def hd.o_209 (P : Params) : Obj := { cls := Value.type "tuple", data := Data.seq #[] }
noncomputable def hd.o_210 (P : Params) : Obj := { cls := Value.none, data := Data.fields #[] }
noncomputable def hd.o_211 (P : Params) : Obj := { cls := Value.type "tuple", data := Data.seq #[Value.str (Str.ofString "self") 442, Value.str (Str.ofString "limit") 443] }
noncomputable def hd.o_212 (P : Params) : Obj := { cls := Value.type "tuple", data := Data.seq #[] }
noncomputable def hd.o_213 (P : Params) : Obj := { cls := Value.none, data := Data.func { name := Str.ofString "raise_limit", qualname := Str.ofString "RecvPart.raise_limit", params := (fnPart (clsPart hd.body 23) 8).1, body := FuncBody.stmts (fnPart (clsPart hd.body 23) 8).2.1, scope := (fnPart (clsPart hd.body 23) 8).2.2, globals := 0, closure := [], defaults := Value.none, kwdefaults := Value.none } }
noncomputable def hd.o_214 (P : Params) : Obj := { cls := Value.type "code", data := Data.fields #[Value.str (Str.ofString "raise_limit") 439, Value.str (Str.ofString "RecvPart.raise_limit") 440, Value.str (Str.ofString "/claim/cut.py") 441, Value.int 144 0, Value.int 2 0, Value.int 0 0, Value.int 0 0, Value.int 3 0, Value.ref 166, Value.bool true, Value.int 181 0, Value.ref 167, Value.none, Value.ref 168, Value.ref 169, Value.ref 170, Value.int 444 0, Value.int 144 0, Value.str (Str.ofString "/claim/cut.py") 445] }
noncomputable def hd.o_215 (P : Params) : Obj := { cls := Value.type "function", data := Data.func { name := Str.ofString "raise_limit", qualname := Str.ofString "RecvPart.raise_limit", params := (fnPart (clsPart hd.body 23) 8).1, body := FuncBody.stmts (fnPart (clsPart hd.body 23) 8).2.1, scope := (fnPart (clsPart hd.body 23) 8).2.2, globals := 3, closure := [], defaults := Value.none, kwdefaults := Value.none, pyModule := Value.str (Str.ofString "quic.recvpart") 338, code := Value.ref 171 } }
noncomputable def hd.o_216 (P : Params) : Obj := { cls := Value.type "tuple", data := Data.seq #[] }
noncomputable def hd.o_217 (P : Params) : Obj := { cls := Value.none, data := Data.fields #[] }
noncomputable def hd.o_218 (P : Params) : Obj := { cls := Value.type "tuple", data := Data.seq #[Value.str (Str.ofString "self") 450] }
noncomputable def hd.o_219 (P : Params) : Obj := { cls := Value.type "tuple", data := Data.seq #[] }
noncomputable def hd.o_220 (P : Params) : Obj := { cls := Value.none, data := Data.func { name := Str.ofString "used_to", qualname := Str.ofString "RecvPart.used_to", params := (fnPart (clsPart hd.body 23) 9).1, body := FuncBody.stmts (fnPart (clsPart hd.body 23) 9).2.1, scope := (fnPart (clsPart hd.body 23) 9).2.2, globals := 0, closure := [], defaults := Value.none, kwdefaults := Value.none } }
noncomputable def hd.o_221 (P : Params) : Obj := { cls := Value.type "code", data := Data.fields #[Value.str (Str.ofString "used_to") 447, Value.str (Str.ofString "RecvPart.used_to") 448, Value.str (Str.ofString "/claim/cut.py") 449, Value.int 147 0, Value.int 1 0, Value.int 0 0, Value.int 0 0, Value.int 3 0, Value.ref 173, Value.bool true, Value.int 181 0, Value.ref 174, Value.none, Value.ref 175, Value.ref 176, Value.ref 177, Value.int 451 0, Value.int 147 0, Value.str (Str.ofString "/claim/cut.py") 452] }
noncomputable def hd.o_222 (P : Params) : Obj := { cls := Value.type "function", data := Data.func { name := Str.ofString "used_to", qualname := Str.ofString "RecvPart.used_to", params := (fnPart (clsPart hd.body 23) 9).1, body := FuncBody.stmts (fnPart (clsPart hd.body 23) 9).2.1, scope := (fnPart (clsPart hd.body 23) 9).2.2, globals := 3, closure := [], defaults := Value.none, kwdefaults := Value.none, pyModule := Value.str (Str.ofString "quic.recvpart") 338, code := Value.ref 178 } }
noncomputable def hd.o_223 (P : Params) : Obj := { cls := Value.type "tuple", data := Data.seq #[] }
noncomputable def hd.o_224 (P : Params) : Obj := { cls := Value.none, data := Data.fields #[] }
noncomputable def hd.o_225 (P : Params) : Obj := { cls := Value.type "tuple", data := Data.seq #[Value.str (Str.ofString "self") 457] }
noncomputable def hd.o_226 (P : Params) : Obj := { cls := Value.type "tuple", data := Data.seq #[] }
noncomputable def hd.o_227 (P : Params) : Obj := { cls := Value.none, data := Data.func { name := Str.ofString "is_over", qualname := Str.ofString "RecvPart.is_over", params := (fnPart (clsPart hd.body 23) 10).1, body := FuncBody.stmts (fnPart (clsPart hd.body 23) 10).2.1, scope := (fnPart (clsPart hd.body 23) 10).2.2, globals := 0, closure := [], defaults := Value.none, kwdefaults := Value.none } }
noncomputable def hd.o_228 (P : Params) : Obj := { cls := Value.type "code", data := Data.fields #[Value.str (Str.ofString "is_over") 454, Value.str (Str.ofString "RecvPart.is_over") 455, Value.str (Str.ofString "/claim/cut.py") 456, Value.int 152 0, Value.int 1 0, Value.int 0 0, Value.int 0 0, Value.int 3 0, Value.ref 180, Value.bool true, Value.int 181 0, Value.ref 181, Value.none, Value.ref 182, Value.ref 183, Value.ref 184, Value.int 458 0, Value.int 152 0, Value.str (Str.ofString "/claim/cut.py") 459] }
noncomputable def hd.o_229 (P : Params) : Obj := { cls := Value.type "function", data := Data.func { name := Str.ofString "is_over", qualname := Str.ofString "RecvPart.is_over", params := (fnPart (clsPart hd.body 23) 10).1, body := FuncBody.stmts (fnPart (clsPart hd.body 23) 10).2.1, scope := (fnPart (clsPart hd.body 23) 10).2.2, globals := 3, closure := [], defaults := Value.none, kwdefaults := Value.none, pyModule := Value.str (Str.ofString "quic.recvpart") 338, code := Value.ref 185 } }
noncomputable def hd.o_230 (P : Params) : Obj := { cls := Value.type "tuple", data := Data.seq #[Value.str (Str.ofString "final_size") 461, Value.str (Str.ofString "highest") 462, Value.str (Str.ofString "limit") 463, Value.str (Str.ofString "pieces") 464, Value.str (Str.ofString "read_to") 465, Value.str (Str.ofString "reset_code") 466, Value.str (Str.ofString "state") 467, Value.str (Str.ofString "stop_code") 468] }
noncomputable def hd.o_231 (P : Params) : Obj := { cls := Value.type "dict", data := Data.dict #[{ hash := PyData.keyHash P (Str.ofString "__module__"), key := Value.str (Str.ofString "__module__") 361, val := Value.str (Str.ofString "quic.recvpart") 338 }, { hash := PyData.keyHash P (Str.ofString "__firstlineno__"), key := Value.str (Str.ofString "__firstlineno__") 365, val := Value.int 78 364 }, { hash := PyData.keyHash P (Str.ofString "__init__"), key := Value.str (Str.ofString "__init__") 373, val := Value.ref 116 }, { hash := PyData.keyHash P (Str.ofString "check_end"), key := Value.str (Str.ofString "check_end") 383, val := Value.ref 123 }, { hash := PyData.keyHash P (Str.ofString "grown"), key := Value.str (Str.ofString "grown") 392, val := Value.ref 130 }, { hash := PyData.keyHash P (Str.ofString "on_stream"), key := Value.str (Str.ofString "on_stream") 404, val := Value.ref 137 }, { hash := PyData.keyHash P (Str.ofString "has_all"), key := Value.str (Str.ofString "has_all") 411, val := Value.ref 144 }, { hash := PyData.keyHash P (Str.ofString "on_reset"), key := Value.str (Str.ofString "on_reset") 420, val := Value.ref 151 }, { hash := PyData.keyHash P (Str.ofString "read"), key := Value.str (Str.ofString "read") 430, val := Value.ref 158 }, { hash := PyData.keyHash P (Str.ofString "stop"), key := Value.str (Str.ofString "stop") 438, val := Value.ref 165 }, { hash := PyData.keyHash P (Str.ofString "raise_limit"), key := Value.str (Str.ofString "raise_limit") 446, val := Value.ref 172 }, { hash := PyData.keyHash P (Str.ofString "used_to"), key := Value.str (Str.ofString "used_to") 453, val := Value.ref 179 }, { hash := PyData.keyHash P (Str.ofString "is_over"), key := Value.str (Str.ofString "is_over") 460, val := Value.ref 186 }, { hash := PyData.keyHash P (Str.ofString "__static_attributes__"), key := Value.str (Str.ofString "__static_attributes__") 469, val := Value.ref 187 }, { hash := PyData.keyHash P (Str.ofString "__dict__"), key := Value.str (Str.ofString "__dict__") 471, val := Value.ref 190 }, { hash := PyData.keyHash P (Str.ofString "__weakref__"), key := Value.str (Str.ofString "__weakref__") 473, val := Value.ref 191 }, { hash := PyData.keyHash P (Str.ofString "__doc__"), key := Value.str (Str.ofString "__doc__") 474, val := Value.none }] 4 }
noncomputable def hd.o_232 (P : Params) : Obj := { cls := Value.type "type", data := Data.cls { name := Str.ofString "RecvPart", bases := [Value.type "object"], mro := [Value.ref 189, Value.type "object"], ns := 188, qualname := Str.ofString "RecvPart" }, slots := #[none, none, some (Value.str (Str.ofString "RecvPart") 354), some (Value.str (Str.ofString "RecvPart") 362), some (Value.builtin "object.__new__"), some (Value.bool true)] }
noncomputable def hd.o_233 (P : Params) : Obj := { cls := Value.type "getset_descriptor", data := Data.fields #[Value.str (Str.ofString "__dict__") 470, Value.ref 189, Value.builtin "function.__dict__", Value.builtin "function.__dict__#set"] }
noncomputable def hd.o_234 (P : Params) : Obj := { cls := Value.type "getset_descriptor", data := Data.fields #[Value.str (Str.ofString "__weakref__") 472, Value.ref 189, Value.builtin "ExceptionGroup.__weakref__", Value.none] }
noncomputable def hd.o_235 (P : Params) : Obj := { cls := Value.type "super", data := Data.fields #[Value.ref 189, Value.ref 189, Value.ref 189] }
noncomputable def hd.o_236 (P : Params) : Obj := { cls := Value.type "builtin_function_or_method", data := Data.fields #[Value.builtin "object.__init_subclass__", Value.ref 189] }
noncomputable def hd.o_237 (P : Params) : Obj := { cls := Value.type "dict", data := Data.dict #[{ hash := PyData.keyHash P (Str.ofString "__name__"), key := Value.str (Str.ofString "__name__") 165, val := Value.str (Str.ofString "law_sa0567_01") 477 }, { hash := PyData.keyHash P (Str.ofString "__doc__"), key := Value.str (Str.ofString "__doc__") 166, val := Value.none }, { hash := PyData.keyHash P (Str.ofString "__package__"), key := Value.str (Str.ofString "__package__") 167, val := Value.none }, { hash := PyData.keyHash P (Str.ofString "__loader__"), key := Value.str (Str.ofString "__loader__") 168, val := Value.builtin "__main__.__loader__#opaque" }, { hash := PyData.keyHash P (Str.ofString "__spec__"), key := Value.str (Str.ofString "__spec__") 169, val := Value.none }, { hash := PyData.keyHash P (Str.ofString "__annotations__"), key := Value.str (Str.ofString "__annotations__") 170, val := Value.ref 6 }, { hash := PyData.keyHash P (Str.ofString "__builtins__"), key := Value.str (Str.ofString "__builtins__") 171, val := Value.ref 4 }, { hash := PyData.keyHash P (Str.ofString "__file__"), key := Value.str (Str.ofString "__file__") 173, val := Value.str (Str.ofString "/claim/cut.py") 172 }, { hash := PyData.keyHash P (Str.ofString "__cached__"), key := Value.str (Str.ofString "__cached__") 174, val := Value.none }, { hash := PyData.keyHash P (Str.ofString "_wall"), key := Value.str (Str.ofString "_wall") 193, val := Value.ref 21 }, { hash := PyData.keyHash P (Str.ofString "FLOW_CONTROL_ERROR"), key := Value.str (Str.ofString "FLOW_CONTROL_ERROR") 197, val := Value.int 3 196 }, { hash := PyData.keyHash P (Str.ofString "FINAL_SIZE_ERROR"), key := Value.str (Str.ofString "FINAL_SIZE_ERROR") 199, val := Value.int 6 198 }, { hash := PyData.keyHash P (Str.ofString "CRYPTO_BUFFER_EXCEEDED"), key := Value.str (Str.ofString "CRYPTO_BUFFER_EXCEEDED") 201, val := Value.int 13 200 }, { hash := PyData.keyHash P (Str.ofString "QuicError"), key := Value.str (Str.ofString "QuicError") 234, val := Value.ref 38 }, { hash := PyData.keyHash P (Str.ofString "add_piece"), key := Value.str (Str.ofString "add_piece") 254, val := Value.ref 48 }, { hash := PyData.keyHash P (Str.ofString "taken_from"), key := Value.str (Str.ofString "taken_from") 266, val := Value.ref 55 }, { hash := PyData.keyHash P (Str.ofString "covered"), key := Value.str (Str.ofString "covered") 272, val := Value.ref 60 }, { hash := PyData.keyHash P (Str.ofString "CRYPTO_FRAME"), key := Value.str (Str.ofString "CRYPTO_FRAME") 276, val := Value.int 6 275 }, { hash := PyData.keyHash P (Str.ofString "CryptoIn"), key := Value.str (Str.ofString "CryptoIn") 324, val := Value.ref 91 }, { hash := PyData.keyHash P (Str.ofString "has_span"), key := Value.str (Str.ofString "has_span") 337, val := Value.ref 102 }, { hash := PyData.keyHash P (Str.ofString "RECEIVING"), key := Value.str (Str.ofString "RECEIVING") 341, val := Value.str (Str.ofString "recv") 340 }, { hash := PyData.keyHash P (Str.ofString "SIZE_KNOWN"), key := Value.str (Str.ofString "SIZE_KNOWN") 343, val := Value.str (Str.ofString "size_known") 342 }, { hash := PyData.keyHash P (Str.ofString "DATA_RECEIVED"), key := Value.str (Str.ofString "DATA_RECEIVED") 345, val := Value.str (Str.ofString "data_recvd") 344 }, { hash := PyData.keyHash P (Str.ofString "DATA_READ"), key := Value.str (Str.ofString "DATA_READ") 347, val := Value.str (Str.ofString "data_read") 346 }, { hash := PyData.keyHash P (Str.ofString "RESET_RECEIVED"), key := Value.str (Str.ofString "RESET_RECEIVED") 349, val := Value.str (Str.ofString "reset_recvd") 348 }, { hash := PyData.keyHash P (Str.ofString "RESET_READ"), key := Value.str (Str.ofString "RESET_READ") 351, val := Value.str (Str.ofString "reset_read") 350 }, { hash := PyData.keyHash P (Str.ofString "FRAME_STREAM"), key := Value.str (Str.ofString "FRAME_STREAM") 353, val := Value.int 8 352 }, { hash := PyData.keyHash P (Str.ofString "RecvPart"), key := Value.str (Str.ofString "RecvPart") 476, val := Value.ref 189 }, { hash := PyData.keyHash P (Str.ofString "_law_take"), key := Value.str (Str.ofString "_law_take") 486, val := Value.ref 200 }, { hash := PyData.keyHash P (Str.ofString "_law_by_one"), key := Value.str (Str.ofString "_law_by_one") 496, val := Value.ref 207 }, { hash := PyData.keyHash P (Str.ofString "_law_by_other"), key := Value.str (Str.ofString "_law_by_other") 506, val := Value.ref 214 }, { hash := PyData.keyHash P (Str.ofString "law"), key := Value.str (Str.ofString "law") 512, val := Value.ref 219 }] 32 }
noncomputable def hd.o_238 (P : Params) : Obj := { cls := Value.none, data := Data.fields #[Value.int 1 0, Value.int 0 0, Value.ref 20, Value.int 8 0, Value.int 0 0, Value.ref 27, Value.int 16 0, Value.int 0 0, Value.ref 47, Value.int 29 0, Value.int 0 0, Value.ref 54, Value.int 37 0, Value.int 0 0, Value.ref 59, Value.int 41 0, Value.int 0 0, Value.ref 66, Value.int 63 0, Value.int 0 0, Value.ref 101, Value.int 78 0, Value.int 0 0, Value.ref 108, Value.int 155 0, Value.int 0 0, Value.ref 199, Value.int 160 0, Value.int 0 0, Value.ref 206, Value.int 165 0, Value.int 0 0, Value.ref 213, Value.int 171 0, Value.int 0 0, Value.ref 218] }
noncomputable def hd.o_239 (P : Params) : Obj := { cls := Value.type "tuple", data := Data.seq #[] }
noncomputable def hd.o_240 (P : Params) : Obj := { cls := Value.none, data := Data.fields #[] }
noncomputable def hd.o_241 (P : Params) : Obj := { cls := Value.type "tuple", data := Data.seq #[Value.str (Str.ofString "box") 482, Value.str (Str.ofString "many") 483] }
noncomputable def hd.o_242 (P : Params) : Obj := { cls := Value.type "tuple", data := Data.seq #[] }
noncomputable def hd.o_243 (P : Params) : Obj := { cls := Value.none, data := Data.func { name := Str.ofString "_law_take", qualname := Str.ofString "_law_take", params := (fnPart hd.body 25).1, body := FuncBody.stmts (fnPart hd.body 25).2.1, scope := (fnPart hd.body 25).2.2, globals := 0, closure := [], defaults := Value.none, kwdefaults := Value.none } }
noncomputable def hd.o_244 (P : Params) : Obj := { cls := Value.type "code", data := Data.fields #[Value.str (Str.ofString "_law_take") 479, Value.str (Str.ofString "_law_take") 480, Value.str (Str.ofString "/claim/cut.py") 481, Value.int 155 0, Value.int 2 0, Value.int 0 0, Value.int 0 0, Value.int 3 0, Value.ref 194, Value.bool true, Value.int 181 0, Value.ref 195, Value.none, Value.ref 196, Value.ref 197, Value.ref 198, Value.int 484 0, Value.int 155 0, Value.str (Str.ofString "/claim/cut.py") 485] }
noncomputable def hd.o_245 (P : Params) : Obj := { cls := Value.type "function", data := Data.func { name := Str.ofString "_law_take", qualname := Str.ofString "_law_take", params := (fnPart hd.body 25).1, body := FuncBody.stmts (fnPart hd.body 25).2.1, scope := (fnPart hd.body 25).2.2, globals := 3, closure := [], defaults := Value.none, kwdefaults := Value.none, pyModule := Value.str (Str.ofString "law_sa0567_01") 477, code := Value.ref 199 } }
noncomputable def hd.o_246 (P : Params) : Obj := { cls := Value.type "tuple", data := Data.seq #[] }
noncomputable def hd.o_247 (P : Params) : Obj := { cls := Value.none, data := Data.fields #[] }
noncomputable def hd.o_248 (P : Params) : Obj := { cls := Value.type "tuple", data := Data.seq #[Value.str (Str.ofString "crypto") 490, Value.str (Str.ofString "offset") 491, Value.str (Str.ofString "data") 492, Value.str (Str.ofString "wrong") 493] }
noncomputable def hd.o_249 (P : Params) : Obj := { cls := Value.type "tuple", data := Data.seq #[] }
noncomputable def hd.o_250 (P : Params) : Obj := { cls := Value.none, data := Data.func { name := Str.ofString "_law_by_one", qualname := Str.ofString "_law_by_one", params := (fnPart hd.body 26).1, body := FuncBody.stmts (fnPart hd.body 26).2.1, scope := (fnPart hd.body 26).2.2, globals := 0, closure := [], defaults := Value.none, kwdefaults := Value.none } }
noncomputable def hd.o_251 (P : Params) : Obj := { cls := Value.type "code", data := Data.fields #[Value.str (Str.ofString "_law_by_one") 487, Value.str (Str.ofString "_law_by_one") 488, Value.str (Str.ofString "/claim/cut.py") 489, Value.int 160 0, Value.int 3 0, Value.int 0 0, Value.int 0 0, Value.int 3 0, Value.ref 201, Value.bool true, Value.int 181 0, Value.ref 202, Value.none, Value.ref 203, Value.ref 204, Value.ref 205, Value.int 494 0, Value.int 160 0, Value.str (Str.ofString "/claim/cut.py") 495] }
noncomputable def hd.o_252 (P : Params) : Obj := { cls := Value.type "function", data := Data.func { name := Str.ofString "_law_by_one", qualname := Str.ofString "_law_by_one", params := (fnPart hd.body 26).1, body := FuncBody.stmts (fnPart hd.body 26).2.1, scope := (fnPart hd.body 26).2.2, globals := 3, closure := [], defaults := Value.none, kwdefaults := Value.none, pyModule := Value.str (Str.ofString "law_sa0567_01") 477, code := Value.ref 206 } }
noncomputable def hd.o_253 (P : Params) : Obj := { cls := Value.type "tuple", data := Data.seq #[] }
noncomputable def hd.o_254 (P : Params) : Obj := { cls := Value.none, data := Data.fields #[] }
noncomputable def hd.o_255 (P : Params) : Obj := { cls := Value.type "tuple", data := Data.seq #[Value.str (Str.ofString "part") 500, Value.str (Str.ofString "offset") 501, Value.str (Str.ofString "data") 502, Value.str (Str.ofString "wrong") 503] }
noncomputable def hd.o_256 (P : Params) : Obj := { cls := Value.type "tuple", data := Data.seq #[] }
noncomputable def hd.o_257 (P : Params) : Obj := { cls := Value.none, data := Data.func { name := Str.ofString "_law_by_other", qualname := Str.ofString "_law_by_other", params := (fnPart hd.body 27).1, body := FuncBody.stmts (fnPart hd.body 27).2.1, scope := (fnPart hd.body 27).2.2, globals := 0, closure := [], defaults := Value.none, kwdefaults := Value.none } }
noncomputable def hd.o_258 (P : Params) : Obj := { cls := Value.type "code", data := Data.fields #[Value.str (Str.ofString "_law_by_other") 497, Value.str (Str.ofString "_law_by_other") 498, Value.str (Str.ofString "/claim/cut.py") 499, Value.int 165 0, Value.int 3 0, Value.int 0 0, Value.int 0 0, Value.int 3 0, Value.ref 208, Value.bool true, Value.int 181 0, Value.ref 209, Value.none, Value.ref 210, Value.ref 211, Value.ref 212, Value.int 504 0, Value.int 165 0, Value.str (Str.ofString "/claim/cut.py") 505] }
noncomputable def hd.o_259 (P : Params) : Obj := { cls := Value.type "function", data := Data.func { name := Str.ofString "_law_by_other", qualname := Str.ofString "_law_by_other", params := (fnPart hd.body 27).1, body := FuncBody.stmts (fnPart hd.body 27).2.1, scope := (fnPart hd.body 27).2.2, globals := 3, closure := [], defaults := Value.none, kwdefaults := Value.none, pyModule := Value.str (Str.ofString "law_sa0567_01") 477, code := Value.ref 213 } }
noncomputable def hd.o_260 (P : Params) : Obj := { cls := Value.type "tuple", data := Data.seq #[] }
noncomputable def hd.o_261 (P : Params) : Obj := { cls := Value.none, data := Data.fields #[] }
noncomputable def hd.o_262 (P : Params) : Obj := { cls := Value.none, data := Data.func { name := Str.ofString "law", qualname := Str.ofString "law", params := (fnPart hd.body 28).1, body := FuncBody.stmts (fnPart hd.body 28).2.1, scope := (fnPart hd.body 28).2.2, globals := 0, closure := [], defaults := Value.none, kwdefaults := Value.none } }
noncomputable def hd.o_263 (P : Params) : Obj := { cls := Value.type "code", data := Data.fields #[Value.str (Str.ofString "law") 507, Value.str (Str.ofString "law") 508, Value.str (Str.ofString "/claim/cut.py") 509, Value.int 171 0, Value.int 1 0, Value.int 0 0, Value.int 0 0, Value.int 3 0, Value.ref 215, Value.bool true, Value.int 181 0, Value.ref 216, Value.none, Value.none, Value.none, Value.ref 217, Value.int 510 0, Value.int 171 0, Value.str (Str.ofString "/claim/cut.py") 511] }
noncomputable def hd.o_264 (P : Params) : Obj := { cls := Value.type "function", data := Data.func { name := Str.ofString "law", qualname := Str.ofString "law", params := (fnPart hd.body 28).1, body := FuncBody.stmts (fnPart hd.body 28).2.1, scope := (fnPart hd.body 28).2.2, globals := 3, closure := [], defaults := Value.none, kwdefaults := Value.none, pyModule := Value.str (Str.ofString "law_sa0567_01") 477, code := Value.ref 218 } }
noncomputable def hd.tree_47 (P : Params) : BT := BT.node (boot_o_0 P) (BT.node (boot_o_1 P) (BT.node (boot_o_3 P) (BT.node (boot_o_7 P) BT.nil BT.nil) (BT.node (hd.o_43 P) BT.nil BT.nil)) (BT.node (boot_o_5 P) (BT.node (boot_o_9 P) BT.nil BT.nil) (BT.node (hd.o_45 P) BT.nil BT.nil))) (BT.node (boot_o_2 P) (BT.node (boot_o_4 P) (BT.node (boot_o_8 P) BT.nil BT.nil) (BT.node (hd.o_44 P) BT.nil BT.nil)) (BT.node (boot_o_6 P) (BT.node (boot_o_10 P) BT.nil BT.nil) (BT.node (hd.o_46 P) BT.nil BT.nil)))
noncomputable def hd.tree_92 (P : Params) : BT := BT.node (boot_o_0 P) (BT.node (boot_o_1 P) (BT.node (hd.o_50 P) (BT.node (boot_o_7 P) (BT.node (hd.o_52 P) (BT.node (hd.o_68 P) BT.nil BT.nil) (BT.node (hd.o_84 P) BT.nil BT.nil)) (BT.node (hd.o_60 P) (BT.node (hd.o_76 P) BT.nil BT.nil) (BT.node (hd.o_92 P) BT.nil BT.nil))) (BT.node (hd.o_43 P) (BT.node (hd.o_56 P) (BT.node (hd.o_72 P) BT.nil BT.nil) (BT.node (hd.o_88 P) BT.nil BT.nil)) (BT.node (hd.o_64 P) (BT.node (hd.o_80 P) BT.nil BT.nil) BT.nil))) (BT.node (boot_o_5 P) (BT.node (boot_o_9 P) (BT.node (hd.o_54 P) (BT.node (hd.o_70 P) BT.nil BT.nil) (BT.node (hd.o_86 P) BT.nil BT.nil)) (BT.node (hd.o_62 P) (BT.node (hd.o_78 P) BT.nil BT.nil) BT.nil)) (BT.node (hd.o_45 P) (BT.node (hd.o_58 P) (BT.node (hd.o_74 P) BT.nil BT.nil) (BT.node (hd.o_90 P) BT.nil BT.nil)) (BT.node (hd.o_66 P) (BT.node (hd.o_82 P) BT.nil BT.nil) BT.nil)))) (BT.node (hd.o_49 P) (BT.node (boot_o_4 P) (BT.node (boot_o_8 P) (BT.node (hd.o_53 P) (BT.node (hd.o_69 P) BT.nil BT.nil) (BT.node (hd.o_85 P) BT.nil BT.nil)) (BT.node (hd.o_61 P) (BT.node (hd.o_77 P) BT.nil BT.nil) BT.nil)) (BT.node (hd.o_51 P) (BT.node (hd.o_57 P) (BT.node (hd.o_73 P) BT.nil BT.nil) (BT.node (hd.o_89 P) BT.nil BT.nil)) (BT.node (hd.o_65 P) (BT.node (hd.o_81 P) BT.nil BT.nil) BT.nil))) (BT.node (boot_o_6 P) (BT.node (boot_o_10 P) (BT.node (hd.o_55 P) (BT.node (hd.o_71 P) BT.nil BT.nil) (BT.node (hd.o_87 P) BT.nil BT.nil)) (BT.node (hd.o_63 P) (BT.node (hd.o_79 P) BT.nil BT.nil) BT.nil)) (BT.node (hd.o_46 P) (BT.node (hd.o_59 P) (BT.node (hd.o_75 P) BT.nil BT.nil) (BT.node (hd.o_91 P) BT.nil BT.nil)) (BT.node (hd.o_67 P) (BT.node (hd.o_83 P) BT.nil BT.nil) BT.nil))))
noncomputable def hd.tree_141 (P : Params) : BT := BT.node (boot_o_0 P) (BT.node (boot_o_1 P) (BT.node (hd.o_93 P) (BT.node (boot_o_7 P) (BT.node (hd.o_52 P) (BT.node (hd.o_68 P) (BT.node (hd.o_102 P) BT.nil BT.nil) (BT.node (hd.o_134 P) BT.nil BT.nil)) (BT.node (hd.o_84 P) (BT.node (hd.o_118 P) BT.nil BT.nil) BT.nil)) (BT.node (hd.o_60 P) (BT.node (hd.o_76 P) (BT.node (hd.o_110 P) BT.nil BT.nil) BT.nil) (BT.node (hd.o_92 P) (BT.node (hd.o_126 P) BT.nil BT.nil) BT.nil))) (BT.node (hd.o_43 P) (BT.node (hd.o_56 P) (BT.node (hd.o_72 P) (BT.node (hd.o_106 P) BT.nil BT.nil) (BT.node (hd.o_138 P) BT.nil BT.nil)) (BT.node (hd.o_88 P) (BT.node (hd.o_122 P) BT.nil BT.nil) BT.nil)) (BT.node (hd.o_64 P) (BT.node (hd.o_80 P) (BT.node (hd.o_114 P) BT.nil BT.nil) BT.nil) (BT.node (hd.o_98 P) (BT.node (hd.o_130 P) BT.nil BT.nil) BT.nil)))) (BT.node (boot_o_5 P) (BT.node (boot_o_9 P) (BT.node (hd.o_54 P) (BT.node (hd.o_70 P) (BT.node (hd.o_104 P) BT.nil BT.nil) (BT.node (hd.o_136 P) BT.nil BT.nil)) (BT.node (hd.o_86 P) (BT.node (hd.o_120 P) BT.nil BT.nil) BT.nil)) (BT.node (hd.o_62 P) (BT.node (hd.o_78 P) (BT.node (hd.o_112 P) BT.nil BT.nil) BT.nil) (BT.node (hd.o_96 P) (BT.node (hd.o_128 P) BT.nil BT.nil) BT.nil))) (BT.node (hd.o_45 P) (BT.node (hd.o_58 P) (BT.node (hd.o_74 P) (BT.node (hd.o_108 P) BT.nil BT.nil) (BT.node (hd.o_140 P) BT.nil BT.nil)) (BT.node (hd.o_90 P) (BT.node (hd.o_124 P) BT.nil BT.nil) BT.nil)) (BT.node (hd.o_66 P) (BT.node (hd.o_82 P) (BT.node (hd.o_116 P) BT.nil BT.nil) BT.nil) (BT.node (hd.o_100 P) (BT.node (hd.o_132 P) BT.nil BT.nil) BT.nil))))) (BT.node (hd.o_49 P) (BT.node (boot_o_4 P) (BT.node (boot_o_8 P) (BT.node (hd.o_53 P) (BT.node (hd.o_69 P) (BT.node (hd.o_103 P) BT.nil BT.nil) (BT.node (hd.o_135 P) BT.nil BT.nil)) (BT.node (hd.o_85 P) (BT.node (hd.o_119 P) BT.nil BT.nil) BT.nil)) (BT.node (hd.o_61 P) (BT.node (hd.o_77 P) (BT.node (hd.o_111 P) BT.nil BT.nil) BT.nil) (BT.node (hd.o_95 P) (BT.node (hd.o_127 P) BT.nil BT.nil) BT.nil))) (BT.node (hd.o_94 P) (BT.node (hd.o_57 P) (BT.node (hd.o_73 P) (BT.node (hd.o_107 P) BT.nil BT.nil) (BT.node (hd.o_139 P) BT.nil BT.nil)) (BT.node (hd.o_89 P) (BT.node (hd.o_123 P) BT.nil BT.nil) BT.nil)) (BT.node (hd.o_65 P) (BT.node (hd.o_81 P) (BT.node (hd.o_115 P) BT.nil BT.nil) BT.nil) (BT.node (hd.o_99 P) (BT.node (hd.o_131 P) BT.nil BT.nil) BT.nil)))) (BT.node (boot_o_6 P) (BT.node (boot_o_10 P) (BT.node (hd.o_55 P) (BT.node (hd.o_71 P) (BT.node (hd.o_105 P) BT.nil BT.nil) (BT.node (hd.o_137 P) BT.nil BT.nil)) (BT.node (hd.o_87 P) (BT.node (hd.o_121 P) BT.nil BT.nil) BT.nil)) (BT.node (hd.o_63 P) (BT.node (hd.o_79 P) (BT.node (hd.o_113 P) BT.nil BT.nil) BT.nil) (BT.node (hd.o_97 P) (BT.node (hd.o_129 P) BT.nil BT.nil) BT.nil))) (BT.node (hd.o_46 P) (BT.node (hd.o_59 P) (BT.node (hd.o_75 P) (BT.node (hd.o_109 P) BT.nil BT.nil) (BT.node (hd.o_141 P) BT.nil BT.nil)) (BT.node (hd.o_91 P) (BT.node (hd.o_125 P) BT.nil BT.nil) BT.nil)) (BT.node (hd.o_67 P) (BT.node (hd.o_83 P) (BT.node (hd.o_117 P) BT.nil BT.nil) BT.nil) (BT.node (hd.o_101 P) (BT.node (hd.o_133 P) BT.nil BT.nil) BT.nil)))))
noncomputable def hd.tree_142 (P : Params) : BT := BT.node (boot_o_0 P) (BT.node (boot_o_1 P) (BT.node (hd.o_142 P) (BT.node (boot_o_7 P) (BT.node (hd.o_52 P) (BT.node (hd.o_68 P) (BT.node (hd.o_102 P) BT.nil BT.nil) (BT.node (hd.o_134 P) BT.nil BT.nil)) (BT.node (hd.o_84 P) (BT.node (hd.o_118 P) BT.nil BT.nil) BT.nil)) (BT.node (hd.o_60 P) (BT.node (hd.o_76 P) (BT.node (hd.o_110 P) BT.nil BT.nil) BT.nil) (BT.node (hd.o_92 P) (BT.node (hd.o_126 P) BT.nil BT.nil) BT.nil))) (BT.node (hd.o_43 P) (BT.node (hd.o_56 P) (BT.node (hd.o_72 P) (BT.node (hd.o_106 P) BT.nil BT.nil) (BT.node (hd.o_138 P) BT.nil BT.nil)) (BT.node (hd.o_88 P) (BT.node (hd.o_122 P) BT.nil BT.nil) BT.nil)) (BT.node (hd.o_64 P) (BT.node (hd.o_80 P) (BT.node (hd.o_114 P) BT.nil BT.nil) BT.nil) (BT.node (hd.o_98 P) (BT.node (hd.o_130 P) BT.nil BT.nil) BT.nil)))) (BT.node (boot_o_5 P) (BT.node (boot_o_9 P) (BT.node (hd.o_54 P) (BT.node (hd.o_70 P) (BT.node (hd.o_104 P) BT.nil BT.nil) (BT.node (hd.o_136 P) BT.nil BT.nil)) (BT.node (hd.o_86 P) (BT.node (hd.o_120 P) BT.nil BT.nil) BT.nil)) (BT.node (hd.o_62 P) (BT.node (hd.o_78 P) (BT.node (hd.o_112 P) BT.nil BT.nil) BT.nil) (BT.node (hd.o_96 P) (BT.node (hd.o_128 P) BT.nil BT.nil) BT.nil))) (BT.node (hd.o_45 P) (BT.node (hd.o_58 P) (BT.node (hd.o_74 P) (BT.node (hd.o_108 P) BT.nil BT.nil) (BT.node (hd.o_140 P) BT.nil BT.nil)) (BT.node (hd.o_90 P) (BT.node (hd.o_124 P) BT.nil BT.nil) BT.nil)) (BT.node (hd.o_66 P) (BT.node (hd.o_82 P) (BT.node (hd.o_116 P) BT.nil BT.nil) BT.nil) (BT.node (hd.o_100 P) (BT.node (hd.o_132 P) BT.nil BT.nil) BT.nil))))) (BT.node (hd.o_49 P) (BT.node (boot_o_4 P) (BT.node (boot_o_8 P) (BT.node (hd.o_53 P) (BT.node (hd.o_69 P) (BT.node (hd.o_103 P) BT.nil BT.nil) (BT.node (hd.o_135 P) BT.nil BT.nil)) (BT.node (hd.o_85 P) (BT.node (hd.o_119 P) BT.nil BT.nil) BT.nil)) (BT.node (hd.o_61 P) (BT.node (hd.o_77 P) (BT.node (hd.o_111 P) BT.nil BT.nil) BT.nil) (BT.node (hd.o_95 P) (BT.node (hd.o_127 P) BT.nil BT.nil) BT.nil))) (BT.node (hd.o_94 P) (BT.node (hd.o_57 P) (BT.node (hd.o_73 P) (BT.node (hd.o_107 P) BT.nil BT.nil) (BT.node (hd.o_139 P) BT.nil BT.nil)) (BT.node (hd.o_89 P) (BT.node (hd.o_123 P) BT.nil BT.nil) BT.nil)) (BT.node (hd.o_65 P) (BT.node (hd.o_81 P) (BT.node (hd.o_115 P) BT.nil BT.nil) BT.nil) (BT.node (hd.o_99 P) (BT.node (hd.o_131 P) BT.nil BT.nil) BT.nil)))) (BT.node (boot_o_6 P) (BT.node (boot_o_10 P) (BT.node (hd.o_55 P) (BT.node (hd.o_71 P) (BT.node (hd.o_105 P) BT.nil BT.nil) (BT.node (hd.o_137 P) BT.nil BT.nil)) (BT.node (hd.o_87 P) (BT.node (hd.o_121 P) BT.nil BT.nil) BT.nil)) (BT.node (hd.o_63 P) (BT.node (hd.o_79 P) (BT.node (hd.o_113 P) BT.nil BT.nil) BT.nil) (BT.node (hd.o_97 P) (BT.node (hd.o_129 P) BT.nil BT.nil) BT.nil))) (BT.node (hd.o_46 P) (BT.node (hd.o_59 P) (BT.node (hd.o_75 P) (BT.node (hd.o_109 P) BT.nil BT.nil) (BT.node (hd.o_141 P) BT.nil BT.nil)) (BT.node (hd.o_91 P) (BT.node (hd.o_125 P) BT.nil BT.nil) BT.nil)) (BT.node (hd.o_67 P) (BT.node (hd.o_83 P) (BT.node (hd.o_117 P) BT.nil BT.nil) BT.nil) (BT.node (hd.o_101 P) (BT.node (hd.o_133 P) BT.nil BT.nil) BT.nil)))))
noncomputable def hd.tree_236 (P : Params) : BT := BT.node (boot_o_0 P) (BT.node (boot_o_1 P) (BT.node (hd.o_144 P) (BT.node (boot_o_7 P) (BT.node (hd.o_52 P) (BT.node (hd.o_68 P) (BT.node (hd.o_102 P) (BT.node (hd.o_170 P) BT.nil BT.nil) (BT.node (hd.o_234 P) BT.nil BT.nil)) (BT.node (hd.o_134 P) (BT.node (hd.o_202 P) BT.nil BT.nil) BT.nil)) (BT.node (hd.o_84 P) (BT.node (hd.o_118 P) (BT.node (hd.o_186 P) BT.nil BT.nil) BT.nil) (BT.node (hd.o_154 P) (BT.node (hd.o_218 P) BT.nil BT.nil) BT.nil))) (BT.node (hd.o_60 P) (BT.node (hd.o_76 P) (BT.node (hd.o_110 P) (BT.node (hd.o_178 P) BT.nil BT.nil) BT.nil) (BT.node (hd.o_146 P) (BT.node (hd.o_210 P) BT.nil BT.nil) BT.nil)) (BT.node (hd.o_92 P) (BT.node (hd.o_126 P) (BT.node (hd.o_194 P) BT.nil BT.nil) BT.nil) (BT.node (hd.o_162 P) (BT.node (hd.o_226 P) BT.nil BT.nil) BT.nil)))) (BT.node (hd.o_43 P) (BT.node (hd.o_56 P) (BT.node (hd.o_72 P) (BT.node (hd.o_106 P) (BT.node (hd.o_174 P) BT.nil BT.nil) BT.nil) (BT.node (hd.o_138 P) (BT.node (hd.o_206 P) BT.nil BT.nil) BT.nil)) (BT.node (hd.o_88 P) (BT.node (hd.o_122 P) (BT.node (hd.o_190 P) BT.nil BT.nil) BT.nil) (BT.node (hd.o_158 P) (BT.node (hd.o_222 P) BT.nil BT.nil) BT.nil))) (BT.node (hd.o_64 P) (BT.node (hd.o_80 P) (BT.node (hd.o_114 P) (BT.node (hd.o_182 P) BT.nil BT.nil) BT.nil) (BT.node (hd.o_150 P) (BT.node (hd.o_214 P) BT.nil BT.nil) BT.nil)) (BT.node (hd.o_98 P) (BT.node (hd.o_130 P) (BT.node (hd.o_198 P) BT.nil BT.nil) BT.nil) (BT.node (hd.o_166 P) (BT.node (hd.o_230 P) BT.nil BT.nil) BT.nil))))) (BT.node (boot_o_5 P) (BT.node (boot_o_9 P) (BT.node (hd.o_54 P) (BT.node (hd.o_70 P) (BT.node (hd.o_104 P) (BT.node (hd.o_172 P) BT.nil BT.nil) (BT.node (hd.o_236 P) BT.nil BT.nil)) (BT.node (hd.o_136 P) (BT.node (hd.o_204 P) BT.nil BT.nil) BT.nil)) (BT.node (hd.o_86 P) (BT.node (hd.o_120 P) (BT.node (hd.o_188 P) BT.nil BT.nil) BT.nil) (BT.node (hd.o_156 P) (BT.node (hd.o_220 P) BT.nil BT.nil) BT.nil))) (BT.node (hd.o_62 P) (BT.node (hd.o_78 P) (BT.node (hd.o_112 P) (BT.node (hd.o_180 P) BT.nil BT.nil) BT.nil) (BT.node (hd.o_148 P) (BT.node (hd.o_212 P) BT.nil BT.nil) BT.nil)) (BT.node (hd.o_96 P) (BT.node (hd.o_128 P) (BT.node (hd.o_196 P) BT.nil BT.nil) BT.nil) (BT.node (hd.o_164 P) (BT.node (hd.o_228 P) BT.nil BT.nil) BT.nil)))) (BT.node (hd.o_45 P) (BT.node (hd.o_58 P) (BT.node (hd.o_74 P) (BT.node (hd.o_108 P) (BT.node (hd.o_176 P) BT.nil BT.nil) BT.nil) (BT.node (hd.o_140 P) (BT.node (hd.o_208 P) BT.nil BT.nil) BT.nil)) (BT.node (hd.o_90 P) (BT.node (hd.o_124 P) (BT.node (hd.o_192 P) BT.nil BT.nil) BT.nil) (BT.node (hd.o_160 P) (BT.node (hd.o_224 P) BT.nil BT.nil) BT.nil))) (BT.node (hd.o_66 P) (BT.node (hd.o_82 P) (BT.node (hd.o_116 P) (BT.node (hd.o_184 P) BT.nil BT.nil) BT.nil) (BT.node (hd.o_152 P) (BT.node (hd.o_216 P) BT.nil BT.nil) BT.nil)) (BT.node (hd.o_100 P) (BT.node (hd.o_132 P) (BT.node (hd.o_200 P) BT.nil BT.nil) BT.nil) (BT.node (hd.o_168 P) (BT.node (hd.o_232 P) BT.nil BT.nil) BT.nil)))))) (BT.node (hd.o_49 P) (BT.node (boot_o_4 P) (BT.node (boot_o_8 P) (BT.node (hd.o_53 P) (BT.node (hd.o_69 P) (BT.node (hd.o_103 P) (BT.node (hd.o_171 P) BT.nil BT.nil) (BT.node (hd.o_235 P) BT.nil BT.nil)) (BT.node (hd.o_135 P) (BT.node (hd.o_203 P) BT.nil BT.nil) BT.nil)) (BT.node (hd.o_85 P) (BT.node (hd.o_119 P) (BT.node (hd.o_187 P) BT.nil BT.nil) BT.nil) (BT.node (hd.o_155 P) (BT.node (hd.o_219 P) BT.nil BT.nil) BT.nil))) (BT.node (hd.o_61 P) (BT.node (hd.o_77 P) (BT.node (hd.o_111 P) (BT.node (hd.o_179 P) BT.nil BT.nil) BT.nil) (BT.node (hd.o_147 P) (BT.node (hd.o_211 P) BT.nil BT.nil) BT.nil)) (BT.node (hd.o_95 P) (BT.node (hd.o_127 P) (BT.node (hd.o_195 P) BT.nil BT.nil) BT.nil) (BT.node (hd.o_163 P) (BT.node (hd.o_227 P) BT.nil BT.nil) BT.nil)))) (BT.node (hd.o_145 P) (BT.node (hd.o_57 P) (BT.node (hd.o_73 P) (BT.node (hd.o_107 P) (BT.node (hd.o_175 P) BT.nil BT.nil) BT.nil) (BT.node (hd.o_139 P) (BT.node (hd.o_207 P) BT.nil BT.nil) BT.nil)) (BT.node (hd.o_89 P) (BT.node (hd.o_123 P) (BT.node (hd.o_191 P) BT.nil BT.nil) BT.nil) (BT.node (hd.o_159 P) (BT.node (hd.o_223 P) BT.nil BT.nil) BT.nil))) (BT.node (hd.o_65 P) (BT.node (hd.o_81 P) (BT.node (hd.o_115 P) (BT.node (hd.o_183 P) BT.nil BT.nil) BT.nil) (BT.node (hd.o_151 P) (BT.node (hd.o_215 P) BT.nil BT.nil) BT.nil)) (BT.node (hd.o_99 P) (BT.node (hd.o_131 P) (BT.node (hd.o_199 P) BT.nil BT.nil) BT.nil) (BT.node (hd.o_167 P) (BT.node (hd.o_231 P) BT.nil BT.nil) BT.nil))))) (BT.node (boot_o_6 P) (BT.node (boot_o_10 P) (BT.node (hd.o_55 P) (BT.node (hd.o_71 P) (BT.node (hd.o_105 P) (BT.node (hd.o_173 P) BT.nil BT.nil) BT.nil) (BT.node (hd.o_137 P) (BT.node (hd.o_205 P) BT.nil BT.nil) BT.nil)) (BT.node (hd.o_87 P) (BT.node (hd.o_121 P) (BT.node (hd.o_189 P) BT.nil BT.nil) BT.nil) (BT.node (hd.o_157 P) (BT.node (hd.o_221 P) BT.nil BT.nil) BT.nil))) (BT.node (hd.o_63 P) (BT.node (hd.o_79 P) (BT.node (hd.o_113 P) (BT.node (hd.o_181 P) BT.nil BT.nil) BT.nil) (BT.node (hd.o_149 P) (BT.node (hd.o_213 P) BT.nil BT.nil) BT.nil)) (BT.node (hd.o_97 P) (BT.node (hd.o_129 P) (BT.node (hd.o_197 P) BT.nil BT.nil) BT.nil) (BT.node (hd.o_165 P) (BT.node (hd.o_229 P) BT.nil BT.nil) BT.nil)))) (BT.node (hd.o_46 P) (BT.node (hd.o_59 P) (BT.node (hd.o_75 P) (BT.node (hd.o_109 P) (BT.node (hd.o_177 P) BT.nil BT.nil) BT.nil) (BT.node (hd.o_141 P) (BT.node (hd.o_209 P) BT.nil BT.nil) BT.nil)) (BT.node (hd.o_91 P) (BT.node (hd.o_125 P) (BT.node (hd.o_193 P) BT.nil BT.nil) BT.nil) (BT.node (hd.o_161 P) (BT.node (hd.o_225 P) BT.nil BT.nil) BT.nil))) (BT.node (hd.o_67 P) (BT.node (hd.o_83 P) (BT.node (hd.o_117 P) (BT.node (hd.o_185 P) BT.nil BT.nil) BT.nil) (BT.node (hd.o_153 P) (BT.node (hd.o_217 P) BT.nil BT.nil) BT.nil)) (BT.node (hd.o_101 P) (BT.node (hd.o_133 P) (BT.node (hd.o_201 P) BT.nil BT.nil) BT.nil) (BT.node (hd.o_169 P) (BT.node (hd.o_233 P) BT.nil BT.nil) BT.nil))))))
noncomputable def hd.tree_264 (P : Params) : BT := BT.node (boot_o_0 P) (BT.node (boot_o_1 P) (BT.node (hd.o_237 P) (BT.node (boot_o_7 P) (BT.node (hd.o_52 P) (BT.node (hd.o_68 P) (BT.node (hd.o_102 P) (BT.node (hd.o_170 P) BT.nil BT.nil) (BT.node (hd.o_234 P) BT.nil BT.nil)) (BT.node (hd.o_134 P) (BT.node (hd.o_202 P) BT.nil BT.nil) BT.nil)) (BT.node (hd.o_84 P) (BT.node (hd.o_118 P) (BT.node (hd.o_186 P) BT.nil BT.nil) (BT.node (hd.o_252 P) BT.nil BT.nil)) (BT.node (hd.o_154 P) (BT.node (hd.o_218 P) BT.nil BT.nil) BT.nil))) (BT.node (hd.o_60 P) (BT.node (hd.o_76 P) (BT.node (hd.o_110 P) (BT.node (hd.o_178 P) BT.nil BT.nil) (BT.node (hd.o_244 P) BT.nil BT.nil)) (BT.node (hd.o_146 P) (BT.node (hd.o_210 P) BT.nil BT.nil) BT.nil)) (BT.node (hd.o_92 P) (BT.node (hd.o_126 P) (BT.node (hd.o_194 P) BT.nil BT.nil) (BT.node (hd.o_260 P) BT.nil BT.nil)) (BT.node (hd.o_162 P) (BT.node (hd.o_226 P) BT.nil BT.nil) BT.nil)))) (BT.node (hd.o_43 P) (BT.node (hd.o_56 P) (BT.node (hd.o_72 P) (BT.node (hd.o_106 P) (BT.node (hd.o_174 P) BT.nil BT.nil) (BT.node (hd.o_240 P) BT.nil BT.nil)) (BT.node (hd.o_138 P) (BT.node (hd.o_206 P) BT.nil BT.nil) BT.nil)) (BT.node (hd.o_88 P) (BT.node (hd.o_122 P) (BT.node (hd.o_190 P) BT.nil BT.nil) (BT.node (hd.o_256 P) BT.nil BT.nil)) (BT.node (hd.o_158 P) (BT.node (hd.o_222 P) BT.nil BT.nil) BT.nil))) (BT.node (hd.o_64 P) (BT.node (hd.o_80 P) (BT.node (hd.o_114 P) (BT.node (hd.o_182 P) BT.nil BT.nil) (BT.node (hd.o_248 P) BT.nil BT.nil)) (BT.node (hd.o_150 P) (BT.node (hd.o_214 P) BT.nil BT.nil) BT.nil)) (BT.node (hd.o_98 P) (BT.node (hd.o_130 P) (BT.node (hd.o_198 P) BT.nil BT.nil) (BT.node (hd.o_264 P) BT.nil BT.nil)) (BT.node (hd.o_166 P) (BT.node (hd.o_230 P) BT.nil BT.nil) BT.nil))))) (BT.node (boot_o_5 P) (BT.node (boot_o_9 P) (BT.node (hd.o_54 P) (BT.node (hd.o_70 P) (BT.node (hd.o_104 P) (BT.node (hd.o_172 P) BT.nil BT.nil) (BT.node (hd.o_236 P) BT.nil BT.nil)) (BT.node (hd.o_136 P) (BT.node (hd.o_204 P) BT.nil BT.nil) BT.nil)) (BT.node (hd.o_86 P) (BT.node (hd.o_120 P) (BT.node (hd.o_188 P) BT.nil BT.nil) (BT.node (hd.o_254 P) BT.nil BT.nil)) (BT.node (hd.o_156 P) (BT.node (hd.o_220 P) BT.nil BT.nil) BT.nil))) (BT.node (hd.o_62 P) (BT.node (hd.o_78 P) (BT.node (hd.o_112 P) (BT.node (hd.o_180 P) BT.nil BT.nil) (BT.node (hd.o_246 P) BT.nil BT.nil)) (BT.node (hd.o_148 P) (BT.node (hd.o_212 P) BT.nil BT.nil) BT.nil)) (BT.node (hd.o_96 P) (BT.node (hd.o_128 P) (BT.node (hd.o_196 P) BT.nil BT.nil) (BT.node (hd.o_262 P) BT.nil BT.nil)) (BT.node (hd.o_164 P) (BT.node (hd.o_228 P) BT.nil BT.nil) BT.nil)))) (BT.node (hd.o_45 P) (BT.node (hd.o_58 P) (BT.node (hd.o_74 P) (BT.node (hd.o_108 P) (BT.node (hd.o_176 P) BT.nil BT.nil) (BT.node (hd.o_242 P) BT.nil BT.nil)) (BT.node (hd.o_140 P) (BT.node (hd.o_208 P) BT.nil BT.nil) BT.nil)) (BT.node (hd.o_90 P) (BT.node (hd.o_124 P) (BT.node (hd.o_192 P) BT.nil BT.nil) (BT.node (hd.o_258 P) BT.nil BT.nil)) (BT.node (hd.o_160 P) (BT.node (hd.o_224 P) BT.nil BT.nil) BT.nil))) (BT.node (hd.o_66 P) (BT.node (hd.o_82 P) (BT.node (hd.o_116 P) (BT.node (hd.o_184 P) BT.nil BT.nil) (BT.node (hd.o_250 P) BT.nil BT.nil)) (BT.node (hd.o_152 P) (BT.node (hd.o_216 P) BT.nil BT.nil) BT.nil)) (BT.node (hd.o_100 P) (BT.node (hd.o_132 P) (BT.node (hd.o_200 P) BT.nil BT.nil) BT.nil) (BT.node (hd.o_168 P) (BT.node (hd.o_232 P) BT.nil BT.nil) BT.nil)))))) (BT.node (hd.o_49 P) (BT.node (boot_o_4 P) (BT.node (boot_o_8 P) (BT.node (hd.o_53 P) (BT.node (hd.o_69 P) (BT.node (hd.o_103 P) (BT.node (hd.o_171 P) BT.nil BT.nil) (BT.node (hd.o_235 P) BT.nil BT.nil)) (BT.node (hd.o_135 P) (BT.node (hd.o_203 P) BT.nil BT.nil) BT.nil)) (BT.node (hd.o_85 P) (BT.node (hd.o_119 P) (BT.node (hd.o_187 P) BT.nil BT.nil) (BT.node (hd.o_253 P) BT.nil BT.nil)) (BT.node (hd.o_155 P) (BT.node (hd.o_219 P) BT.nil BT.nil) BT.nil))) (BT.node (hd.o_61 P) (BT.node (hd.o_77 P) (BT.node (hd.o_111 P) (BT.node (hd.o_179 P) BT.nil BT.nil) (BT.node (hd.o_245 P) BT.nil BT.nil)) (BT.node (hd.o_147 P) (BT.node (hd.o_211 P) BT.nil BT.nil) BT.nil)) (BT.node (hd.o_95 P) (BT.node (hd.o_127 P) (BT.node (hd.o_195 P) BT.nil BT.nil) (BT.node (hd.o_261 P) BT.nil BT.nil)) (BT.node (hd.o_163 P) (BT.node (hd.o_227 P) BT.nil BT.nil) BT.nil)))) (BT.node (hd.o_238 P) (BT.node (hd.o_57 P) (BT.node (hd.o_73 P) (BT.node (hd.o_107 P) (BT.node (hd.o_175 P) BT.nil BT.nil) (BT.node (hd.o_241 P) BT.nil BT.nil)) (BT.node (hd.o_139 P) (BT.node (hd.o_207 P) BT.nil BT.nil) BT.nil)) (BT.node (hd.o_89 P) (BT.node (hd.o_123 P) (BT.node (hd.o_191 P) BT.nil BT.nil) (BT.node (hd.o_257 P) BT.nil BT.nil)) (BT.node (hd.o_159 P) (BT.node (hd.o_223 P) BT.nil BT.nil) BT.nil))) (BT.node (hd.o_65 P) (BT.node (hd.o_81 P) (BT.node (hd.o_115 P) (BT.node (hd.o_183 P) BT.nil BT.nil) (BT.node (hd.o_249 P) BT.nil BT.nil)) (BT.node (hd.o_151 P) (BT.node (hd.o_215 P) BT.nil BT.nil) BT.nil)) (BT.node (hd.o_99 P) (BT.node (hd.o_131 P) (BT.node (hd.o_199 P) BT.nil BT.nil) BT.nil) (BT.node (hd.o_167 P) (BT.node (hd.o_231 P) BT.nil BT.nil) BT.nil))))) (BT.node (boot_o_6 P) (BT.node (boot_o_10 P) (BT.node (hd.o_55 P) (BT.node (hd.o_71 P) (BT.node (hd.o_105 P) (BT.node (hd.o_173 P) BT.nil BT.nil) (BT.node (hd.o_239 P) BT.nil BT.nil)) (BT.node (hd.o_137 P) (BT.node (hd.o_205 P) BT.nil BT.nil) BT.nil)) (BT.node (hd.o_87 P) (BT.node (hd.o_121 P) (BT.node (hd.o_189 P) BT.nil BT.nil) (BT.node (hd.o_255 P) BT.nil BT.nil)) (BT.node (hd.o_157 P) (BT.node (hd.o_221 P) BT.nil BT.nil) BT.nil))) (BT.node (hd.o_63 P) (BT.node (hd.o_79 P) (BT.node (hd.o_113 P) (BT.node (hd.o_181 P) BT.nil BT.nil) (BT.node (hd.o_247 P) BT.nil BT.nil)) (BT.node (hd.o_149 P) (BT.node (hd.o_213 P) BT.nil BT.nil) BT.nil)) (BT.node (hd.o_97 P) (BT.node (hd.o_129 P) (BT.node (hd.o_197 P) BT.nil BT.nil) (BT.node (hd.o_263 P) BT.nil BT.nil)) (BT.node (hd.o_165 P) (BT.node (hd.o_229 P) BT.nil BT.nil) BT.nil)))) (BT.node (hd.o_46 P) (BT.node (hd.o_59 P) (BT.node (hd.o_75 P) (BT.node (hd.o_109 P) (BT.node (hd.o_177 P) BT.nil BT.nil) (BT.node (hd.o_243 P) BT.nil BT.nil)) (BT.node (hd.o_141 P) (BT.node (hd.o_209 P) BT.nil BT.nil) BT.nil)) (BT.node (hd.o_91 P) (BT.node (hd.o_125 P) (BT.node (hd.o_193 P) BT.nil BT.nil) (BT.node (hd.o_259 P) BT.nil BT.nil)) (BT.node (hd.o_161 P) (BT.node (hd.o_225 P) BT.nil BT.nil) BT.nil))) (BT.node (hd.o_67 P) (BT.node (hd.o_83 P) (BT.node (hd.o_117 P) (BT.node (hd.o_185 P) BT.nil BT.nil) (BT.node (hd.o_251 P) BT.nil BT.nil)) (BT.node (hd.o_153 P) (BT.node (hd.o_217 P) BT.nil BT.nil) BT.nil)) (BT.node (hd.o_101 P) (BT.node (hd.o_133 P) (BT.node (hd.o_201 P) BT.nil BT.nil) BT.nil) (BT.node (hd.o_169 P) (BT.node (hd.o_233 P) BT.nil BT.nil) BT.nil))))))
noncomputable def hd.heap_46 (P : Params) : Heap := { objs := { toList := [boot_o_0 P, boot_o_1 P, boot_o_2 P, boot_o_3 P, boot_o_4 P, boot_o_5 P, boot_o_6 P, boot_o_7 P, boot_o_8 P, boot_o_9 P, boot_o_10 P, hd.o_43 P, hd.o_44 P, hd.o_45 P, hd.o_46 P] } }
noncomputable def hd.heap_265 (P : Params) : Heap := { objs := { toList := [boot_o_0 P, boot_o_1 P, hd.o_49 P, hd.o_237 P, boot_o_4 P, boot_o_5 P, boot_o_6 P, boot_o_7 P, boot_o_8 P, boot_o_9 P, boot_o_10 P, hd.o_43 P, hd.o_238 P, hd.o_45 P, hd.o_46 P, hd.o_52 P, hd.o_53 P, hd.o_54 P, hd.o_55 P, hd.o_56 P, hd.o_57 P, hd.o_58 P, hd.o_59 P, hd.o_60 P, hd.o_61 P, hd.o_62 P, hd.o_63 P, hd.o_64 P, hd.o_65 P, hd.o_66 P, hd.o_67 P, hd.o_68 P, hd.o_69 P, hd.o_70 P, hd.o_71 P, hd.o_72 P, hd.o_73 P, hd.o_74 P, hd.o_75 P, hd.o_76 P, hd.o_77 P, hd.o_78 P, hd.o_79 P, hd.o_80 P, hd.o_81 P, hd.o_82 P, hd.o_83 P, hd.o_84 P, hd.o_85 P, hd.o_86 P, hd.o_87 P, hd.o_88 P, hd.o_89 P, hd.o_90 P, hd.o_91 P, hd.o_92 P, hd.o_95 P, hd.o_96 P, hd.o_97 P, hd.o_98 P, hd.o_99 P, hd.o_100 P, hd.o_101 P, hd.o_102 P, hd.o_103 P, hd.o_104 P, hd.o_105 P, hd.o_106 P, hd.o_107 P, hd.o_108 P, hd.o_109 P, hd.o_110 P, hd.o_111 P, hd.o_112 P, hd.o_113 P, hd.o_114 P, hd.o_115 P, hd.o_116 P, hd.o_117 P, hd.o_118 P, hd.o_119 P, hd.o_120 P, hd.o_121 P, hd.o_122 P, hd.o_123 P, hd.o_124 P, hd.o_125 P, hd.o_126 P, hd.o_127 P, hd.o_128 P, hd.o_129 P, hd.o_130 P, hd.o_131 P, hd.o_132 P, hd.o_133 P, hd.o_134 P, hd.o_135 P, hd.o_136 P, hd.o_137 P, hd.o_138 P, hd.o_139 P, hd.o_140 P, hd.o_141 P, hd.o_146 P, hd.o_147 P, hd.o_148 P, hd.o_149 P, hd.o_150 P, hd.o_151 P, hd.o_152 P, hd.o_153 P, hd.o_154 P, hd.o_155 P, hd.o_156 P, hd.o_157 P, hd.o_158 P, hd.o_159 P, hd.o_160 P, hd.o_161 P, hd.o_162 P, hd.o_163 P, hd.o_164 P, hd.o_165 P, hd.o_166 P, hd.o_167 P, hd.o_168 P, hd.o_169 P, hd.o_170 P, hd.o_171 P, hd.o_172 P, hd.o_173 P, hd.o_174 P, hd.o_175 P, hd.o_176 P, hd.o_177 P, hd.o_178 P, hd.o_179 P, hd.o_180 P, hd.o_181 P, hd.o_182 P, hd.o_183 P, hd.o_184 P, hd.o_185 P, hd.o_186 P, hd.o_187 P, hd.o_188 P, hd.o_189 P, hd.o_190 P, hd.o_191 P, hd.o_192 P, hd.o_193 P, hd.o_194 P, hd.o_195 P, hd.o_196 P, hd.o_197 P, hd.o_198 P, hd.o_199 P, hd.o_200 P, hd.o_201 P, hd.o_202 P, hd.o_203 P, hd.o_204 P, hd.o_205 P, hd.o_206 P, hd.o_207 P, hd.o_208 P, hd.o_209 P, hd.o_210 P, hd.o_211 P, hd.o_212 P, hd.o_213 P, hd.o_214 P, hd.o_215 P, hd.o_216 P, hd.o_217 P, hd.o_218 P, hd.o_219 P, hd.o_220 P, hd.o_221 P, hd.o_222 P, hd.o_223 P, hd.o_224 P, hd.o_225 P, hd.o_226 P, hd.o_227 P, hd.o_228 P, hd.o_229 P, hd.o_230 P, hd.o_231 P, hd.o_232 P, hd.o_233 P, hd.o_234 P, hd.o_235 P, hd.o_236 P, hd.o_239 P, hd.o_240 P, hd.o_241 P, hd.o_242 P, hd.o_243 P, hd.o_244 P, hd.o_245 P, hd.o_246 P, hd.o_247 P, hd.o_248 P, hd.o_249 P, hd.o_250 P, hd.o_251 P, hd.o_252 P, hd.o_253 P, hd.o_254 P, hd.o_255 P, hd.o_256 P, hd.o_257 P, hd.o_258 P, hd.o_259 P, hd.o_260 P, hd.o_261 P, hd.o_262 P, hd.o_263 P, hd.o_264 P] } }
noncomputable def hd.env_41 : Env := { scope := hd.P0.main.scope, locals := mainNs, globals := mainNs, cells := [], code := Value.ref 13, frame := some 14 }
noncomputable def hd.sts_93 : List Stmt := (hd.body.drop 9).take 8
noncomputable def hd.sts_49 : List Stmt := (hd.body.drop 0).take 9
noncomputable def hd.sts_144 : List Stmt := (hd.body.drop 23).take 1
noncomputable def hd.sts_237 : List Stmt := (hd.body.drop 24).take 5
noncomputable def hd.sts_142 : List Stmt := (hd.body.drop 17).take 6
theorem hd.cut : behindTheImports hd.P0 = hd.sts_49 ++ (hd.sts_93 ++ (hd.sts_142 ++ (hd.sts_144 ++ (hd.sts_237 ++ [])))) := by kernel_rfl
theorem hd.p0 : ∀ w : World, (fun os => topGo treeTable hd.P0 w 11 (some (Value.ref 6)) 12 { heap := boot_heap w.params, drawn := boot_drawn, toks := boot_toks, os := os } (topStub hd.P0)) = fun os => some (({ heap := hd.heap_46 w.params, toks := 187, os := os } : Shared), ({ cur := denote treeTable (Code.body (behindTheImports hd.P0) hd.env_41), code := (Code.body (behindTheImports hd.P0) hd.env_41), pos := { line := 0, col := 0, endLine := 0, endCol := 0 }, stack := [topFrame { line := 0, col := 0, endLine := 0, endCol := 0 }] } : Thread)) := by intro w; kernel_rfl
theorem hd.p1 : ∀ w : World, (fun os => segRun treeTable hd.P0 w 11 (some (Value.ref 6)) 1 1 ({ heap := hd.heap_46 w.params, toks := 187, os := os } : Shared) (blockOf (behindTheImports hd.P0) hd.env_41 (Code.body (behindTheImports hd.P0) hd.env_41) { line := 0, col := 0, endLine := 0, endCol := 0 } [topFrame { line := 0, col := 0, endLine := 0, endCol := 0 }])) = fun os => some (Flow.next, ({ tree := hd.tree_47 w.params, n := 15, life := { }, gens := { toList := [] }, drawn := { }, toks := 187, os := os } : SharedT).abs, (Code.body (behindTheImports hd.P0) hd.env_41), { line := 0, col := 0, endLine := 0, endCol := 0 }) := by intro w; kernel_rfl
theorem hd.q0 : ∀ w : World, (fun os => segRunT treeTable hd.P0 w 11 (some (Value.ref 6)) 1 381 ({ tree := hd.tree_47 w.params, n := 15, life := { }, gens := { toList := [] }, drawn := { }, toks := 187, os := os } : SharedT) (piecesOf hd.sts_49 hd.env_41 (Code.body (behindTheImports hd.P0) hd.env_41) { line := 0, col := 0, endLine := 0, endCol := 0 } [topFrame { line := 0, col := 0, endLine := 0, endCol := 0 }])) = fun os => some (Flow.next, ({ tree := hd.tree_92 w.params, n := 56, life := { }, gens := { toList := [] }, drawn := { }, toks := 267, os := os } : SharedT), (Code.body (behindTheImports hd.P0) hd.env_41), { line := 29, col := 0, endLine := 36, endCol := 24 }) := by intro w; kernel_rfl
theorem hd.q1 : ∀ w : World, (fun os => segRunT treeTable hd.P0 w 11 (some (Value.ref 6)) 1 394 ({ tree := hd.tree_92 w.params, n := 56, life := { }, gens := { toList := [] }, drawn := { }, toks := 267, os := os } : SharedT) (piecesOf hd.sts_93 hd.env_41 (Code.body (behindTheImports hd.P0) hd.env_41) { line := 29, col := 0, endLine := 36, endCol := 24 } [topFrame { line := 0, col := 0, endLine := 0, endCol := 0 }])) = fun os => some (Flow.next, ({ tree := hd.tree_141 w.params, n := 103, life := { }, gens := { toList := [] }, drawn := { }, toks := 342, os := os } : SharedT), (Code.body (behindTheImports hd.P0) hd.env_41), { line := 71, col := 0, endLine := 71, endCol := 9 }) := by intro w; kernel_rfl
theorem hd.q2 : ∀ w : World, (fun os => segRunT treeTable hd.P0 w 11 (some (Value.ref 6)) 1 55 ({ tree := hd.tree_141 w.params, n := 103, life := { }, gens := { toList := [] }, drawn := { }, toks := 342, os := os } : SharedT) (piecesOf hd.sts_142 hd.env_41 (Code.body (behindTheImports hd.P0) hd.env_41) { line := 71, col := 0, endLine := 71, endCol := 9 } [topFrame { line := 0, col := 0, endLine := 0, endCol := 0 }])) = fun os => some (Flow.next, ({ tree := hd.tree_142 w.params, n := 103, life := { }, gens := { toList := [] }, drawn := { }, toks := 354, os := os } : SharedT), (Code.body (behindTheImports hd.P0) hd.env_41), { line := 77, col := 0, endLine := 77, endCol := 12 }) := by intro w; kernel_rfl
theorem hd.q3 : ∀ w : World, (fun os => segRunT treeTable hd.P0 w 11 (some (Value.ref 6)) 1 557 ({ tree := hd.tree_142 w.params, n := 103, life := { }, gens := { toList := [] }, drawn := { }, toks := 354, os := os } : SharedT) (piecesOf hd.sts_144 hd.env_41 (Code.body (behindTheImports hd.P0) hd.env_41) { line := 77, col := 0, endLine := 77, endCol := 12 } [topFrame { line := 0, col := 0, endLine := 0, endCol := 0 }])) = fun os => some (Flow.next, ({ tree := hd.tree_236 w.params, n := 194, life := { }, gens := { toList := [] }, drawn := { }, toks := 477, os := os } : SharedT), (Code.body (behindTheImports hd.P0) hd.env_41), { line := 78, col := 0, endLine := 153, endCol := 16 }) := by intro w; kernel_rfl
theorem hd.q4 : ∀ w : World, (fun os => segRunT treeTable hd.P0 w 11 (some (Value.ref 6)) 1 130 ({ tree := hd.tree_236 w.params, n := 194, life := { }, gens := { toList := [] }, drawn := { }, toks := 477, os := os } : SharedT) (piecesOf hd.sts_237 hd.env_41 (Code.body (behindTheImports hd.P0) hd.env_41) { line := 78, col := 0, endLine := 153, endCol := 16 } [topFrame { line := 0, col := 0, endLine := 0, endCol := 0 }])) = fun os => some (Flow.next, ({ tree := hd.tree_264 w.params, n := 220, life := { }, gens := { toList := [] }, drawn := { }, toks := 513, os := os } : SharedT), (Code.body (behindTheImports hd.P0) hd.env_41), { line := 171, col := 0, endLine := 197, endCol := 64 }) := by intro w; kernel_rfl
theorem hd.fin : ∀ w : World, (fun os => topRun treeTable hd.P0 w 11 (some (Value.ref 6)) 2 ({ tree := hd.tree_264 w.params, n := 220, life := { }, gens := { toList := [] }, drawn := { }, toks := 513, os := os } : SharedT).abs (restOf [] hd.env_41 (Code.body (behindTheImports hd.P0) hd.env_41) { line := 171, col := 0, endLine := 197, endCol := 64 } [topFrame { line := 0, col := 0, endLine := 0, endCol := 0 }])) = fun os => some ({ heap := hd.heap_265 w.params, toks := 513, os := os } : Shared) := by intro w; kernel_rfl
theorem hd.restE {tb : String → Option Builtin} {p : Program} {w : World} {n₀ N : Nat} {ann : Option Value} {s r : Shared} {l l' : List Stmt} {env : Env} {c : Code} {pos : Pos} {B : List Frame} (e : l = l') (h : topRun tb p w n₀ ann N s (restOf l' env c pos B) = some r) : topRun tb p w n₀ ann N s (restOf l env c pos B) = some r := e ▸ h
theorem hd.run (w : World) (os : OsState) : topRun treeTable hd.P0 w 11 (some (Value.ref 6)) (12 + (1 + (381 + (394 + (55 + (557 + (130 + 2))))))) { heap := boot_heap w.params, drawn := boot_drawn, toks := boot_toks, os := os } (topStub hd.P0) = some ({ heap := hd.heap_265 w.params, toks := 513, os := os } : Shared) :=
  go_top (congrFun (hd.p0 w) os) (piece_block (congrFun (hd.p1 w) os) (hd.restE hd.cut
    (piece_app (segRun_of (congrFun (hd.q0 w) os)) (piece_app (segRun_of (congrFun (hd.q1 w) os)) (piece_app (segRun_of (congrFun (hd.q2 w) os))
      (piece_app (segRun_of (congrFun (hd.q3 w) os)) (piece_app (segRun_of (congrFun (hd.q4 w) os)) (congrFun (hd.fin w) os))))))))
theorem hd.l1 : ∀ w : World, (fun os : OsState => (staticsOk (importedModules hd.P0.main.body) (boot_heap w.params) (hd.heap_265 w.params) && namesBound hd.P0 (hd.heap_265 w.params) && gensDone ({ heap := hd.heap_265 w.params, toks := 513, os := os } : Shared) && laidKept (boot_heap w.params) (hd.heap_265 w.params))) = fun _ => true := by intro w; kernel_rfl
theorem hd.l2 : ∀ w : World, (fun os : OsState => openSeen hd.view_39 [] (importedModules hd.P0.main.body) (fun s => xlAt hd.view_39 [] s && recOk (RowW.records PySem.Challenge.rw_sa0567_01.row.toRowW) s) true ({ heap := hd.heap_265 w.params, toks := 513, os := os } : Shared)) = fun _ => openGood hd.view_39 [] := by intro w; kernel_rfl
theorem hd.l3 : ∀ w : World, (fun os : OsState => hd.as.map ({ heap := hd.heap_265 w.params, toks := 513, os := os } : Shared).heap.get?) = fun _ => (hd.heap_39 w.params).map fun p => some p.2 := by intro w; kernel_rfl
theorem hd.size (w : World) : ((boot_heap w.params).isNs mainGlobals && (Array.mk ([] : List GenState)).size == 0, (boot_heap w.params).objs.size, (boot_heap w.params).nsMap mainGlobals "__annotations__") = (true, 11, some (Value.ref 6)) := by kernel_rfl
theorem hd.fence (s : Shared) : fenceModules? hd.P0 s = some s := by kernel_rfl
theorem hd.plain : opening hd.P0 = plainProg hd.P0.main.scope.names := by kernel_rfl
theorem hd.left : LeftO PySem.Challenge.rw_sa0567_01.row.toRowW.prog hd.view_39 [] (fun s => xlAt hd.view_39 [] s && recOk (RowW.records PySem.Challenge.rw_sa0567_01.row.toRowW) s)
    (fun s => hd.as.map s.heap.get?) (fun w => (hd.heap_39 w.params).map fun p => some p.2) 3150 :=
  LeftO.of_pieces (H₀ := boot_heap) (H₁ := hd.heap_265) (gs₀ := Array.mk []) (gs₁ := Array.mk []) (d₀ := boot_drawn) (d₁ := {}) (k₀ := boot_toks) (k₁ := 513) (m₀ := 11) (ann := some (Value.ref 6))
    (M := 12 + (1 + (381 + (394 + (55 + (557 + (130 + 2))))))) (boot_open hd.plain (by decide) hd.fence) hd.size hd.run (by decide)
    (fun w => funext fun os => looks_pair (congrFun (hd.l1 w) os) (looks_pair (congrFun (hd.l2 w) os) (congrFun (hd.l3 w) os)))
open PySem.Calls Builtin
set_option maxRecDepth 100000
set_option maxHeartbeats 4000000
-- 10_base
/-- the heap with the ledger's objects hidden -/
noncomputable def hid (h : Heap) (muts : List (Addr × Obj)) : Heap := hideAll h (muts.map (·.1))
theorem of_hid {h : Heap} {muts : List (Addr × Obj)} {b : Addr} {o : Obj} (e : (hid h muts).get? b = some o) : h.get? b = some o := of_hideAll _ e
theorem hid_get {h : Heap} {muts : List (Addr × Obj)} {b : Addr} {o : Obj} (e : h.get? b = some o) (hb : ∀ p ∈ muts, p.1 ≠ b) : (hid h muts).get? b = some o :=
  hideAll_get _ e fun hm => by
    obtain ⟨p, hp, e'⟩ := List.mem_map.mp hm
    exact hb p hp e'
theorem hid_none {h : Heap} {muts : List (Addr × Obj)} {p : Addr × Obj} (hp : p ∈ muts) : (hid h muts).get? p.1 = none := hideAll_none _ (List.mem_map_of_mem hp)
theorem hid_nil (h : Heap) : hid h [] = h := rfl

section
variable {prog : Program} {w : World} {A : Around} {s : Shared} {K : Frag} {R : Result → Shared → Prop}
  {name qual : Str} {params : Arguments} {body : List Stmt} {scope : Scope} {dV kV doc pm cdv ct oc : Value} {an od : Option Addr} {osl : Array (Option Value)} {f : Addr} {args : Args} {binds : List (Str × Value)}
  {p : Program} {loose : List Str} {mg mb : Str → Option Value} {muts : List (Addr × Obj)}

theorem enter (hm : ∀ q ∈ muts, s.heap.get? q.1 = some q.2) (X : K.In (hid s.heap muts)) (T : TopRead p loose mg mb (hid s.heap muts))
    (ho : K.lookup f = some ⟨oc, od, .func (fnOf name qual params body scope dV kV doc pm an cdv ct), osl⟩) (hcd : codeIn K cdv qual = true) (hroom : A.depth < recursionLimit)
    (hbind : BindsTo s (fnOf name qual params body scope dV kV doc pm an cdv ct) args binds) (hloc : ∀ y ∈ binds, scope.names.lookup y.1 = some .local)
    (h : ∀ g L' h₁ tk, g = hid s.heap muts → L' = s.heap.objs.size → Fr g L' h₁ (fun y => binds.reverse.lookup y) → News g L' h₁ muts → K.In g → TopRead p loose mg mb g → (∀ q ∈ muts, q.1 < L') →
      wpAny (model prog w) (A.deeper (envOf qual scope L' f cdv)) (execs body (envOf qual scope L' f cdv))
        (fun fl s' => R (.ok (.ret (match fl with | .ret v => v | _ => .none))) s')
        (fun e s' => wpAny (model prog w) (A.deeper (envOf qual scope L' f cdv)) (leaving (envOf qual scope L' f cdv) e) (fun _ s'' => R (.error e) s'') (fun e' s'' => R (.error e') s'') s')
        { s with heap := h₁, toks := tk })
    (hcell : ∀ x ∈ scope.names, x.2 ≠ .cell) (hco : scope.isCoroutine = false := by rfl) (hgen : scope.isGenerator = false := by rfl) (hk : scope.kind = .function := by rfl) :
    codeAny (model prog w) A (.call (.ref f) args) R s := by
  refine codeAny_call_def (fd := fnOf name qual params body scope dV kV doc pm an cdv ct) (body := body) (binds := binds) hroom (of_hid (X _ _ ho)) rfl (T.nolimit.keeps fun b o e => of_hid e)
    (codeRec_of (fun a o e => of_hid (X a o e)) hcd) rfl hbind hcell hloc (fun h₁ hns hk₁ => ?_) hco hgen hk
  exact h _ _ h₁ _ rfl rfl ⟨hns, fun b o e => hk₁ b o (of_hid e), Nat.le_of_eq (hideAll_size _ _)⟩
    (fun q hq => ⟨hk₁ _ _ (hm q hq), Nat.ne_of_lt (Heap.lt_size (hm q hq)), hid_none hq⟩) X T (fun q hq => Heap.lt_size (hm q hq))
end

/-- a piece in the heap: a tuple of an int and bytes -/
noncomputable def PcIn (P : Addr → Obj → Prop) (v : Value) (q : Int × Array UInt8) : Prop :=
  ∃ a n t u, v = .ref a ∧ P a { cls := .type "tuple", data := .seq #[.int q.1 t, .bytes q.2 u] n }
inductive PcsIn (P : Addr → Obj → Prop) : List Value → List (Int × Array UInt8) → Prop
  | nil : PcsIn P [] []
  | cons {v vs q qs} : PcIn P v q → PcsIn P vs qs → PcsIn P (v :: vs) (q :: qs)
theorem PcIn.mono {P P' : Addr → Obj → Prop} (hP : ∀ a o, P a o → P' a o) {v q} (h : PcIn P v q) : PcIn P' v q :=
  let ⟨a, n, t, u, e, k⟩ := h; ⟨a, n, t, u, e, hP _ _ k⟩
theorem PcsIn.mono {P P' : Addr → Obj → Prop} (hP : ∀ a o, P a o → P' a o) {vs qs} (h : PcsIn P vs qs) : PcsIn P' vs qs := by
  induction h with
  | nil => exact .nil
  | cons a _ ih => exact .cons (a.mono hP) ih
theorem PcsIn.mono' {P P' : Addr → Obj → Prop} {vs qs} (h : PcsIn P vs qs) (hP : ∀ a o, P a o → o.cls = .type "tuple" → P' a o) : PcsIn P' vs qs := by
  induction h with
  | nil => exact .nil
  | cons a _ ih =>
    obtain ⟨b, n, t, u, e, k⟩ := a
    exact .cons ⟨b, n, t, u, e, hP _ _ k rfl⟩ ih
theorem PcsIn.length {P : Addr → Obj → Prop} {vs qs} (h : PcsIn P vs qs) : vs.length = qs.length := by
  induction h with
  | nil => rfl
  | cons _ _ ih => simp [ih]
theorem PcsIn.append {P : Addr → Obj → Prop} {vs qs ws rs} (h : PcsIn P vs qs) (k : PcsIn P ws rs) : PcsIn P (vs ++ ws) (qs ++ rs) := by
  induction h with
  | nil => exact k
  | cons a _ ih => exact .cons a ih
theorem PcsIn.get {P : Addr → Obj → Prop} {vs qs} (h : PcsIn P vs qs) {i : Nat} {v : Value} (hv : vs[i]? = some v) : ∃ q, qs[i]? = some q ∧ PcIn P v q := by
  induction h generalizing i with
  | nil => simp at hv
  | cons a _ ih =>
    cases i with
    | zero => simp at hv; subst hv; exact ⟨_, by simp, a⟩
    | succ i => simpa using ih (by simpa using hv)
/-- at the heap -/
noncomputable abbrev AtH (h : Heap) : Addr → Obj → Prop := fun a o => h.get? a = some o
theorem nw_tail {g h : Heap} {L : Addr} {q : Addr × Obj} {l : List (Addr × Obj)} (N : News g L h (q :: l)) : News g L h l := fun p hp => N p (.tail _ hp)
theorem all3 {m : Str → Option Value} {a b c : Str} {x y z : Value} (h1 : m a = some x) (h2 : m b = some y) (h3 : m c = some z) : ∀ p ∈ [(a, x), (b, y), (c, z)], m p.1 = some p.2 := fun p hp => by
  rcases List.mem_cons.mp hp with rfl | hp
  · exact h1
  rcases List.mem_cons.mp hp with rfl | hp
  · exact h2
  · rw [List.mem_singleton.mp hp]; exact h3
theorem all_mk {α : Type} {p : α → Prop} {a : α} {l : List α} (h : p a) (t : ∀ x ∈ l, p x) : ∀ x ∈ a :: l, p x := fun x hx => by
  rcases List.mem_cons.mp hx with rfl | hx
  · exact h
  · exact t x hx
-- 20_loop
/-- the end of a turn: the iterator stands as it stood, the word holds of the frame and of a part of the ledger -/
noncomputable def TurnEnd (g : Heap) (L it : Addr) (o : Obj) (Jn : (Str → Option Value) → List (Addr × Obj) → Prop) (s₁ : Shared) (Q : Flow → Shared → Prop) (f : Flow) (s₂ : Shared) : Prop :=
  match f with
  | .ret v => Q (.ret v) s₂
  | .brk => Q .next s₂
  | _ => ∃ h' tk m' news' nx, s₂ = { s₁ with heap := h', toks := tk } ∧ Fr g L h' m' ∧ News g L h' news' ∧ (it, o) ∈ news' ∧ (∀ p ∈ nx, p ∈ news' ∧ p.1 ≠ it) ∧ Jn m' nx
theorem TurnEnd.intro {g : Heap} {L it : Addr} {o : Obj} {Jn : (Str → Option Value) → List (Addr × Obj) → Prop} {s₁ : Shared} {Q : Flow → Shared → Prop} {h' : Heap} {tk : Nat} {m' : Str → Option Value} {news' : List (Addr × Obj)} (nx : List (Addr × Obj))
    (F : Fr g L h' m') (N : News g L h' news') (hi : (it, o) ∈ news') (hn : ∀ p ∈ nx, p ∈ news' ∧ p.1 ≠ it) (hj : Jn m' nx) :
    TurnEnd g L it o Jn s₁ Q .next { s₁ with heap := h', toks := tk } := ⟨h', tk, m', news', nx, rfl, F, N, hi, hn, hj⟩
theorem TurnEnd.cont {g : Heap} {L it : Addr} {o : Obj} {Jn : (Str → Option Value) → List (Addr × Obj) → Prop} {s₁ : Shared} {Q : Flow → Shared → Prop} {s₂ : Shared} (h : TurnEnd g L it o Jn s₁ Q .next s₂) :
    TurnEnd g L it o Jn s₁ Q .cont s₂ := h

/-- a turn that has appended one new object to a list of the frame's; what else it made is dropped -/
theorem TurnEnd.appended {g : Heap} {L it D lf : Addr} {o tup : Obj} {Jn : (Str → Option Value) → List (Addr × Obj) → Prop} {s₁ : Shared} {Q : Flow → Shared → Prop} {h' : Heap} {tk n : Nat} {m' : Str → Option Value} {pre tl : List (Addr × Obj)} {lvs : List Value}
    (F : Fr g L h' m') (N : News g L h' ((D, tup) :: (pre ++ (it, o) :: (lf, W.listOf (lvs.toArray.push (.ref D)) (n + 1)) :: tl))) (hD : @LT.lt Nat _ it D) (hil : @Ne Nat lf it) (hit : ∀ q ∈ tl, q.1 ≠ it)
    (hj : Jn m' ((lf, W.listOf (lvs ++ [Value.ref D]).toArray (n + 1)) :: (D, tup) :: tl)) : TurnEnd g L it o Jn s₁ Q .next { s₁ with heap := h', toks := tk } := by
  refine TurnEnd.intro _ F N (.tail _ (List.mem_append_right _ (.head _))) (fun p hp => ?_) hj
  rcases List.mem_cons.mp hp with rfl | hp
  · refine ⟨?_, hil⟩
    rw [← List.push_toArray]
    exact .tail _ (List.mem_append_right _ (.tail _ (.head _)))
  · rcases List.mem_cons.mp hp with rfl | hp
    · exact ⟨.head _, Nat.ne_of_gt hD⟩
    · exact ⟨.tail _ (List.mem_append_right _ (.tail _ (.tail _ hp))), hit p hp⟩
theorem tl_cons {tl : List (Addr × Obj)} {a b : Addr} {o : Obj} (h : ∀ q ∈ tl, q.1 ≠ a) (hb : @LT.lt Nat _ a b) : ∀ q ∈ (b, o) :: tl, q.1 ≠ a := fun q hq => by
  rcases List.mem_cons.mp hq with rfl | hq
  · exact Nat.ne_of_gt hb
  · exact h q hq
theorem foldl_take {α β : Type} (f : β → α → β) (b : β) {xs : List α} {i : Nat} {x : α} (h : xs[i]? = some x) : (xs.take (i + 1)).foldl f b = f ((xs.take i).foldl f b) x := by
  rw [List.take_add_one, h]; simp

/-- what is known of names is written into the frame's map -/
noncomputable def putAll : List (Str × Value) → (Str → Option Value) → Str → Option Value
  | [], m => m
  | (x, v) :: r, m => fun y => if y = x then some v else putAll r m y
theorem putAll_eq {m : Str → Option Value} : ∀ {fs : List (Str × Value)}, (∀ p ∈ fs, m p.1 = some p.2) → putAll fs m = m
  | [], _ => rfl
  | (x, v) :: r, h => by
    funext y
    show (if y = x then some v else putAll r m y) = m y
    rw [putAll_eq fun p hp => h p (.tail _ hp)]
    by_cases q : y = x
    · rw [if_pos q, q]; exact (h (x, v) (.head _)).symm
    · rw [if_neg q]
theorem fr_at {g h : Heap} {L : Addr} {m : Str → Option Value} (F : Fr g L h m) (fs : List (Str × Value)) (hs : ∀ p ∈ fs, m p.1 = some p.2) : Fr g L h (putAll fs m) := by
  rw [putAll_eq hs]; exact F

section
variable {prog : Program} {w : World} {A : Around} {E : Value → Shared → Prop} {s : Shared} {env : Env} {g : Heap} {target : Expr} {body : List Stmt} {Q : Flow → Shared → Prop}

/-- a for over an iterator whose only changing object is its own -/
theorem forWalk {I : Addr} {fp : List Addr} {cls : String} {n : Nat} {P Md : Nat → Value → Heap → Prop} {St : Nat → Heap → Prop} {m₀ : Str → Option Value} {news₀ : List (Addr × Obj)}
    (W : KTurns prog w A target I fp [I] n P Md St) (hfp : ∀ b ∈ fp, b = I ∨ ∃ o, g.get? b = some o) (hI : g.get? I = none) (hLf : env.locals ∉ fp)
    (hcl : ∀ i h, St i h → ∃ o, h.get? I = some o ∧ o.cls = .type cls)
    (hst : St 0 s.heap) (F : Fr g env.locals s.heap m₀) (N : News g env.locals s.heap news₀) (hnw : ∀ p ∈ news₀, p.1 ≠ I)
    (J : Nat → (Str → Option Value) → List (Addr × Obj) → Prop) (h0 : J 0 m₀ news₀)
    (turn : ∀ i v m₁ news₁ h tk o, i < n → P i v h → J i m₁ news₁ → o.cls = .type cls → (∀ p ∈ news₁, p.1 ≠ I) → Fr g env.locals h m₁ → News g env.locals h ((I, o) :: news₁) →
      wpAny (model prog w) A (assign target env v) (fun _ s₂ => wpAny (model prog w) A (execs body env) (TurnEnd g env.locals I o (J (i + 1)) { s with heap := h, toks := tk } Q) (fun _ _ => False) s₂) (fun _ _ => False) { s with heap := h, toks := tk })
    (done : ∀ m₁ news₁ h tk, J n m₁ news₁ → Fr g env.locals h m₁ → News g env.locals h news₁ → Q .next { s with heap := h, toks := tk }) :
    codeAny (model prog w) A (.forLoop target (.ref I) body [] env) (fun r s' => match r with | .ok f => Q f s' | .error e => cameBackBy (model prog w) A env E e s') s := by
  refine ktu_loop (R := fun r s' => match r with | .ok f => Q f s' | .error e => cameBackBy (model prog w) A env E e s') W hLf (fun b hb => (List.mem_singleton.mp hb) ▸ hI) (fun p hp hm => hnw p hp (List.mem_singleton.mp hm)) hst F N J h0 ?_ ?_
  · intro i v m₁ news₁ h₁ tk₁ own hin hP hJ hoff hown hget hall hst₁ F₁ N₁
    obtain ⟨o, ho, hoc⟩ := hcl _ _ hst₁
    have hIfp : I ∈ fp := W.sub _ (List.mem_singleton.mpr rfl)
    have hio : (I, o) ∈ own := hall I hIfp hI o ho
    have hoff' : ∀ p ∈ news₁, p.1 ≠ I := fun p hp e => hoff p hp (List.mem_singleton.mpr e)
    have N₂ : News g env.locals h₁ ((I, o) :: news₁) := fun p hp => by
      rcases List.mem_cons.mp hp with rfl | hp
      · exact N₁ _ (List.mem_append_left _ hio)
      · exact N₁ _ (List.mem_append_right _ hp)
    have hownI : ∀ p ∈ own, p = (I, o) := fun p hp => by
      rcases hfp p.1 (hown p hp) with e | ⟨o', e⟩
      · have h1 := hget p hp
        rw [e, ho] at h1
        exact Prod.ext e (Option.some.inj h1).symm
      · have h1 := (N₁ p (List.mem_append_left _ hp)).2.2
        rw [e] at h1; cases h1
    refine wpAny_mono (turn i v m₁ news₁ h₁ tk₁ o hin hP hJ hoc hoff' F₁ N₂) (fun _ s₂ h₂ => wpAny_mono h₂ (fun f s₃ p => ?_) fun _ _ e => e.elim) fun _ _ e => e.elim
    have fin : ∀ s₃, TurnEnd g env.locals I o (J (i + 1)) { s with heap := h₁, toks := tk₁ } Q .next s₃ → LoopStepU g env.locals [I] own (J (i + 1)) { s with heap := h₁, toks := tk₁ } .next s₃ := by
      rintro s₃ ⟨h', tk, m', news', nx, e, F', N', hi, hn, hj⟩
      refine ⟨rfl, h', tk, m', nx, e, F', fun p hp => ?_, fun p hp hm => (hn p hp).2 (List.mem_singleton.mp hm), hj⟩
      rcases List.mem_append.mp hp with hp | hp
      · rw [hownI p hp]; exact N' _ hi
      · exact N' _ (hn p hp).1
    cases f with
    | ret v => exact p
    | brk => exact p
    | next => exact LoopStepV.next (fin _ p)
    | cont => exact LoopStepV.cont (fin _ p)
  · intro h' tk m' news' F' N' _ hJ
    exact done m' news' h' tk hJ F' N'

/-- a for over a list that the frame's base holds -/
theorem forList {l : Addr} {vs : List Value} {m₀ : Str → Option Value} {news₀ : List (Addr × Obj)} (hl : g.IsList l vs.toArray) (hh : A.handled = none)
    (F : Fr g env.locals s.heap m₀) (N : News g env.locals s.heap news₀) (J : Nat → (Str → Option Value) → List (Addr × Obj) → Prop) (h0 : J 0 m₀ news₀)
    (turn : ∀ i v m₁ news₁ h tk it o, vs[i]? = some v → J i m₁ news₁ → o.cls = .type "list_iterator" → (∀ p ∈ news₁, p.1 ≠ it) → Fr g env.locals h m₁ → News g env.locals h ((it, o) :: news₁) →
      wpAny (model prog w) A (assign target env v) (fun _ s₂ => wpAny (model prog w) A (execs body env) (TurnEnd g env.locals it o (J (i + 1)) { s with heap := h, toks := tk } Q) (fun _ _ => False) s₂) (fun _ _ => False) { s with heap := h, toks := tk })
    (done : ∀ m₁ news₁ h tk, J vs.length m₁ news₁ → Fr g env.locals h m₁ → News g env.locals h news₁ → Q .next { s with heap := h, toks := tk }) :
    wpAny (model prog w) A (pyIter (.ref l)) (fun it s₂ => codeAny (model prog w) A (.forLoop target it body [] env) (fun r s' => match r with | .ok f => Q f s' | .error e => cameBackBy (model prog w) A env E e s') s₂) E s := by
  have hls : s.heap.IsList l vs.toArray := hl.at fun o e => F.keep l o e
  obtain ⟨ol, hol, _⟩ := id hl
  have hlt : l < s.heap.objs.size := Heap.lt_size (F.keep _ _ hol)
  have hne : l ≠ s.heap.objs.size := Nat.ne_of_lt hlt
  refine wpAny_pyIter_list hls ?_
  have W := Walks.list (prog := prog) (w := w) hh s.heap.objs.size l hne vs.toArray
  refine forWalk (s := { s with heap := _ }) (cls := "list_iterator") (KTurns.ofWalks (target := target) W fun i v s Q E st q => letGo_listiter st.1 q) (fun b hb => ?_) (next_is_new F) ?_ (fun i h st => ?_) ?_ (F.push _) (fun p hp => ⟨Heap.get?_push_of_some _ (N p hp).1, (N p hp).2⟩)
    (fun p hp => Nat.ne_of_lt (Heap.lt_size (N p hp).1)) J h0 (fun i v m₁ news₁ h tk o hin hP hJ hoc hoff F₁ N₁ => ?_) (fun m₁ news₁ h tk hJ F₁ N₁ => ?_)
  · have hb' : b = s.heap.objs.size ∨ b = l := by simpa using hb
    rcases hb' with e | e
    · exact .inl e
    · exact .inr ⟨ol, e ▸ hol⟩
  · intro hm
    have hb' : env.locals = s.heap.objs.size ∨ env.locals = l := by simpa using hm
    rcases hb' with e | e
    · exact absurd F.ns.lt (e ▸ Nat.lt_irrefl _)
    · exact absurd (Heap.lt_size hol) (Nat.not_lt.mpr (e ▸ F.above))
  · obtain ⟨it, hit, hic, _⟩ := st.1
    exact ⟨it, hit, hic⟩
  · exact ⟨⟨_, Heap.get?_push_size _ rfl, rfl, rfl⟩, hls.at fun o e => Heap.get?_push_of_some _ e⟩
  · have hP' : vs.toArray[i]? = some v := hP
    exact turn i v m₁ news₁ h tk _ o (by simpa using hP') hJ hoc hoff F₁ N₁
  · exact done m₁ news₁ h tk (by simpa using hJ) F₁ N₁
/-- the same; the turn's end is told by a word of its own -/
theorem forListN {l : Addr} {vs : List Value} {m₀ : Str → Option Value} {news₀ : List (Addr × Obj)} {hp : Heap} {gs : Array GenState} {dr : Drawn} {tk₀ : Nat} {os : OsState} (hl : g.IsList l vs.toArray) (hh : A.handled = none)
    (F : Fr g env.locals hp m₀) (N : News g env.locals hp news₀) (J : Nat → (Str → Option Value) → List (Addr × Obj) → Prop) (h0 : J 0 m₀ news₀)
    (turn : ∀ i v m₁ news₁ h tk it o (P : Flow → Shared → Prop), (∀ h' tk' m' news' nx, Fr g env.locals h' m' → News g env.locals h' news' → (it, o) ∈ news' → (∀ p ∈ nx, p ∈ news' ∧ p.1 ≠ it) → J (i + 1) m' nx → P .next ⟨h', gs, dr, tk', os⟩) →
      vs[i]? = some v → J i m₁ news₁ → (∀ p ∈ news₁, p.1 ≠ it) → Fr g env.locals h m₁ → News g env.locals h ((it, o) :: news₁) →
      wpAny (model prog w) A (assign target env v) (fun _ s₂ => wpAny (model prog w) A (execs body env) P (fun _ _ => False) s₂) (fun _ _ => False) ⟨h, gs, dr, tk, os⟩)
    (done : ∀ m₁ news₁ h tk, J vs.length m₁ news₁ → Fr g env.locals h m₁ → News g env.locals h news₁ → Q .next ⟨h, gs, dr, tk, os⟩) :
    wpAny (model prog w) A (pyIter (.ref l)) (fun it s₂ => codeAny (model prog w) A (.forLoop target it body [] env) (fun r s' => match r with | .ok f => Q f s' | .error e => cameBackBy (model prog w) A env E e s') s₂) E ⟨hp, gs, dr, tk₀, os⟩ :=
  forList (s := ⟨hp, gs, dr, tk₀, os⟩) hl hh F N J h0 (fun i v m₁ news₁ h tk it o hv hJ _ hoff F₁ N₁ => turn i v m₁ news₁ h tk it o _ (fun _ _ _ _ nx F' N' hi hn hj => TurnEnd.intro nx F' N' hi hn hj) hv hJ hoff F₁ N₁) done
end
/-- a new object and what stood, behind a turn -/
theorem turn_nx {D it lf : Addr} {tup o oL : Obj} {pre tl : List (Addr × Obj)} (hD : @LT.lt Nat _ it D) (hil : @Ne Nat lf it) (hit : ∀ q ∈ tl, q.1 ≠ it) : ∀ p ∈ (lf, oL) :: (D, tup) :: tl, p ∈ (D, tup) :: (pre ++ (it, o) :: (lf, oL) :: tl) ∧ p.1 ≠ it := fun p hp => by
  rcases List.mem_cons.mp hp with rfl | hp
  · exact ⟨.tail _ (List.mem_append_right _ (.tail _ (.head _))), hil⟩
  rcases List.mem_cons.mp hp with rfl | hp
  · exact ⟨.head _, Nat.ne_of_gt hD⟩
  · exact ⟨.tail _ (List.mem_append_right _ (.tail _ (.tail _ hp))), hit p hp⟩
theorem PcsIn.at {P : Addr → Obj → Prop} {vs qs} (h : PcsIn P vs qs) {i : Nat} {v : Value} (hv : vs[i]? = some v) {C : Prop} (k : ∀ q a n t u, qs[i]? = some q → v = .ref a → P a { cls := .type "tuple", data := .seq #[.int q.1 t, .bytes q.2 u] n } → C) : C := by
  obtain ⟨q, hq, a, n, t, u, e, ha⟩ := h.get hv
  exact k q a n t u hq e ha
-- 22_led
section
variable {prog : Program} {w : World} {A : Around} {E : Value → Shared → Prop} {s : Shared} {g h h' : Heap} {L d : Addr} {m : Str → Option Value} {news : List (Addr × Obj)} {o o' : Obj} {G : Obj → List (Addr × Obj)} {K : Frag}
  {p : Program} {loose : List Str} {mg mb : Str → Option Value} {muts : List (Addr × Obj)}
/-- what the base holds stands where a part of the ledger is hidden -/
theorem base_hid (F : Fr g L h m) (N : News g L h news) (hs : ∀ q ∈ muts, q ∈ news) : ∀ b ob, g.get? b = some ob → (hid h muts).get? b = some ob := fun b ob e =>
  hid_get (F.keep b ob e) fun q hq he => by
    have := (N q (hs q hq)).2.2
    rw [he, e] at this; cases this
theorem in_hid (F : Fr g L h m) (N : News g L h news) (X : K.In g) (hs : ∀ q ∈ muts, q ∈ news) : K.In (hid h muts) := X.keeps (base_hid F N hs)
theorem top_hid (F : Fr g L h m) (N : News g L h news) (T : TopRead p loose mg mb g) (hs : ∀ q ∈ muts, q ∈ news) : TopRead p loose mg mb (hid h muts) := T.keeps (base_hid F N hs)
/-- one object of the ledger has changed, all else stands -/
theorem led_step (F : Fr g L h m) (N : News g L h news) (U : UpdF d o news G) (hk : ∀ b ob, b ≠ d → h.get? b = some ob → h'.get? b = some ob) (hd : h'.get? d = some o') : Fr g L h' m ∧ News g L h' (G o') := by
  obtain ⟨pre, post, e0, hg, x1, x2⟩ := U.split
  subst e0
  have D := N (d, o) (by simp)
  refine ⟨⟨F.ns.at' fun ob e => hk _ _ (Ne.symm D.2.1) e, fun b ob e => hk b ob (fun z => ?_) (F.keep b ob e), F.above⟩, ?_⟩
  · have := D.2.2; rw [← z, e] at this; cases this
  · rw [hg]
    intro q hq
    rcases List.mem_append.mp hq with hq | hq
    · have P := N q (List.mem_append_left _ hq); exact ⟨hk _ _ (x1 q hq) P.1, P.2⟩
    · rcases List.mem_cons.mp hq with rfl | hq
      · exact ⟨hd, D.2⟩
      · have P := N q (List.mem_append_right _ (.tail _ hq)); exact ⟨hk _ _ (x2 q hq) P.1, P.2⟩
/-- nothing has changed -/
theorem led_keep (F : Fr g L h m) (N : News g L h news) (hk : ∀ b ob, h.get? b = some ob → h'.get? b = some ob) : Fr g L h' m ∧ News g L h' news :=
  ⟨F.keeps hk, fun q hq => ⟨hk _ _ (N q hq).1, (N q hq).2⟩⟩
/-- a new object -/
theorem led_new {D : Addr} {oD : Obj} (F : Fr g L h m) (N : News g L h' news) (hk : ∀ b ob, h.get? b = some ob → h'.get? b = some ob) (hn : h.get? D = none) (hD : h'.get? D = some oD) : News g L h' ((D, oD) :: news) := fun q hq => by
  rcases List.mem_cons.mp hq with rfl | hq
  · refine ⟨hD, fun e => ?_, ?_⟩
    · obtain ⟨oL, _, _, hL, _⟩ := F.ns
      rw [← e] at hL
      have hL' : h.get? D = some oL := hL
      rw [hn] at hL'; cases hL'
    · cases q : g.get? D with
      | none => rfl
      | some ob => have := F.keep _ _ q; rw [hn] at this; cases this
  · exact N q hq
theorem updF_mem (U : UpdF d o news G) : (d, o) ∈ news := by
  obtain ⟨pre, post, e0, _⟩ := U.split
  rw [e0]; simp
theorem rec_is : recursionLimit = 1000 := rfl
end
-- 24_tail
theorem type_ne {P : Prop} {a b : String} (h : Value.type a = Value.type b) (hn : a ≠ b := by decide) : P := absurd (Value.type.inj h) hn
noncomputable def AllNe (d : Addr) : List (Addr × Obj) → Prop
  | [] => True
  | p :: r => @Ne Nat p.1 d ∧ AllNe d r
theorem allNe_of {d : Addr} : ∀ {l : List (Addr × Obj)}, (∀ p ∈ l, p.1 ≠ d) → AllNe d l
  | [], _ => trivial
  | p :: _, h => ⟨h p (.head _), allNe_of fun q hq => h q (.tail _ hq)⟩
noncomputable def AllTup (tl : List (Addr × Obj)) : Prop := ∀ q ∈ tl, q.2.cls = .type "tuple"
theorem AllTup.append {a b : List (Addr × Obj)} (h : AllTup a) (k : AllTup b) : AllTup (a ++ b) := fun q hq => (List.mem_append.mp hq).elim (h q) (k q)
theorem AllTup.nil : AllTup [] := fun _ h => nomatch h
theorem tl_app {a b : List (Addr × Obj)} {d : Addr} (h : ∀ q ∈ a, q.1 ≠ d) (k : ∀ q ∈ b, q.1 ≠ d) : ∀ q ∈ a ++ b, q.1 ≠ d := fun q hq => (List.mem_append.mp hq).elim (h q) (k q)
section
variable {g h h' : Heap} {L d : Addr} {m : Str → Option Value} {news tl : List (Addr × Obj)} {o : Obj}
/-- an object that is no tuple lies apart from the tuples -/
theorem tl_off (N : News g L h news) (hd : (d, o) ∈ news) (ho : (o.cls == Value.type "tuple") = false) (ht : AllTup tl) (hs : ∀ q ∈ tl, q ∈ news) : ∀ q ∈ tl, q.1 ≠ d := fun q hq e => by
  have h1 := (N q (hs q hq)).1
  have h2 := (N _ hd).1
  rw [e] at h1
  have : o = q.2 := Option.some.inj (h2.symm.trans h1)
  rw [this, ht q hq] at ho
  simp at ho
/-- the tuples of a list of pieces: in the base, or of the ledger -/
theorem pcs_tail (F : Fr g L h m) {ws : List Value} {qs : List (Int × Array UInt8)} (hp : PcsIn (AtH h) ws qs) : ∃ tl, News g L h tl ∧ AllTup tl ∧ PcsIn (fun a o => g.get? a = some o ∨ (a, o) ∈ tl) ws qs := by
  induction hp with
  | nil => exact ⟨[], (fun _ h => nomatch h), .nil, .nil⟩
  | cons hq _ ih =>
    obtain ⟨tl, N, ht, k⟩ := ih
    obtain ⟨a, n, t, u, rfl, ha⟩ := hq
    cases e : g.get? a with
    | some o =>
      have := F.keep _ _ e
      have ha' : h.get? a = _ := ha
      rw [ha'] at this
      obtain rfl := Option.some.inj this
      exact ⟨tl, N, ht, .cons ⟨a, n, t, u, rfl, .inl e⟩ k⟩
    | none =>
      refine ⟨_ :: tl, fun q hq => ?_, fun q hq => ?_, .cons ⟨a, n, t, u, rfl, .inr (.head _)⟩ (k.mono fun b o h => h.imp id (.tail _))⟩
      · rcases List.mem_cons.mp hq with rfl | hq
        · refine ⟨ha, fun q => ?_, e⟩
          obtain ⟨oL, es, ep, hL, hd, _⟩ := F.ns
          have ha' : h.get? a = _ := ha
          have q' : a = L := q
          rw [q', hL] at ha'
          obtain rfl := Option.some.inj ha'
          cases hd
        · exact N q hq
      · rcases List.mem_cons.mp hq with rfl | hq
        · rfl
        · exact ht q hq
theorem led_app {a b : List (Addr × Obj)} (N : News g L h a) (M : News g L h b) : News g L h (a ++ b) := fun q hq => (List.mem_append.mp hq).elim (N q) (M q)
theorem pcs_at {P : Addr → Obj → Prop} (F : Fr g L h m) (N : News g L h news) {ws : List Value} {qs : List (Int × Array UInt8)} (hp : PcsIn (fun a o => g.get? a = some o ∨ (a, o) ∈ tl) ws qs) (hs : ∀ q ∈ tl, q ∈ news) : PcsIn (AtH h) ws qs :=
  hp.mono fun a o x => x.elim (F.keep a o) fun x => (N _ (hs _ x)).1
end
noncomputable def AllSeq (tl : List (Addr × Obj)) : Prop := ∀ q ∈ tl, q.2.cls = .type "tuple" ∨ q.2.cls = .type "list"
theorem AllTup.seq {tl : List (Addr × Obj)} (h : AllTup tl) : AllSeq tl := fun q hq => .inl (h q hq)
theorem AllSeq.append {a b : List (Addr × Obj)} (h : AllSeq a) (k : AllSeq b) : AllSeq (a ++ b) := fun q hq => (List.mem_append.mp hq).elim (h q) (k q)
section
variable {g h h' : Heap} {L d : Addr} {m : Str → Option Value} {news tl : List (Addr × Obj)} {o : Obj}
theorem seq_off (N : News g L h news) (hd : (d, o) ∈ news) (ho : (o.cls == Value.type "tuple" || o.cls == Value.type "list") = false) (ht : AllSeq tl) (hs : ∀ q ∈ tl, q ∈ news) : ∀ q ∈ tl, q.1 ≠ d := fun q hq e => by
  have h1 := (N q (hs q hq)).1
  have h2 := (N _ hd).1
  rw [e] at h1
  have : o = q.2 := Option.some.inj (h2.symm.trans h1)
  rw [this] at ho
  rcases ht q hq with e | e
  · rw [e] at ho; simp at ho
  · rw [e] at ho; simp at ho
/-- a list and its tuples: in the base, or of the ledger -/
theorem list_tail (F : Fr g L h m) {lw : Addr} {ws : List Value} {n : Nat} {qs : List (Int × Array UInt8)} (hl : h.get? lw = some (W.listOf (List.toArray ws) n)) (hp : PcsIn (AtH h) ws qs) :
    ∃ tl, News g L h tl ∧ AllSeq tl ∧ (g.get? lw = some (W.listOf (List.toArray ws) n) ∨ (lw, W.listOf (List.toArray ws) n) ∈ tl) ∧ PcsIn (fun a o => g.get? a = some o ∨ (a, o) ∈ tl) ws qs := by
  obtain ⟨tl, N, ht, k⟩ := pcs_tail F hp
  cases e : g.get? lw with
  | some o =>
    have := F.keep _ _ e
    rw [hl] at this
    obtain rfl := Option.some.inj this
    exact ⟨tl, N, ht.seq, .inl rfl, k⟩
  | none =>
    refine ⟨(lw, W.listOf (List.toArray ws) n) :: tl, fun q hq => ?_, fun q hq => ?_, .inr (.head _), k.mono fun b o h => h.imp id (.tail _)⟩
    · rcases List.mem_cons.mp hq with rfl | hq
      · refine ⟨hl, fun q => ?_, e⟩
        obtain ⟨oL, es, ep, hL, hd, _⟩ := F.ns
        have q' : lw = L := q
        rw [q', hL] at hl
        obtain rfl := Option.some.inj hl
        cases hd
      · exact N q hq
    · rcases List.mem_cons.mp hq with rfl | hq
      · exact .inr rfl
      · exact .inl (ht q hq)
theorem list_at (F : Fr g L h m) (N : News g L h news) {lw : Addr} {o : Obj} (hl : g.get? lw = some o ∨ (lw, o) ∈ tl) (hs : ∀ q ∈ tl, q ∈ news) : h.get? lw = some o := hl.elim (F.keep _ _) fun x => (N _ (hs _ x)).1
end
-- 30_bytes
section
variable {prog : Program} {w : World} {A : Around} {E : Value → Shared → Prop} {s : Shared} {value slice : PySem.Expr} {b c : Array UInt8} {t u : Tok} {l : Value} {uu : Value} {lo hi : Option Int} {h₀ : Heap} {L : Addr} {m : PySem.Str → Option Value} {news : List (Addr × Obj)}
theorem slice_b {Q : Value → Shared → Prop} (hF : Fr h₀ L s.heap m) (hN : News h₀ L s.heap news) (hl : IsPart l lo) (hu : IsPart uu hi) (hz : b.size ≤ 16777216)
    (h : ∀ h' t' k, Fr h₀ L h' m → News h₀ L h' news → Q (.bytes (KBy.picked b lo hi) t') { s with heap := h', toks := k })
    (hs : subscripted slice false (.bytes b t) (.ref s.heap.objs.size) = operate [.ref s.heap.objs.size, .bytes b t] (getItem (.bytes b t) (.ref s.heap.objs.size)) := by with_unfolding_all rfl)
    (ht : ∀ r, letTemporaryGo value (.bytes b t) r = pure () := by intro _; with_unfolding_all rfl) :
    wpAny (model prog w) A (subscriptTail value slice (.bytes b t) (.ref s.heap.objs.size)) Q E { s with heap := s.heap.push { cls := .type "slice", data := .fields #[l, uu, .none] } } :=
  tail_of_ItemOn ⟨"bytes", _, FB.slot_bytes_getitem.lookup, typeIs_bytes _ _ _, getItem_meets (typeIs_bytes _ _ _) (by decide) FB.slot_bytes_getitem FB.entry_bytes_getitem (FB.args_bytes_getitem_2 _ _) (KBc.meets_slice2 b t _ hl hu)
    ⟨Heap.IsSliceOf.new _ _ _ _, Nat.le_trans (KBc.size_picked_le b lo hi) (by rw [sizeLine_eq]; exact hz), fun t' k => h _ _ _ (hF.push _) (News.pushKeep hN _)⟩⟩ hs ht
theorem len_b {Q : Value → Shared → Prop} (hfit : b.size ≤ 16777216) (h : Q (.int (b.size : Nat) (s.toks + 1)) { s with toks := s.toks + 1 + 1 }) : wpAny (model prog w) A (call (.builtin "len") [.bytes b t]) Q E s :=
  len_bytes (by omega) h
end
section
variable {prog : Program} {w : World} {A : Around} {E : Value → Shared → Prop} {s : Shared}
theorem bb_lookup : typeLookup (.type "bytes") "__bytes__" = pure (some (.builtin "bytes.__bytes__")) := by rw [typeLookup_type, builtinLookup_eq_fast]; kernel_rfl
/-- bytes(b) of a bytes object is that object -/
theorem bytes_of_bytes {b : Array UInt8} {t : Tok} {Q : Value → Shared → Prop} (h : Q (.bytes b t) s) : wpAny (model prog w) A (call (.type "bytes") [.bytes b t]) Q E s := by
  refine callType_codes (Q₁ := fun obj s₁ => s₁.TypeIs obj "bytes" ∧ Q obj s₁) F.bm_called (F.bm_typeCall _) F.entry_object_init ?_ fun obj s₁ h₁ => ⟨h₁.1, F.args_object_init_2 obj _, object_init_meets F.bm_called.init.lookup F.bm_called.made (by decide) prog w A.in1 _ s₁ ⟨h₁.1, rfl, h₁.2⟩⟩
  refine codeAny_of_tree ?_
  show wpAny _ A.in1.in1 (do checkBuiltinCall "bytes.__new__" ⟨[.type "bytes", .bytes b t], []⟩; again (.builtin "bytes.__new__" ⟨[.type "bytes", .bytes b t], []⟩)) _ _ s
  refine wpAny_bind (wpAny_of_eq (F.bm_newCall _) (wpAny_pure ⟨plainId_quiet F.bm_plain _, codeAny_builtin F.bm_entry ?_⟩))
  rw [Around.under_plainId F.bm_plain _]
  have hT : s.TypeIs (.bytes b t) "bytes" := typeIs_bytes _ _ _
  unfold Builtin.«bytes.__new__»
  refine wpAny_bind (wpAny_of_eq (a := true) rfl ?_)
  refine bm_if_false rfl ?_
  refine wpAny_bind (wpAny_of_eq F.bm_sub ?_)
  refine bm_if_false rfl ?_
  refine wpAny_bind (wpAny_of_eq (F.bm_bind _) ?_)
  refine wpAny_bind (wpAny_of_eq (a := ()) rfl ?_)
  refine wpAny_bind (wpAny_of_eq (a := ()) rfl ?_)
  refine bm_if_false rfl ?_
  refine wpAny_bind (wpAny_specialOf hT bb_lookup ?_)
  refine wpAny_bind (wpAny_rule ?_)
  refine wpAny_bind (wpAny_typeOf hT ?_)
  refine bm_if_true (by decide) ?_
  show wpAny _ _ (if (Value.type "bytes" == Value.type "bytes") = true then _ else _) _ _ _
  refine bm_if_true (by decide) ?_
  first
    | exact wpAny_pure ⟨hT, h⟩
    | exact wpAny_bind (wpAny_pure (wpAny_pure ⟨hT, h⟩))
end
theorem sz1 {j q : Array UInt8} {lo hi : Option Int} (hj : j.size ≤ 60000) (hq : q.size ≤ 1000) : (KBy.picked j lo hi).size + q.size ≤ 16777216 := by
  have := KBc.size_picked_le j lo hi; omega
theorem sz2 {j q : Array UInt8} {lo hi lo' hi' : Option Int} (hj : j.size ≤ 60000) (hq : q.size ≤ 1000) : (KBy.picked j lo hi ++ q).size + (KBy.picked j lo' hi').size ≤ 16777216 := by
  have := KBc.size_picked_le j lo hi; have := KBc.size_picked_le j lo' hi'; rw [Array.size_append]; omega
theorem le_big {j : Array UInt8} (hj : j.size ≤ 60000) : j.size ≤ 16777216 := by omega
theorem clip_int {n : Nat} {a : Int} (h : 0 ≤ a) : clipAt n a = min a.toNat n := by
  obtain ⟨k, rfl⟩ := Int.eq_ofNat_of_zero_le h
  exact clipAt_nat n k
theorem picked_to {b : Array UInt8} {a : Int} (h : 0 ≤ a) : (KBy.picked b none (some a)).toList = b.toList.take a.toNat := by
  rw [KBc.picked_eq]
  simp only [Option.elim, clip_int h, List.drop_zero, Nat.sub_zero]
  have e : b.toList.length = b.size := by simp
  rw [← e, List.take_eq_take_min]
  simp
theorem picked_from {b : Array UInt8} {a : Int} (h : 0 ≤ a) : (KBy.picked b (some a) none).toList = b.toList.drop a.toNat := by
  rw [KBc.picked_eq]
  simp only [Option.elim, clip_int h]
  have e : b.toList.length = b.size := by simp
  rw [← e]
  by_cases q : a.toNat ≤ b.toList.length
  · rw [Nat.min_eq_left q, List.take_of_length_le (by simp)]
  · rw [Nat.min_eq_right (by omega), List.drop_of_length_le (Nat.le_refl _), List.drop_of_length_le (by omega)]; simp
theorem size_to {b : Array UInt8} {a : Int} (h : 0 ≤ a) : (KBy.picked b none (some a)).size = min a.toNat b.size := by
  have := congrArg List.length (picked_to (b := b) h); simpa using this
theorem size_from {b : Array UInt8} {a : Int} (h : 0 ≤ a) : (KBy.picked b (some a) none).size = b.size - a.toNat := by
  have := congrArg List.length (picked_from (b := b) h); simpa using this
-- 32_sorted
/-- a sort's questions answered by a given order -/
noncomputable def kasRun {α : Type} (lt : Nat → Nat → Bool) : KasT α → α
  | .ret a => a
  | .ask i j k => kasRun lt (k (lt i j))
noncomputable def kasOk {α : Type} (ok lt : Nat → Nat → Bool) : KasT α → Bool
  | .ret _ => true
  | .ask i j k => ok i j && kasOk ok lt (k (lt i j))
theorem kas_run {α : Type} {ok lt : Nat → Nat → Bool} {cmp : Nat → Nat → (Bool → Shared → Prop) → Shared → Prop} {Q : α → Shared → Prop} {s : Shared}
    (hc : ∀ i j (C : Bool → Shared → Prop), ok i j = true → C (lt i j) s → cmp i j C s) : ∀ t : KasT α, kasOk ok lt t = true → Q (kasRun lt t) s → t.kasWp cmp Q s
  | .ret _, _, hq => hq
  | .ask i j k, h, hq => by
    obtain ⟨h1, h2⟩ := Bool.and_eq_true_iff.mp h
    exact hc i j _ h1 (kas_run hc (k (lt i j)) h2 hq)
/-- the order of a rising row of n - 1 things and a last one that belongs at place p -/
noncomputable def insLt (n p i j : Nat) : Bool := decide ((if i + 1 = n then 2 * p else 2 * i + 1) < (if j + 1 = n then 2 * p else 2 * j + 1))
noncomputable def insOk (n i j : Nat) : Bool := decide (i < n) && decide (j < n) && decide (i ≠ j)
noncomputable def insOut (n p : Nat) : List Nat := List.range p ++ (n - 1) :: (List.range (n - 1)).drop p
theorem ins_all : ((List.range 14).all fun n => (List.range 14).all fun p => decide (n < 2) || decide (n ≤ p) || (kasOk (insOk n) (insLt n p) (kas_sort n) && ((kasRun (insLt n p) (kas_sort n)).toList == insOut n p))) = true := by decide +kernel
theorem ins_sort {n p : Nat} (h2 : 2 ≤ n) (hn : n < 14) (hp : p < n) : kasOk (insOk n) (insLt n p) (kas_sort n) = true ∧ (kasRun (insLt n p) (kas_sort n)).toList = insOut n p := by
  have h := List.all_eq_true.mp ins_all n (List.mem_range.mpr hn)
  have h := List.all_eq_true.mp h p (List.mem_range.mpr (by omega))
  have e1 : decide (n < 2) = false := by simp; omega
  have e2 : decide (n ≤ p) = false := by simp; omega
  rw [e1, e2, Bool.false_or, Bool.false_or] at h
  obtain ⟨h1, h3⟩ := Bool.and_eq_true_iff.mp h
  exact ⟨h1, by simpa using h3⟩

section
variable {prog : Program} {w : World} {A : Around} {E : Value → Shared → Prop} {s : Shared} {h₀ : Heap} {L : Addr} {m : Str → Option Value} {news : List (Addr × Obj)}
theorem pc_lt {vi vj : Value} {qi qj : Int × Array UInt8} {C : Bool → Shared → Prop} (hi : PcIn (AtH s.heap) vi qi) (hj : PcIn (AtH s.heap) vj qj) (hne : qi.1 ≠ qj.1) (h : C (decide (qi.1 < qj.1)) s) :
    wpAny (model prog w) A (keyLt' (tuples' true) vi vj) C E s := by
  obtain ⟨a, n, t, u, rfl, ha⟩ := hi
  obtain ⟨b, k, t', u', rfl, hb⟩ := hj
  refine kat_lt ha rfl hb rfl (kat_cons (wpAny_eqBool_int ?_))
  have e : (qi.1 == qj.1) = false := by simpa using hne
  rw [e]
  exact kat_no (oneLt_int h)
theorem pc_tups {h : Heap} {vs : List Value} {qs : List (Int × Array UInt8)} (hp : PcsIn (AtH h) vs qs) : ∃ fs, KatTups h vs fs ∧ fs.length = qs.length ∧ ∀ v ∈ fs, ∃ i t, v = .int i t := by
  induction hp with
  | nil => exact ⟨[], .nil, rfl, fun _ h => nomatch h⟩
  | cons hq _ ih =>
    obtain ⟨fs, k, e, hi⟩ := ih
    obtain ⟨a, n, t, u, rfl, ha⟩ := hq
    refine ⟨.int _ t :: fs, KatTups.cons ha rfl rfl rfl k, by simp [e], fun v hv => ?_⟩
    rcases List.mem_cons.mp hv with rfl | hv
    · exact ⟨_, _, rfl⟩
    · exact hi v hv
theorem PcsIn.getD {P : Addr → Obj → Prop} {vs qs} (h : PcsIn P vs qs) {i : Nat} (hi : i < qs.length) : ∃ q, qs[i]? = some q ∧ PcIn P (vs.getD i Value.none) q := by
  have hl : i < vs.length := by rw [h.length]; exact hi
  have e : vs[i]? = some (vs.getD i Value.none) := by
    rw [List.getD_eq_getElem?_getD, List.getElem?_eq_getElem hl]; rfl
  exact h.get e
theorem PcsIn.pick {P : Addr → Obj → Prop} {vs qs} (h : PcsIn P vs qs) (d : Int × Array UInt8) : ∀ l : List Nat, (∀ i ∈ l, i < qs.length) → PcsIn P (l.map fun i => vs.getD i Value.none) (l.map fun i => qs.getD i d)
  | [], _ => .nil
  | i :: l, hl => by
    obtain ⟨q, hq, k⟩ := h.getD (hl i (.head _))
    have e : qs.getD i d = q := by rw [List.getD_eq_getElem?_getD, hq]; rfl
    exact .cons (by show PcIn P (vs.getD i Value.none) (qs.getD i d); rw [e]; exact k) (h.pick d l fun j hj => hl j (.tail _ hj))
/-- where a start belongs among rising starts -/
noncomputable def placeOf (fs : List (Int × Array UInt8)) (b : Int) : Nat := (fs.takeWhile fun q => decide (q.1 < b)).length
theorem place_lt {fs : List (Int × Array UInt8)} {b : Int} (hs : fs.Pairwise fun x y => x.1 < y.1) (hne : ∀ q ∈ fs, q.1 ≠ b) {i : Nat} {q : Int × Array UInt8} (hq : fs[i]? = some q) : q.1 < b ↔ i < placeOf fs b := by
  induction fs generalizing i with
  | nil => simp at hq
  | cons f fs ih =>
    rw [List.pairwise_cons] at hs
    unfold placeOf
    rw [List.takeWhile_cons]
    by_cases hf : f.1 < b
    · simp only [hf, decide_true, if_true, List.length_cons]
      cases i with
      | zero => simp at hq; subst hq; simp [hf]
      | succ i =>
        have := ih hs.2 (fun q hq => hne q (.tail _ hq)) (i := i) (by simpa using hq)
        unfold placeOf at this
        omega
    · simp only [hf, decide_false, Bool.false_eq_true, if_false, List.length_nil, Nat.not_lt_zero, iff_false]
      cases i with
      | zero => simp at hq; subst hq; exact hf
      | succ i =>
        have hm : q ∈ fs := List.mem_of_getElem? (by simpa using hq)
        have := hs.1 q hm
        omega
theorem place_le (fs : List (Int × Array UInt8)) (b : Int) : placeOf fs b ≤ fs.length := by
  unfold placeOf; exact (List.takeWhile_sublist _).length_le
noncomputable def insPc (fs : List (Int × Array UInt8)) (b : Int × Array UInt8) : List (Int × Array UInt8) := fs.take (placeOf fs b.1) ++ b :: fs.drop (placeOf fs b.1)
theorem ins_map {fs : List (Int × Array UInt8)} {b d : Int × Array UInt8} {p : Nat} (hp : p ≤ fs.length) : (insOut (fs.length + 1) p).map (fun i => (fs ++ [b]).getD i d) = fs.take p ++ b :: fs.drop p := by
  have key : ∀ k : Nat, k ≤ fs.length → (List.range k).map (fun i => (fs ++ [b]).getD i d) = fs.take k := by
    intro k hk
    apply List.ext_getElem?
    intro i
    rw [List.getElem?_map, List.getElem?_take]
    by_cases hi : i < k
    · rw [List.getElem?_range hi, if_pos hi]
      have : i < fs.length := by omega
      simp [List.getElem?_append_left this, List.getElem?_eq_getElem this]
    · rw [if_neg hi, List.getElem?_eq_none (by simp; omega)]; rfl
  unfold insOut
  rw [List.map_append, List.map_cons, key p hp, Nat.add_sub_cancel, List.map_drop, key fs.length (Nat.le_refl _), List.take_length]
  congr 1
  simp
theorem insLt_l {n p j : Nat} (hj : j < n) : insLt (n + 1) p n j = decide (2 * p < 2 * j + 1) := by
  unfold insLt; rw [if_pos rfl, if_neg (fun e => Nat.ne_of_lt hj (Nat.succ.inj e))]
theorem insLt_r {n p i : Nat} (hi : i < n) : insLt (n + 1) p i n = decide (2 * i + 1 < 2 * p) := by
  unfold insLt; rw [if_neg (fun e => Nat.ne_of_lt hi (Nat.succ.inj e)), if_pos rfl]
theorem insLt_m {n p i j : Nat} (hi : i < n) (hj : j < n) : insLt (n + 1) p i j = decide (2 * i + 1 < 2 * j + 1) := by
  unfold insLt; rw [if_neg (fun e => Nat.ne_of_lt hi (Nat.succ.inj e)), if_neg (fun e => Nat.ne_of_lt hj (Nat.succ.inj e))]
theorem cmp_a {x y : Int} {p j : Nat} (h : x < y ↔ j < p) (hne : x ≠ y) : y < x ↔ 2 * p < 2 * j + 1 := by
  by_cases c : j < p
  · exact ⟨fun q => absurd (h.mpr c) (Int.not_lt.mpr (Int.le_of_lt q)), fun q => by omega⟩
  · exact ⟨fun _ => by omega, fun _ => Int.lt_iff_le_and_ne.mpr ⟨Int.not_lt.mp fun q => c (h.mp q), Ne.symm hne⟩⟩
theorem cmp_b {x y : Int} {p i : Nat} (h : x < y ↔ i < p) : x < y ↔ 2 * i + 1 < 2 * p := by rw [h]; omega
theorem cmp_m {i j : Nat} : i < j ↔ 2 * i + 1 < 2 * j + 1 := by omega
theorem ins_cmp {fs : List (Int × Array UInt8)} {b qi qj : Int × Array UInt8} {i j : Nat} (hs : fs.Pairwise fun x y => x.1 < y.1) (hne : ∀ q ∈ fs, q.1 ≠ b.1) (hqi : (fs ++ [b])[i]? = some qi) (hqj : (fs ++ [b])[j]? = some qj) (hi1 : i < fs.length + 1) (hj1 : j < fs.length + 1) (hij : i ≠ j) :
    qi.1 ≠ qj.1 ∧ decide (qi.1 < qj.1) = insLt (fs.length + 1) (placeOf fs b.1) i j := by
  have get : ∀ {i : Nat} {q : Int × Array UInt8}, (fs ++ [b])[i]? = some q → i < fs.length → fs[i]? = some q := fun {i q} hq hi => by rwa [List.getElem?_append_left hi] at hq
  have last : ∀ {q : Int × Array UInt8}, (fs ++ [b])[fs.length]? = some q → q = b := fun {q} hq => by
    rw [List.getElem?_append_right (Nat.le_refl _), Nat.sub_self] at hq
    exact (Option.some.inj hq).symm
  have hmono : ∀ {i j : Nat} {x y : Int × Array UInt8}, fs[i]? = some x → fs[j]? = some y → i < j → x.1 < y.1 := fun {i j x y} hx hy hlt => by
    obtain ⟨hi', rfl⟩ := List.getElem?_eq_some_iff.mp hx
    obtain ⟨hj', rfl⟩ := List.getElem?_eq_some_iff.mp hy
    exact List.pairwise_iff_getElem.mp hs i j hi' hj' hlt
  rcases Nat.lt_or_eq_of_le (Nat.le_of_lt_succ hi1) with hi | rfl
  · have gi := get hqi hi
    have ni := hne _ (List.mem_of_getElem? gi)
    rcases Nat.lt_or_eq_of_le (Nat.le_of_lt_succ hj1) with hj | rfl
    · have gj := get hqj hj
      rw [insLt_m hi hj]
      rcases Nat.lt_or_gt_of_ne hij with hlt | hgt
      · have h := hmono gi gj hlt
        exact ⟨Int.ne_of_lt h, decide_eq_decide.mpr ⟨fun _ => cmp_m.mp hlt, fun _ => h⟩⟩
      · have h := hmono gj gi hgt
        exact ⟨Int.ne_of_gt h, decide_eq_decide.mpr ⟨fun q => absurd q (Int.not_lt.mpr (Int.le_of_lt h)), fun q => absurd (cmp_m.mpr q) (Nat.not_lt.mpr (Nat.le_of_lt hgt))⟩⟩
    · obtain rfl := last hqj
      rw [insLt_r hi]
      exact ⟨ni, decide_eq_decide.mpr (cmp_b (place_lt hs hne gi))⟩
  · obtain rfl := last hqi
    have hj : j < fs.length := Nat.lt_of_le_of_ne (Nat.le_of_lt_succ hj1) (Ne.symm hij)
    have gj := get hqj hj
    have nj := hne _ (List.mem_of_getElem? gj)
    rw [insLt_l hj]
    exact ⟨Ne.symm nj, decide_eq_decide.mpr (cmp_a (place_lt hs hne gj) nj)⟩
theorem sorted_two {l : Addr} {vs : List Value} {fs : List (Int × Array UInt8)} {b : Int × Array UInt8} {P : Addr → Obj → Prop} {Q : Value → Shared → Prop} (F : Fr h₀ L s.heap m) (N : News h₀ L s.heap news) (hl : s.heap.IsList l vs.toArray)
    (hP : ∀ a o, P a o → h₀.get? a = some o ∨ (a, o) ∈ news) (hp : PcsIn P vs (fs ++ [b])) (hs : fs.Pairwise fun x y => x.1 < y.1) (hne : ∀ q ∈ fs, q.1 ≠ b.1) (h1 : 0 < fs.length) (h12 : fs.length ≤ 12)
    (h : ∀ D c h' ws, Fr h₀ L h' m → News h₀ L h' ((D, W.listOf (List.toArray ws) c) :: news) → PcsIn P ws (insPc fs b) → (∀ q ∈ news, q.1 < D) → Q (.ref D) { s with heap := h' }) :
    wpAny (model prog w) A (call (.builtin "sorted") [.ref l]) Q E s := by
  have hlen : vs.length = fs.length + 1 := by rw [hp.length]; simp
  refine kat_sorted F N hl (by omega) (by omega) fun D e1 h' F' N' hD => ?_
  have hp' : PcsIn (AtH h') vs (fs ++ [b]) := hp.mono fun a o x => (hP a o x).elim (F'.keep a o) fun x => (N' _ (.tail _ x)).1
  obtain ⟨gs, k, e, hi⟩ := pc_tups hp'
  refine kat_kind (T := .type "int") k (by rw [e]; simp) (fun v hv => ?_) (by decide) ?_
  · obtain ⟨i, t, rfl⟩ := hi v hv
    exact Looks.of_pure rfl
  have ht : (Value.type "int" != Value.type "tuple") = true := by decide
  rw [ht]
  have hpl := place_le fs b.1
  obtain ⟨r1, r2⟩ := ins_sort (n := vs.length) (p := placeOf fs b.1) (by omega) (by omega) (by omega)
  refine kas_run (ok := insOk vs.length) (lt := insLt vs.length (placeOf fs b.1)) (fun i j C hok hC => ?_) _ r1 ?_
  · unfold insOk at hok
    simp only [Bool.and_eq_true, decide_eq_true_eq] at hok
    obtain ⟨⟨hi1, hj1⟩, hij⟩ := hok
    obtain ⟨qi, hqi, ki⟩ := hp'.getD (i := i) (by rw [← hp.length]; exact hi1)
    obtain ⟨qj, hqj, kj⟩ := hp'.getD (i := j) (by rw [← hp.length]; exact hj1)
    have cmp := ins_cmp hs hne hqi hqj (by rw [← hlen]; exact hi1) (by rw [← hlen]; exact hj1) hij
    rw [← hlen] at cmp
    refine pc_lt ki kj cmp.1 ?_
    rw [cmp.2]; exact hC
  · refine KasFin.intro F' N' (UpdF.head fun q hq => Nat.ne_of_lt (hD q hq)) fun h'' c F'' N'' => ?_
    refine h D c h'' _ F'' N'' ?_ hD
    rw [r2, hlen]
    have := hp.pick b (insOut (fs.length + 1) (placeOf fs b.1)) (fun i hi => by
      unfold insOut at hi
      simp only [List.length_append, List.length_singleton]
      rcases List.mem_append.mp hi with hi | hi
      · have := List.mem_range.mp hi; omega
      · rcases List.mem_cons.mp hi with rfl | hi
        · omega
        · have := List.mem_range.mp (List.mem_of_mem_drop hi); omega)
    rw [ins_map hpl] at this
    exact this
end
section
variable {prog : Program} {w : World} {A : Around} {E : Value → Shared → Prop} {s : Shared} {h₀ : Heap} {L : Addr} {m : Str → Option Value} {news : List (Addr × Obj)}
/-- list.sort of a list of one -/
theorem sort_one {a : Addr} {v : Value} {n : Nat} {P : PySem.Fin → Shared → Prop} (F : Fr h₀ L s.heap m) (N : News h₀ L s.heap news) (ho : s.heap.get? a = some (seqObj "list" #[v] n)) (haL : a ≠ L) (ha0 : h₀.get? a = none) (hna : ∀ p ∈ news, p.1 ≠ a)
    (h : ∀ h' c, Fr h₀ L h' m → News h₀ L h' ((a, seqObj "list" #[v] c) :: news) → P (.done (.ret .none)) { s with heap := h' }) :
    wpAny (model prog w) A (Builtin.«list.sort» ⟨[.ref a], []⟩) P E s := by
  have s1 := Heap.SameBut.update s.heap a (Obj.mapSeq fun _ => (#[] : Array Value))
  obtain ⟨e1, ho1⟩ : ∃ e1, (s.heap.update a (Obj.mapSeq fun _ => (#[] : Array Value))).get? a = some (seqObj "list" #[] e1) := ⟨_, get?_update_seq ho fun _ => #[]⟩
  generalize hH : ((s.heap.update a (Obj.mapSeq fun _ => (#[] : Array Value))).push (seqObj "tuple" #[v] 0)).push (seqObj "list" #[] 0) = H
  have F3 : Fr h₀ L H m := hH ▸ ((kas_fr F s1 haL ha0).push _).push _
  have N2 : News h₀ L H news := hH ▸ (kas_news N s1 hna).grown fun b x e => Heap.get?_push_of_some _ (Heap.get?_push_of_some _ e)
  have ho3 : H.get? a = some (seqObj "list" #[] e1) := hH ▸ Heap.get?_push_of_some _ (Heap.get?_push_of_some _ ho1)
  rw [list_sort_plain]
  refine wpAny_bind (listItems_at ho rfl ?_)
  refine wpAny_bind (listUpdate_at ho rfl ?_ (by rw [sizeLine_eq]; show 1 ≤ _; decide) (Nat.zero_le _))
  refine wpAny_bind (seqEpoch_at ho1 rfl ?_)
  refine wpAny_bind (wpAny_newTuple ?_ (by show 1 ≤ _; rw [sizeLine_eq]; decide))
  refine wpAny_bind (wpAny_newList ?_ (Nat.zero_le _))
  refine wpAny_holding ?_
  show wpAny (model prog w) A _ P E { s with heap := ((s.heap.update a (Obj.mapSeq fun _ => (#[] : Array Value))).push (seqObj "tuple" #[v] 0)).push (seqObj "list" #[] 0) }
  rw [hH]
  dsimp only
  have hn2 : (#[v] : Array Value).size < 2 := by simp
  rw [if_pos hn2, if_pos hn2]
  refine wpAny_bind (wpAny_pure ?_)
  refine wpAny_bind (m := StateT.run _ _) (wpAny_pure ?_)
  have hout : Array.map (fun x => x.snd) (arrOf (SortSt.mk' general' ((#[v] : Array Value).zip #[v]) #[] 7 none)) = #[v] := by
    show Array.map (fun x => x.snd) ((#[v] : Array Value).zip #[v]) = #[v]
    apply Array.toList_inj.mp
    simp
  dsimp only at hout ⊢
  rw [hout]
  have s2 := Heap.SameBut.update H a (Obj.mapSeq fun _ => (#[v] : Array Value))
  obtain ⟨c2, hc2⟩ : ∃ c2, (H.update a (Obj.mapSeq fun _ => (#[v] : Array Value))).get? a = some (seqObj "list" #[v] c2) := ⟨_, get?_update_seq ho3 fun _ => #[v]⟩
  refine wpAny_bind (seqEpoch_at ho3 rfl ?_)
  refine wpAny_bind (listUpdate_at ho3 rfl ?_ (Nat.zero_le _) (by rw [sizeLine_eq]; show 1 ≤ _; decide))
  simp only [bne_self_eq_false, Bool.false_eq_true, if_false]
  refine wpAny_pure (h _ c2 (kas_fr F3 s2 haL ha0) fun p hp => ?_)
  rcases List.mem_cons.mp hp with rfl | hp
  · exact ⟨hc2, haL, ha0⟩
  · exact kas_news N2 s2 hna p hp
end
section
variable {prog : Program} {w : World} {A : Around} {E : Value → Shared → Prop} {s : Shared} {h₀ : Heap} {L : Addr} {m : Str → Option Value} {news : List (Addr × Obj)}
theorem sorted_one {l : Addr} {v : Value} {Q : Value → Shared → Prop} (F : Fr h₀ L s.heap m) (N : News h₀ L s.heap news) (hl : s.heap.IsList l #[v])
    (h : ∀ D c h', Fr h₀ L h' m → News h₀ L h' ((D, seqObj "list" #[v] c) :: news) → (∀ q ∈ news, q.1 < D) → Q (.ref D) { s with heap := h' }) :
    wpAny (model prog w) A (call (.builtin "sorted") [.ref l]) Q E s := by
  refine Calls.call_function_entry kind_sorted plain_sorted entry_sorted (args_sorted1 _) ?_
  unfold Builtin.«sorted»
  refine wpAny_bind (m := checkCount "sorted" 1 1 _) (wpAny_pure ?_)
  refine wpAny_bind (collect_list hl ?_ (by rw [sizeLine_eq]; show 1 ≤ _; decide))
  refine wpAny_bind (wpAny_newList ?_ (by rw [sizeLine_eq]; show 1 ≤ _; decide))
  have hsz : ((s.heap.push (seqObj "list" #[] 0)).update s.heap.objs.size (Obj.mapSeq (· ++ #[v]))).objs.size = s.heap.objs.size + 1 := by
    rw [Heap.size_update, size_push']
  have hoL : (((s.heap.push (seqObj "list" #[] 0)).update s.heap.objs.size (Obj.mapSeq (· ++ #[v]))).push (seqObj "list" #[v] 0)).get? (s.heap.objs.size + 1) = some (seqObj "list" #[v] 0) := by
    rw [← hsz]; exact Heap.get?_push_size _ rfl
  have keep : ∀ b o, s.heap.get? b = some o → (((s.heap.push (seqObj "list" #[] 0)).update s.heap.objs.size (Obj.mapSeq (· ++ #[v]))).push (seqObj "list" #[v] 0)).get? b = some o := fun b o q => by
    have hlt : b < s.heap.objs.size := Heap.lt_size q
    rw [Heap.get?_push_ne _ _ _ (by rw [hsz]; exact Nat.ne_of_lt (Nat.lt_succ_of_lt hlt)), Heap.get?_update_ne _ _ _ _ (Nat.ne_of_lt hlt), Heap.get?_push_ne _ _ _ (Nat.ne_of_lt hlt)]
    exact q
  have hL : L < s.heap.objs.size := F.ns.lt
  show wpAny _ _ _ _ _ { s with heap := ((s.heap.push (seqObj "list" #[] 0)).update s.heap.objs.size (Obj.mapSeq (· ++ #[v]))).push (seqObj "list" #[v] 0) }
  rw [hsz]
  refine wpAny_bind (wpAny_holding (wpAny_call_entry slot_list_sort ⟨_, hoL, rfl⟩ entry_list_sort ?body (args_list_sort _)))
  case body =>
    refine sort_one (s := { s with heap := ((s.heap.push (seqObj "list" #[] 0)).update s.heap.objs.size (Obj.mapSeq (· ++ #[v]))).push (seqObj "list" #[v] 0) })
      (F.kept keep) (N.grown keep) hoL (Nat.ne_of_gt (Nat.lt_succ_of_lt hL)) (Heap.get?_none_of_le (Nat.le_trans F.above (Nat.le_succ_of_le (Nat.le_of_lt hL))))
      (fun p hp => Nat.ne_of_lt (Nat.lt_succ_of_lt (Heap.lt_size (N p hp).1))) fun h' c F' N' => ?_
    exact ⟨_, rfl, wpAny_pure ⟨_, rfl, h _ c h' F' N' fun q hq => Nat.lt_succ_of_lt (Heap.lt_size (N q hq).1)⟩⟩
/-- sorted of rising pieces and one more -/
theorem sorted_ins {l : Addr} {vs : List Value} {fs : List (Int × Array UInt8)} {b : Int × Array UInt8} {P : Addr → Obj → Prop} {Q : Value → Shared → Prop} (F : Fr h₀ L s.heap m) (N : News h₀ L s.heap news) (hl : s.heap.IsList l vs.toArray)
    (hP : ∀ a o, P a o → h₀.get? a = some o ∨ (a, o) ∈ news) (hp : PcsIn P vs (fs ++ [b])) (hs : fs.Pairwise fun x y => x.1 < y.1) (hne : ∀ q ∈ fs, q.1 ≠ b.1) (h12 : fs.length ≤ 12)
    (h : ∀ D c h' ws, Fr h₀ L h' m → News h₀ L h' ((D, W.listOf (List.toArray ws) c) :: news) → PcsIn P ws (insPc fs b) → (∀ q ∈ news, q.1 < D) → Q (.ref D) { s with heap := h' }) :
    wpAny (model prog w) A (call (.builtin "sorted") [.ref l]) Q E s := by
  by_cases h1 : 0 < fs.length
  · exact sorted_two F N hl hP hp hs hne h1 h12 h
  · have e : fs = [] := List.eq_nil_of_length_eq_zero (by omega)
    subst e
    cases hp with
    | cons hv hr =>
      cases hr
      refine sorted_one F N hl fun D c h' F' N' hD => h D c h' [_] F' N' (.cons hv .nil) hD
end
-- 40_mac
local macro_rules | `(tactic| k_all) => `(tactic| assumption)
local macro_rules | `(tactic| walk_at "my enter") => `(tactic| ((case ho => k_is); (case hcd => k_is); (case hbind => exact BindsTo.of_eq rfl); (case hloc => exact locs rfl); (case hcell => decide); (case hco => exact rfl); (case hgen => exact rfl); (case hk => exact rfl)))
local macro_rules | `(tactic| walk_at "my size") => `(tactic| first | assumption | exact le_big (by assumption) | omega | exact sz1 (by assumption) (by assumption) | exact sz2 (by assumption) (by assumption))
local macro_rules | `(tactic| walk_at "subscriptTail") => `(tactic| (k_here; (with_reducible show wpAny _ _ (subscriptTail _ (Expr.Slice _ _ none _) (Value.bytes _ _) (Value.ref _)) _ _ _); (with_reducible rename Fr _ _ _ _ => F'); (with_reducible rename News _ _ _ _ => N'); (refine slice_b (s := ⟨_, _, _, _, _⟩) F' N' (by constructor) (by constructor) (by walk_at "my size") ?_); intro _ _ _ _ _))
local macro_rules | `(tactic| walk_at "call builtin:len") => `(tactic| (k_here; (with_reducible show wpAny _ _ (call (Value.builtin "len") [Value.bytes _ _]) _ _ _); (refine len_b (by walk_at "my size") ?_)))
local macro_rules | `(tactic| walk_at "call type:bytes") => `(tactic| (k_here; (with_reducible show wpAny _ _ (call (Value.type _) [Value.bytes _ _]) _ _ _); (refine bytes_of_bytes ?_)))
local macro_rules | `(tactic| walk_at "binaryOp Add") => `(tactic| (k_here; (with_reducible show wpAny _ _ (binaryOp Operator.Add (Value.bytes _ _) (Value.bytes _ _)) _ _ _); (refine KBy.add_bytes (by walk_at "my size") ?_); intro _ _))
local macro_rules | `(tactic| walk_at "my depth") => `(tactic| ((try simp only [depth_deeper, depth_in1]); (try dsimp only); omega))
local macro_rules | `(tactic| k_ne) => `(tactic| (refine neN ?_; (try dsimp only); first | assumption | exact Ne.symm (by assumption) | exact Nat.ne_of_lt (by assumption) | exact Nat.ne_of_gt (by assumption) | fail "my k_ne"))
local macro_rules | `(tactic| k_mem) => `(tactic| first | assumption | (refine List.mem_append_left _ ?_; k_mem) | fail "my k_mem")
-- 50_taken
noncomputable def takeStep (at_ : Int) (st : Array UInt8 × List (Int × Array UInt8)) (q : Int × Array UInt8) : Array UInt8 × List (Int × Array UInt8) :=
  if q.1 ≤ at_ ∧ at_ < q.1 + q.2.size then (KBy.picked q.2 (some (at_ - q.1)) none, st.2) else if q.1 > at_ then (st.1, st.2 ++ [q]) else st
/-- the loop's word -/
noncomputable def TakenJ (h0 : Heap) (lf : Addr) (at_ : Int) (t : Tok) (st : Array UInt8 × List (Int × Array UInt8)) (i : Nat) (m : Str → Option Value) (news : List (Addr × Obj)) : Prop :=
  ∃ ft lvs n tl, news = (lf, W.listOf (List.toArray lvs) n) :: tl ∧ (∀ q ∈ tl, q.1 ≠ lf) ∧ PcsIn (fun a o => (a, o) ∈ tl ∨ h0.get? a = some o) lvs st.2 ∧ lvs.length ≤ i ∧
      m (Str.ofString "found") = some (.bytes st.1 ft) ∧ m (Str.ofString "left") = some (.ref lf) ∧ m (Str.ofString "at") = some (.int at_ t)
theorem TakenJ.mk {h0 : Heap} {lf : Addr} {at_ : Int} {t ft : Tok} {st : Array UInt8 × List (Int × Array UInt8)} {i n : Nat} {m : Str → Option Value} {lvs : List Value} {tl : List (Addr × Obj)} (h1 : ∀ q ∈ tl, q.1 ≠ lf) (h2 : PcsIn (fun a o => (a, o) ∈ tl ∨ h0.get? a = some o) lvs st.2) (h3 : lvs.length ≤ i)
    (h4 : m (Str.ofString "found") = some (.bytes st.1 ft)) (h5 : m (Str.ofString "left") = some (.ref lf)) (h6 : m (Str.ofString "at") = some (.int at_ t)) : TakenJ h0 lf at_ t st i m ((lf, W.listOf (List.toArray lvs) n) :: tl) := ⟨ft, lvs, n, tl, rfl, h1, h2, h3, h4, h5, h6⟩
theorem TakenJ.elim {h0 : Heap} {lf : Addr} {at_ : Int} {t : Tok} {st : Array UInt8 × List (Int × Array UInt8)} {i : Nat} {m : Str → Option Value} {news : List (Addr × Obj)} (h : TakenJ h0 lf at_ t st i m news) {C : Prop}
    (k : ∀ ft lvs n tl, news = (lf, W.listOf (List.toArray lvs) n) :: tl → (∀ q ∈ tl, q.1 ≠ lf) → PcsIn (fun a o => (a, o) ∈ tl ∨ h0.get? a = some o) lvs st.2 → lvs.length ≤ i → m (Str.ofString "found") = some (.bytes st.1 ft) → m (Str.ofString "left") = some (.ref lf) → m (Str.ofString "at") = some (.int at_ t) → C) : C := by
  obtain ⟨ft, lvs, n, tl, e, h1, h2, h3, h4, h5, h6⟩ := h
  exact k ft lvs n tl e h1 h2 h3 h4 h5 h6
theorem take_a {at_ : Int} {st : Array UInt8 × List (Int × Array UInt8)} {q : Int × Array UInt8} (h : q.1 ≤ at_) (h' : at_ < q.1 + q.2.size) : takeStep at_ st q = (KBy.picked q.2 (some (at_ - q.1)) none, st.2) := by unfold takeStep; rw [if_pos ⟨h, h'⟩]
theorem take_b {at_ : Int} {st : Array UInt8 × List (Int × Array UInt8)} {q : Int × Array UInt8} (h : ¬ (q.1 ≤ at_ ∧ at_ < q.1 + q.2.size)) (h' : ¬ q.1 > at_) : takeStep at_ st q = st := by unfold takeStep; rw [if_neg h, if_neg h']
theorem take_c {at_ : Int} {st : Array UInt8 × List (Int × Array UInt8)} {q : Int × Array UInt8} (h : q.1 > at_) : takeStep at_ st q = (st.1, st.2 ++ [q]) := by unfold takeStep; rw [if_neg (by omega), if_pos h]
theorem taken_from_code {prog : Program} {w : World} {d u : Nat} {fr : Option (List Env)} {gs : Option (List Code)} {s : Shared} {R : Result → Shared → Prop} {p : Program} {loose : List Str} {mg mb : Str → Option Value}
   {lp : Addr} {vs : List Value} {ps : List (Int × Array UInt8)} {at_ : Int} {t : Tok}
   (X : (hd.heap_39 w.params).In s.heap) (T : TopRead p loose mg mb s.heap) (hroom : d < recursionLimit)
   (hl : s.heap.IsList lp vs.toArray) (hp : PcsIn (AtH s.heap) vs ps) (hsz : ∀ q ∈ ps, q.2.size ≤ 1000) (hlen : ps.length ≤ 1000)
   (hR : ∀ h' tk D lf lvs n n' ft, (∀ b o, s.heap.get? b = some o → h'.get? b = some o) → h'.get? D = some { cls := .type "tuple", data := .seq #[.bytes (ps.foldl (takeStep at_) (#[], [])).1 ft, .ref lf] n } →
      s.heap.get? lf = none → s.heap.get? D = none → h'.get? lf = some (W.listOf lvs.toArray n') → PcsIn (AtH h') lvs (ps.foldl (takeStep at_) (#[], [])).2 → R (.ok (.ret (.ref D))) { s with heap := h', toks := tk }) :
   codeAny (model prog w) ⟨none, d, fr, gs, u⟩ (.call (.ref 55) ⟨[.ref lp, .int at_ t], []⟩) R s := by
  obtain ⟨hp0, gs, dr, tk0, os⟩ := s
  dsimp only at X T hl hp hR
  refine' enter (K := hd.heap_39 w.params) (muts := []) (fun _ hq => nomatch hq) X T ?ho ?hcd hroom ?hbind ?hloc ?h ?hcell ?hco ?hgen ?hk
  walk_at "my enter"
  intro g L' h₁ tk hg hL F N X T hlt
  rw [hid_nil] at hg
  replace hg := hg.symm
  subst hg
  try dsimp only
  show wpAny _ _ _ _ _ _
  k_fold
  repeat walk1
  refine wpAny_For ?_
  walk1
  rename Fr _ _ _ _ => F
  rename News _ _ _ _ => N
  rename_i lf _ _ _ _ _ _ _ _
  refine forListN hl rfl F (news₀ := [(lf, W.listOf #[] 0)]) (nw_tail N) (fun i => TakenJ hp0 lf at_ t ((ps.take i).foldl (takeStep at_) (#[], [])) i) ?_ ?_ ?_
  · exact TakenJ.mk (lvs := []) (fun _ h => nomatch h) .nil (Nat.le_refl _) rfl rfl rfl
  · intro i v m₁ news₁ h tk' it o P hP hv hJ hoff F N
    refine hJ.elim fun ft lvs n tl e htl hpc hlv hf hlf hat => ?_
    clear hJ
    subst e
    refine hp.at hv fun q a na t1 t2 hq e ha => ?_
    clear hv
    subst e
    have ht : IsTup hp0 a #[.int q.1 t1, .bytes q.2 t2] := ⟨_, ha, rfl, _, rfl⟩
    have hqs := hsz q (List.mem_of_getElem? hq)
    have hil : @Ne Nat lf it := hoff (lf, _) (.head _)
    have hit : ∀ q ∈ tl, q.1 ≠ it := fun q hq => hoff q (.tail _ hq)
    have hi : i < ps.length := (List.getElem?_eq_some_iff.mp hq).1
    have hstep := foldl_take (takeStep at_) (#[], []) hq
    rw [hstep] at hP
    clear hstep
    generalize (ps.take i).foldl (takeStep at_) (#[], []) = st at hpc hf hP
    have F1 := fr_at F [(Str.ofString "found", _), (Str.ofString "left", _), (Str.ofString "at", _)] (all3 hf hlf hat)
    clear F hf hlf hat
    dsimp only [putAll] at F1
    repeat' walk1
    · rename Fr _ _ _ _ => F
      rename News _ _ _ _ => N
      refine hP _ _ _ _ ((lf, W.listOf lvs.toArray n) :: tl) F N (.head _) (fun p hp => ⟨.tail _ hp, hoff p hp⟩) ?_
      rw [take_a (by assumption) (by assumption)]
      exact TakenJ.mk htl hpc (Nat.le_succ_of_le hlv) rfl rfl rfl
    · rename Fr _ _ _ _ => F
      rename News _ _ _ _ => N
      refine hP _ _ _ _ ((lf, W.listOf lvs.toArray n) :: tl) F N (.head _) (fun p hp => ⟨.tail _ hp, hoff p hp⟩) ?_
      rw [take_b (by omega) (by omega)]
      exact TakenJ.mk htl hpc (Nat.le_succ_of_le hlv) rfl rfl rfl
    · rename Fr _ _ _ _ => F
      rename News _ _ _ _ => N
      rename (_ ∧ _ ∧ AllLt _ _) => l1
      refine hP _ _ _ _ _ F N (.tail _ (.head _)) (turn_nx (pre := []) l1.1 hil hit) ?_
      rw [take_c (by omega : q.1 > at_), List.push_toArray]
      exact TakenJ.mk (tl_cons htl l1.2.1) ((hpc.mono fun a o h => h.imp (.tail _) id).append (.cons ⟨_, _, _, _, rfl, .inl (.head _)⟩ .nil)) (by simp; omega) rfl rfl rfl
  · intro m₁ news₁ h tk' hJ F N
    refine hJ.elim fun ft lvs n tl e htl hpc hlv hf hlf hat => ?_
    clear hJ
    subst e
    rw [hp.length, List.take_length] at hpc hf
    generalize ps.foldl (takeStep at_) (#[], []) = st at hpc hf hR
    have F1 := fr_at F [(Str.ofString "found", _), (Str.ofString "left", _), (Str.ofString "at", _)] (all3 hf hlf hat)
    clear F hf hlf hat
    dsimp only [putAll] at F1
    show wpAny _ _ _ _ _ _
    repeat' walk1
    rename Fr _ _ _ _ => F
    rename News _ _ _ _ => N
    exact hR _ _ _ lf lvs _ n ft F.keep (N _ (.head _)).1 (N _ (.tail _ (.head _))).2.2 (N _ (.head _)).2.2 (N _ (.tail _ (.head _))).1 (hpc.mono fun a o h => h.elim (fun h => (N _ (.tail _ (.tail _ h))).1) fun h => F.keep _ _ h)
-- 52_add
noncomputable def addStep (st : List (Int × Array UInt8) × Int × Array UInt8) (q : Int × Array UInt8) : List (Int × Array UInt8) × Int × Array UInt8 :=
  if q.1 + q.2.size < st.2.1 ∨ st.2.1 + st.2.2.size < q.1 then (st.1 ++ [q], st.2) else
    (st.1, min st.2.1 q.1, KBy.picked st.2.2 none (some (max 0 (q.1 - st.2.1))) ++ q.2 ++ KBy.picked st.2.2 (some (q.1 + q.2.size - st.2.1)) none)
noncomputable def addPiece (ps : List (Int × Array UInt8)) (off : Int) (data : Array UInt8) : List (Int × Array UInt8) :=
  if data.size = 0 then ps else insPc (ps.foldl addStep ([], off, data)).1 ((ps.foldl addStep ([], off, data)).2.1, (ps.foldl addStep ([], off, data)).2.2)
/-- the loop's word -/
noncomputable def AddJ (h0 : Heap) (lf : Addr) (st : List (Int × Array UInt8) × Int × Array UInt8) (i : Nat) (m : Str → Option Value) (news : List (Addr × Obj)) : Prop :=
  ∃ bt jt lvs n tl, news = (lf, W.listOf (List.toArray lvs) n) :: tl ∧ (∀ q ∈ tl, q.1 ≠ lf) ∧ PcsIn (fun a o => (a, o) ∈ tl ∨ h0.get? a = some o) lvs st.1 ∧ lvs.length ≤ i ∧ st.2.2.size ≤ 1000 + i * 1000 ∧
      m (Str.ofString "found") = some (.ref lf) ∧ m (Str.ofString "begin") = some (.int st.2.1 bt) ∧ m (Str.ofString "joined") = some (.bytes st.2.2 jt)
theorem AddJ.mk {h0 : Heap} {lf : Addr} {bt jt : Tok} {st : List (Int × Array UInt8) × Int × Array UInt8} {i n : Nat} {m : Str → Option Value} {lvs : List Value} {tl : List (Addr × Obj)} (h1 : ∀ q ∈ tl, q.1 ≠ lf) (h2 : PcsIn (fun a o => (a, o) ∈ tl ∨ h0.get? a = some o) lvs st.1) (h3 : lvs.length ≤ i) (hz : st.2.2.size ≤ 1000 + i * 1000)
    (h4 : m (Str.ofString "found") = some (.ref lf)) (h5 : m (Str.ofString "begin") = some (.int st.2.1 bt)) (h6 : m (Str.ofString "joined") = some (.bytes st.2.2 jt)) : AddJ h0 lf st i m ((lf, W.listOf (List.toArray lvs) n) :: tl) := ⟨bt, jt, lvs, n, tl, rfl, h1, h2, h3, hz, h4, h5, h6⟩
theorem AddJ.elim {h0 : Heap} {lf : Addr} {st : List (Int × Array UInt8) × Int × Array UInt8} {i : Nat} {m : Str → Option Value} {news : List (Addr × Obj)} (h : AddJ h0 lf st i m news) {C : Prop}
    (k : ∀ bt jt lvs n tl, news = (lf, W.listOf (List.toArray lvs) n) :: tl → (∀ q ∈ tl, q.1 ≠ lf) → PcsIn (fun a o => (a, o) ∈ tl ∨ h0.get? a = some o) lvs st.1 → lvs.length ≤ i → st.2.2.size ≤ 1000 + i * 1000 → m (Str.ofString "found") = some (.ref lf) → m (Str.ofString "begin") = some (.int st.2.1 bt) → m (Str.ofString "joined") = some (.bytes st.2.2 jt) → C) : C := by
  obtain ⟨bt, jt, lvs, n, tl, e, h1, h2, h3, hz, h4, h5, h6⟩ := h
  exact k bt jt lvs n tl e h1 h2 h3 hz h4 h5 h6
theorem add_a {st1 : List (Int × Array UInt8)} {st2 : Int} {st3 : Array UInt8} {q : Int × Array UInt8} (h : q.1 + q.2.size < st2 ∨ st2 + st3.size < q.1) : addStep (st1, st2, st3) q = (st1 ++ [q], st2, st3) := by unfold addStep; rw [if_pos h]
theorem add_c {st1 : List (Int × Array UInt8)} {st2 : Int} {st3 : Array UInt8} {q : Int × Array UInt8} (h : ¬ q.1 + q.2.size < st2) (h' : ¬ st2 + st3.size < q.1) : addStep (st1, st2, st3) q = (st1, (if q.1 < st2 then q.1 else st2), KBy.picked st3 none (some (if (0 : Int) < q.1 - st2 then q.1 - st2 else 0)) ++ q.2 ++ KBy.picked st3 (some (q.1 + q.2.size - st2)) none) := by
  unfold addStep
  rw [if_neg (fun x => x.elim h h')]
  have e1 : min st2 q.1 = if q.1 < st2 then q.1 else st2 := by split <;> omega
  have e2 : max 0 (q.1 - st2) = if (0 : Int) < q.1 - st2 then q.1 - st2 else 0 := by split <;> omega
  dsimp only
  rw [e1, e2]
theorem cut_size {j q : Array UInt8} {x y : Int} (hx : 0 ≤ x) (hxy : x ≤ y) : (KBy.picked j none (some x) ++ q ++ KBy.picked j (some y) none).size ≤ j.size + q.size := by
  rw [Array.size_append, Array.size_append, size_to hx, size_from (Int.le_trans hx hxy)]
  have : x.toNat ≤ y.toNat := Int.toNat_le_toNat hxy
  omega
theorem add_z {i : Nat} {st2 : Int} {st3 : Array UInt8} {q : Int × Array UInt8} (h : ¬ q.1 + q.2.size < st2) (hz : st3.size ≤ 1000 + i * 1000) (hq : q.2.size ≤ 1000) :
    (KBy.picked st3 none (some (if (0 : Int) < q.1 - st2 then q.1 - st2 else 0)) ++ q.2 ++ KBy.picked st3 (some (q.1 + q.2.size - st2)) none).size ≤ 1000 + (i + 1) * 1000 :=
  Nat.le_trans (cut_size (by split <;> omega) (by split <;> omega)) (by omega)
theorem add_piece_code {prog : Program} {w : World} {d u : Nat} {fr : Option (List Env)} {gs : Option (List Code)} {s : Shared} {R : Result → Shared → Prop} {p : Program} {loose : List Str} {mg mb : Str → Option Value}
   {lp : Addr} {vs : List Value} {ps : List (Int × Array UInt8)} {off : Int} {data : Array UInt8} {t t' : Tok}
   (X : (hd.heap_39 w.params).In s.heap) (T : TopRead p loose mg mb s.heap) (hroom : d < recursionLimit)
   (hl : s.heap.IsList lp vs.toArray) (hp : PcsIn (AtH s.heap) vs ps) (hsz : ∀ q ∈ ps, q.2.size ≤ 1000) (hlen : ps.length ≤ 12) (hd1 : data.size ≤ 1000)
   (hps : 0 < data.size → (ps.foldl addStep ([], off, data)).1.Pairwise fun x y => x.1 < y.1) (hpn : 0 < data.size → ∀ q ∈ (ps.foldl addStep ([], off, data)).1, q.1 ≠ (ps.foldl addStep ([], off, data)).2.1)
   (hR : ∀ h' tk D ws c, (∀ b o, s.heap.get? b = some o → h'.get? b = some o) → s.heap.get? D = none → h'.get? D = some (W.listOf (List.toArray ws) c) → PcsIn (AtH h') ws (addPiece ps off data) → R (.ok (.ret (.ref D))) { s with heap := h', toks := tk }) :
   codeAny (model prog w) ⟨none, d, fr, gs, u⟩ (.call (.ref 48) ⟨[.ref lp, .int off t, .bytes data t'], []⟩) R s := by
  obtain ⟨hp0, gs, dr, tk0, os⟩ := s
  dsimp only at X T hl hp hR
  refine' enter (K := hd.heap_39 w.params) (muts := []) (fun _ hq => nomatch hq) X T ?ho ?hcd hroom ?hbind ?hloc ?h ?hcell ?hco ?hgen ?hk
  walk_at "my enter"
  intro g L' h₁ tk hg hL F N X T hlt
  rw [hid_nil] at hg
  replace hg := hg.symm
  subst hg
  try dsimp only
  have hvl : vs.length ≤ 12 := by rw [hp.length]; exact hlen
  have hvz : vs.toArray.size ≤ sizeLine := by rw [sizeLine_eq, List.size_toArray]; omega
  show wpAny _ _ _ _ _ _
  k_fold
  repeat' walk1
  · have hz : data.size = 0 := by omega
    have ea : addPiece ps off data = ps := by unfold addPiece; rw [if_pos hz]
    rw [ea] at hR
    rename Fr _ _ _ _ => F
    rename News _ _ _ _ => N
    exact hR _ _ _ vs _ F.keep (N _ (.head _)).2.2 (N _ (.head _)).1 (hp.mono F.keep)
  have hz : ¬ data.size = 0 := by omega
  have ea : addPiece ps off data = insPc (ps.foldl addStep ([], off, data)).1 ((ps.foldl addStep ([], off, data)).2.1, (ps.foldl addStep ([], off, data)).2.2) := by unfold addPiece; rw [if_neg hz]
  rw [ea] at hR
  have hz' : 0 < data.size := by omega
  replace hps := hps hz'
  replace hpn := hpn hz'
  refine wpAny_For ?_
  walk1
  rename Fr _ _ _ _ => F
  rename News _ _ _ _ => N
  rename_i lf _ _ _ _ _ _ _ _ _
  refine forListN hl rfl F (news₀ := [(lf, W.listOf #[] 0)]) (nw_tail N) (fun i => AddJ hp0 lf ((ps.take i).foldl addStep ([], off, data)) i) ?_ ?_ ?_
  · exact AddJ.mk (lvs := []) (fun _ h => nomatch h) .nil (Nat.le_refl _) hd1 rfl rfl rfl
  · intro i v m₁ news₁ h tk' it o P hP hv hJ hoff F N
    refine hJ.elim fun bt jt lvs n tl e htl hpc hlv hjz hf hb hj => ?_
    clear hJ
    subst e
    refine hp.at hv fun q a na t1 t2 hq e ha => ?_
    clear hv
    subst e
    have ht : IsTup hp0 a #[.int q.1 t1, .bytes q.2 t2] := ⟨_, ha, rfl, _, rfl⟩
    have hqs := hsz q (List.mem_of_getElem? hq)
    have hil : @Ne Nat lf it := hoff (lf, _) (.head _)
    have hit : ∀ q ∈ tl, q.1 ≠ it := fun q hq => hoff q (.tail _ hq)
    have hi : i < ps.length := (List.getElem?_eq_some_iff.mp hq).1
    have hstep := foldl_take addStep ([], off, data) hq
    rw [hstep] at hP
    clear hstep
    generalize (ps.take i).foldl addStep ([], off, data) = st at hpc hjz hb hj hP
    obtain ⟨st1, st2, st3⟩ := st
    dsimp only at hpc hjz hb hj
    have hj6 : st3.size ≤ 60000 := by omega
    have F1 := fr_at F [(Str.ofString "found", _), (Str.ofString "begin", _), (Str.ofString "joined", _)] (all3 hf hb hj)
    clear F hf hb hj
    dsimp only [putAll] at F1
    repeat' walk1
    · rename Fr _ _ _ _ => F
      rename News _ _ _ _ => N
      rename (_ ∧ _ ∧ _ ∧ AllLt _ _) => l1
      refine hP _ _ _ _ _ F N (.tail _ (.tail _ (.head _))) (turn_nx (pre := [(_, _)]) l1.2.1 hil hit) ?_
      rw [add_a (.inl (by assumption)), List.push_toArray]
      exact AddJ.mk (tl_cons htl l1.2.2.1) ((hpc.mono fun a o h => h.imp (.tail _) id).append (.cons ⟨_, _, _, _, rfl, .inl (.head _)⟩ .nil)) (by simp; omega) (by show st3.size ≤ _; omega) rfl rfl rfl
    · rename Fr _ _ _ _ => F
      rename News _ _ _ _ => N
      rename (_ ∧ _ ∧ _ ∧ AllLt _ _) => l1
      refine hP _ _ _ _ _ F N (.tail _ (.tail _ (.head _))) (turn_nx (pre := [(_, _)]) l1.2.1 hil hit) ?_
      rw [add_a (.inr (by assumption)), List.push_toArray]
      exact AddJ.mk (tl_cons htl l1.2.2.1) ((hpc.mono fun a o h => h.imp (.tail _) id).append (.cons ⟨_, _, _, _, rfl, .inl (.head _)⟩ .nil)) (by simp; omega) (by show st3.size ≤ _; omega) rfl rfl rfl
    · rename Fr _ _ _ _ => F
      rename News _ _ _ _ => N
      rename (_ ∧ _ ∧ _ ∧ AllLt _ _) => l1
      refine hP _ _ _ _ ((lf, W.listOf lvs.toArray n) :: tl) F N (.tail _ (.tail _ (.head _))) (fun p hp => ⟨.tail _ (.tail _ (.tail _ hp)), hoff p hp⟩) ?_
      rw [add_c (by assumption) (by assumption)]
      exact AddJ.mk htl hpc (Nat.le_succ_of_le hlv) (add_z (by assumption) hjz hqs) rfl rfl rfl
  · intro m₁ news₁ h tk' hJ F N
    refine hJ.elim fun bt jt lvs n tl e htl hpc hlv hjz hf hb hj => ?_
    clear hJ
    subst e
    rw [hp.length, List.take_length] at hpc hb hj hjz
    rw [hp.length] at hlv
    generalize ps.foldl addStep ([], off, data) = st at hpc hjz hb hj hps hpn hR
    obtain ⟨st1, st2, st3⟩ := st
    dsimp only at hpc hjz hb hj hps hpn hR
    have F1 := fr_at F [(Str.ofString "found", _), (Str.ofString "begin", _), (Str.ofString "joined", _)] (all3 hf hb hj)
    clear F hf hb hj
    dsimp only [putAll] at F1
    show wpAny _ _ _ _ _ _
    iterate 19 walk1
    refine' add_arrays ?yF ?yN ?ya ?yb ?_ ?yz
    case yF => k_asm
    case yN => k_asm
    case ya => exact News.isList (by k_asm) (by k_mem)
    case yb => exact News.isList (by k_asm) (by k_mem)
    case yz => rw [sizeLine_eq]; simp only [List.size_toArray, List.length_cons, List.length_nil]; omega
    intro hA FA NA
    k_sweep
    walk1
    have hfl : st1.length ≤ 12 := by have := hpc.length; omega
    rename Fr _ _ _ _ => F
    rename News _ _ _ _ => N
    refine sorted_ins (fs := st1) (b := (st2, st3)) F N (News.isList N (.head _)) (fun _ _ h => h) ?_ hps hpn hfl ?_
    · exact (hpc.mono fun a o h => h.elim (fun h => .inr (.tail _ (.tail _ (.tail _ (.tail _ h))))) .inl).append (.cons ⟨_, _, _, _, rfl, .inr (.tail _ (.tail _ (.head _)))⟩ .nil)
    · intro D c h' ws F' N' hpw _
      exact hR _ _ D ws c F'.keep (N' _ (.head _)).2.2 (N' _ (.head _)).1 (hpw.mono fun a o h => h.elim (fun h => F'.keep _ _ h) fun h => (N' _ (.tail _ h)).1)
-- 54_take
theorem take_code {prog : Program} {w : World} {d u : Nat} {fr : Option (List Env)} {gs : Option (List Code)} {s : Shared} {R : Result → Shared → Prop} {p : Program} {loose : List Str} {mg mb : Str → Option Value}
   {ab ai : Addr} {vs : List Value} {ns : List Int} {i n : Nat} {ti tm : Tok} {many : Int}
   (hm : s.heap.get? ab = some (W.listOf #[.ref ai, .int (i : Int) ti] n)) (hai : ai ≠ ab) (hl : s.heap.IsList ai vs.toArray) (hv : IntsAre vs ns) (hns : ns.length ≤ 63) (hi : i ≤ 1000) (h0 : 0 < many)
   (X : (hd.heap_39 w.params).In (hid s.heap [(ab, W.listOf #[.ref ai, .int (i : Int) ti] n)])) (T : TopRead p loose mg mb (hid s.heap [(ab, W.listOf #[.ref ai, .int (i : Int) ti] n)])) (hroom : d < recursionLimit)
   (hR : ∀ h' tk v tv ti', (∀ b o, b ≠ ab → s.heap.get? b = some o → h'.get? b = some o) → h'.get? ab = some (W.listOf #[.ref ai, .int ((i + 1 : Nat) : Int) ti'] n) → 0 ≤ v → v < many → R (.ok (.ret (.int v tv))) { s with heap := h', toks := tk }) :
   codeAny (model prog w) ⟨none, d, fr, gs, u⟩ (.call (.ref 200) ⟨[.ref ab, .int many tm], []⟩) R s := by
  have hl' : (hid s.heap [(ab, W.listOf #[.ref ai, .int (i : Int) ti] n)]).IsList ai vs.toArray := hl.at fun o e => hid_get e fun p hp => by
    rw [List.mem_singleton.mp hp]; exact fun e => hai e.symm
  refine' enter (K := hd.heap_39 w.params) (muts := [(ab, W.listOf #[.ref ai, .int (i : Int) ti] n)]) (fun q hq => by rw [List.mem_singleton.mp hq]; exact hm) X T ?ho ?hcd hroom ?hbind ?hloc ?h ?hcell ?hco ?hgen ?hk
  walk_at "my enter"
  intro g L' h₁ tk hg hL F N X T hlt
  rw [← hg] at hl'
  have hlen := hv.length
  have hn0 : many ≠ 0 := by omega
  have keep : ∀ b o, b ≠ ab → s.heap.get? b = some o → g.get? b = some o := fun b o hb e => by
    rw [hg]; exact hid_get e fun p hp => by rw [List.mem_singleton.mp hp]; exact fun e => hb e.symm
  clear hg
  try dsimp only
  show wpAny _ _ _ _ _ _
  k_fold
  repeat' walk1
  · rename Fr _ _ _ _ => F
    rename News _ _ _ _ => N
    exact hR _ _ _ _ _ (fun b o hb e => F.keep b o (keep b o hb e)) (N _ (.head _)).1 (Int.fmod_nonneg_of_pos _ h0) (Int.fmod_lt_of_pos _ h0)
  · rename Fr _ _ _ _ => F
    rename News _ _ _ _ => N
    exact hR _ _ _ _ _ (fun b o hb e => F.keep b o (keep b o hb e)) (N _ (.head _)).1 (Int.fmod_nonneg_of_pos _ h0) (Int.fmod_lt_of_pos _ h0)
section
variable {prog : Program} {w : World} {A : Around} {E : Value → Shared → Prop} {s : Shared} {g : Heap} {L : Addr} {m : Str → Option Value} {news : List (Addr × Obj)} {G : Obj → List (Addr × Obj)} {p : Program} {loose : List Str} {mg mb : Str → Option Value}
theorem take_L {ab ai : Addr} {vs : List Value} {ns : List Int} {i n : Nat} {ti tm : Tok} {many : Int} {Q : Value → Shared → Prop} (hh : A.handled = none) (hroom : A.depth < 950) (F : Fr g L s.heap m) (N : News g L s.heap news) (X : (hd.heap_39 w.params).In g) (T : TopRead p loose mg mb g)
    (U : UpdF ab (W.listOf #[.ref ai, .int (i : Int) ti] n) news G) (hai : ai ≠ ab) (hl : s.heap.IsList ai vs.toArray) (hv : IntsAre vs ns) (hns : ns.length ≤ 63) (hi : i ≤ 1000) (h0 : 0 < many)
    (h : ∀ h' tk v tv ti', Fr g L h' m → News g L h' (G (W.listOf #[.ref ai, .int ((i + 1 : Nat) : Int) ti'] n)) → 0 ≤ v → v < many → Q (.int v tv) { s with heap := h', toks := tk }) :
    wpAny (model prog w) A (call (.ref 200) [.ref ab, .int many tm]) Q E s := by
  obtain ⟨hd, d, fr, gs, u⟩ := A
  cases hh
  have hm := updF_mem U
  have hs : ∀ q ∈ [(ab, W.listOf #[.ref ai, .int (i : Int) ti] n)], q ∈ news := fun q hq => by rw [List.mem_singleton.mp hq]; exact hm
  refine wpAny_call (take_code (N.get hm) hai hl hv hns hi h0 (in_hid F N X hs) (top_hid F N T hs) (by rw [rec_is]; exact Nat.lt_of_lt_of_le hroom (by decide)) fun h' tk v tv ti' hk hd' v0 v1 => ?_)
  obtain ⟨F', N'⟩ := led_step F N U hk hd'
  exact h h' tk v tv ti' F' N' v0 v1
end
-- 56_led
section
variable {prog : Program} {w : World} {A : Around} {E : Value → Shared → Prop} {s : Shared} {g : Heap} {L : Addr} {m : Str → Option Value} {news : List (Addr × Obj)} {p : Program} {loose : List Str} {mg mb : Str → Option Value}
theorem ne_of_news (N : News g L s.heap news) {D : Addr} (hn : s.heap.get? D = none) : AllNe D news := allNe_of fun q hq e => by
  have := (N q hq).1; rw [e, hn] at this; cases this
theorem taken_L {lp : Addr} {vs : List Value} {ps : List (Int × Array UInt8)} {at_ : Int} {t : Tok} {Q : Value → Shared → Prop} (hh : A.handled = none) (hroom : A.depth < 950) (F : Fr g L s.heap m) (N : News g L s.heap news) (X : (hd.heap_39 w.params).In g) (T : TopRead p loose mg mb g)
    (hl : s.heap.IsList lp vs.toArray) (hp : PcsIn (AtH s.heap) vs ps) (hsz : ∀ q ∈ ps, q.2.size ≤ 1000) (hlen : ps.length ≤ 1000)
    (h : ∀ h' tk D lf lvs n n' ft tl, Fr g L h' m → News g L h' ((D, { cls := .type "tuple", data := .seq #[.bytes (ps.foldl (takeStep at_) (#[], [])).1 ft, .ref lf] n }) :: (lf, W.listOf (List.toArray lvs) n') :: (news ++ tl)) →
      PcsIn (fun a o => g.get? a = some o ∨ (a, o) ∈ tl) lvs (ps.foldl (takeStep at_) (#[], [])).2 → AllTup tl → AllNe D news → AllNe lf news → @Ne Nat lf D → Q (.ref D) { s with heap := h', toks := tk }) :
    wpAny (model prog w) A (call (.ref 55) [.ref lp, .int at_ t]) Q E s := by
  obtain ⟨hd, d, fr, gs, u⟩ := A
  cases hh
  refine wpAny_call (taken_from_code (X.keeps F.keep) (T.keeps F.keep) (by rw [rec_is]; exact Nat.lt_of_lt_of_le hroom (by decide)) hl hp hsz hlen fun h' tk D lf lvs n n' ft hk hD hnl hnD hl' hp' => ?_)
  obtain ⟨F', N'⟩ := led_keep F N hk
  obtain ⟨tl, Nt, ht, hp''⟩ := pcs_tail F' hp'
  refine h h' tk D lf lvs n n' ft tl F' (led_new F (led_new F (led_app N' Nt) hk hnl hl') hk hnD hD) hp'' ht (ne_of_news N hnD) (ne_of_news N hnl) fun e => ?_
  rw [e, hD] at hl'
  have := congrArg Obj.cls (Option.some.inj hl')
  simp [W.listOf] at this
theorem add_L {lp : Addr} {vs : List Value} {ps : List (Int × Array UInt8)} {off : Int} {data : Array UInt8} {t t' : Tok} {Q : Value → Shared → Prop} (hh : A.handled = none) (hroom : A.depth < 950) (F : Fr g L s.heap m) (N : News g L s.heap news) (X : (hd.heap_39 w.params).In g) (T : TopRead p loose mg mb g)
    (hl : s.heap.IsList lp vs.toArray) (hp : PcsIn (AtH s.heap) vs ps) (hsz : ∀ q ∈ ps, q.2.size ≤ 1000) (hlen : ps.length ≤ 12) (hd1 : data.size ≤ 1000)
    (hps : 0 < data.size → (ps.foldl addStep ([], off, data)).1.Pairwise fun x y => x.1 < y.1) (hpn : 0 < data.size → ∀ q ∈ (ps.foldl addStep ([], off, data)).1, q.1 ≠ (ps.foldl addStep ([], off, data)).2.1)
    (h : ∀ h' tk D ws c tl, Fr g L h' m → News g L h' ((D, W.listOf (List.toArray ws) c) :: (news ++ tl)) → PcsIn (fun a o => g.get? a = some o ∨ (a, o) ∈ tl) ws (addPiece ps off data) → AllTup tl → AllNe D news → Q (.ref D) { s with heap := h', toks := tk }) :
    wpAny (model prog w) A (call (.ref 48) [.ref lp, .int off t, .bytes data t']) Q E s := by
  obtain ⟨hd, d, fr, gs, u⟩ := A
  cases hh
  refine wpAny_call (add_piece_code (X.keeps F.keep) (T.keeps F.keep) (by rw [rec_is]; exact Nat.lt_of_lt_of_le hroom (by decide)) hl hp hsz hlen hd1 hps hpn fun h' tk D ws c hk hnD hD hp' => ?_)
  obtain ⟨F', N'⟩ := led_keep F N hk
  obtain ⟨tl, Nt, ht, hp''⟩ := pcs_tail F' hp'
  exact h h' tk D ws c tl F' (led_new F (led_app N' Nt) hk hnD hD) hp'' ht (ne_of_news N hnD)
end
-- 60_arrived
noncomputable abbrev cryD (P : Params) (k : Tok × Tok × Tok) (t1 t2 : Tok) (limit told : Int) (lw : Addr) : Obj :=
  dictOf [⟨PyData.keyHash P (Str.ofString "limit"), .str (Str.ofString "limit") k.1, .int limit t1⟩, ⟨PyData.keyHash P (Str.ofString "told"), .str (Str.ofString "told") k.2.1, .int told t2⟩, ⟨PyData.keyHash P (Str.ofString "waiting"), .str (Str.ofString "waiting") k.2.2, .ref lw⟩] 3
/-- what of a piece lies behind what was told -/
noncomputable def cutAt (told off : Int) (data : Array UInt8) : Int × Array UInt8 := if off < told then (told, KBy.picked data (some (told - off)) none) else (off, data)
noncomputable def arrF (told : Int) (ps : List (Int × Array UInt8)) (off : Int) (data : Array UInt8) : Array UInt8 × Int × List (Int × Array UInt8) :=
  if off + data.size ≤ told then (#[], told, ps) else
    (((addPiece ps (cutAt told off data).1 (cutAt told off data).2).foldl (takeStep told) (#[], [])).1, told + ((addPiece ps (cutAt told off data).1 (cutAt told off data).2).foldl (takeStep told) (#[], [])).1.size,
      ((addPiece ps (cutAt told off data).1 (cutAt told off data).2).foldl (takeStep told) (#[], [])).2)
theorem arrF_no {told off : Int} {ps : List (Int × Array UInt8)} {data : Array UInt8} (h : ¬ off + data.size ≤ told) : arrF told ps off data =
    (((addPiece ps (cutAt told off data).1 (cutAt told off data).2).foldl (takeStep told) (#[], [])).1, told + ((addPiece ps (cutAt told off data).1 (cutAt told off data).2).foldl (takeStep told) (#[], [])).1.size,
      ((addPiece ps (cutAt told off data).1 (cutAt told off data).2).foldl (takeStep told) (#[], [])).2) := by unfold arrF; rw [if_neg h]
theorem cut_sz {told off : Int} {data : Array UInt8} : (cutAt told off data).2.size ≤ data.size := by
  unfold cutAt
  split
  · exact KBc.size_picked_le _ _ _
  · exact Nat.le_refl _
/-- behind the cut: the place and the octets stand in the frame -/
noncomputable def CutP (g : Heap) (L : Addr) (m : Str → Option Value) (news : List (Addr × Obj)) (gs : Array GenState) (dr : Drawn) (os : OsState) (c : Int × Array UInt8) (f : Flow) (s' : Shared) : Prop :=
  ∃ h' tk' to td, f = .next ∧ s' = ⟨h', gs, dr, tk', os⟩ ∧ Fr g L h' (putAll [(Str.ofString "offset", .int c.1 to), (Str.ofString "data", .bytes c.2 td)] m) ∧ News g L h' news
theorem cut_join {prog : Program} {w : World} {A : Around} {g h : Heap} {L : Addr} {m : Str → Option Value} {news : List (Addr × Obj)} {gs : Array GenState} {dr : Drawn} {os : OsState} {tk : Nat} (c : Int × Array UInt8) {st : Stmt} {env : Env} {Q : Flow → Shared → Prop} {E : Value → Shared → Prop} (_ : Fr g L h m) (_ : News g L h news)
    (h1 : wpAny (model prog w) A (exec st env) (CutP g L m news gs dr os c) E ⟨h, gs, dr, tk, os⟩) (k : ∀ h' tk' to td, Fr g L h' (putAll [(Str.ofString "offset", .int c.1 to), (Str.ofString "data", .bytes c.2 td)] m) → News g L h' news → Q .next ⟨h', gs, dr, tk', os⟩) :
    wpAny (model prog w) A (exec st env) Q E ⟨h, gs, dr, tk, os⟩ := wpAny_mono h1 (fun f s' ⟨h', tk', to, td, e1, e2, F, N⟩ => by subst e1 e2; exact k h' tk' to td F N) fun _ _ x => x
theorem arrived_code {prog : Program} {w : World} {d u : Nat} {fr : Option (List Env)} {gs : Option (List Code)} {s : Shared} {R : Result → Shared → Prop} {p : Program} {loose : List Str} {mg mb : Str → Option Value}
   {x dx lw : Addr} {vs : List Value} {ps : List (Int × Array UInt8)} {k : Tok × Tok × Tok} {t1 t2 t t' : Tok} {limit told off : Int} {data : Array UInt8}
   (hx : s.heap.get? x = some (instObj 91 dx)) (hdx : s.heap.get? dx = some (cryD w.params k t1 t2 limit told lw)) {nl : Nat} (hl0 : s.heap.get? lw = some (W.listOf vs.toArray nl)) (hp : PcsIn (AtH s.heap) vs ps)
   (X : (hd.heap_39 w.params).In (hid s.heap [(x, instObj 91 dx), (dx, cryD w.params k t1 t2 limit told lw)])) (T : TopRead p loose mg mb (hid s.heap [(x, instObj 91 dx), (dx, cryD w.params k t1 t2 limit told lw)])) (hroom : d < 940)
   (hd1 : data.size ≤ 1000) (hlet : off + data.size ≤ told + limit)
   (hsz : ∀ q ∈ ps, q.2.size ≤ 1000) (hlen : ps.length ≤ 12)
   (hps : 0 < (cutAt told off data).2.size → (ps.foldl addStep ([], (cutAt told off data).1, (cutAt told off data).2)).1.Pairwise fun x y => x.1 < y.1)
   (hpn : 0 < (cutAt told off data).2.size → ∀ q ∈ (ps.foldl addStep ([], (cutAt told off data).1, (cutAt told off data).2)).1, q.1 ≠ (ps.foldl addStep ([], (cutAt told off data).1, (cutAt told off data).2)).2.1)
   (hsz' : ∀ q ∈ addPiece ps (cutAt told off data).1 (cutAt told off data).2, q.2.size ≤ 1000) (hlen' : (addPiece ps (cutAt told off data).1 (cutAt told off data).2).length ≤ 1000)
   (hfz : ((addPiece ps (cutAt told off data).1 (cutAt told off data).2).foldl (takeStep told) (#[], [])).1.size ≤ 1000)
   (hR : ∀ h' tk ft t1' t2' lw' vs' n', (∀ b o, b ≠ dx → s.heap.get? b = some o → h'.get? b = some o) → h'.get? dx = some (cryD w.params k t1' t2' limit (arrF told ps off data).2.1 lw') →
      h'.get? lw' = some (W.listOf (List.toArray vs') n') → PcsIn (AtH h') vs' (arrF told ps off data).2.2 → R (.ok (.ret (.bytes (arrF told ps off data).1 ft))) { s with heap := h', toks := tk }) :
   codeAny (model prog w) ⟨none, d, fr, gs, u⟩ (.call (.ref 81) ⟨[.ref x, .int off t, .bytes data t'], []⟩) R s := by
  have hxd : @Ne Nat x dx := fun e => by rw [e, hdx] at hx; simp [instObj] at hx
  have hN : ∀ q ∈ [(x, instObj 91 dx), (dx, cryD w.params k t1 t2 limit told lw)], s.heap.get? q.1 = some q.2 := fun q hq => by
    rcases List.mem_cons.mp hq with rfl | hq
    · exact hx
    · rw [List.mem_singleton.mp hq]; exact hdx
  refine' enter (K := hd.heap_39 w.params) (muts := [(x, instObj 91 dx), (dx, cryD w.params k t1 t2 limit told lw)]) hN X T ?ho ?hcd (by rw [rec_is]; exact Nat.lt_of_lt_of_le hroom (by decide)) ?hbind ?hloc ?h ?hcell ?hco ?hgen ?hk
  walk_at "my enter"
  intro g L' h₁ tk hg hL F N X T hlt
  have hl : s.heap.IsList lw vs.toArray := ⟨_, hl0, rfl, nl, rfl⟩
  have hlw : ∀ q ∈ [(x, instObj 91 dx), (dx, cryD w.params k t1 t2 limit told lw)], q.1 ≠ lw := fun q hq e => by
    obtain ⟨ol, hol, hc, _⟩ := hl
    have := hN q hq
    rw [e, hol] at this
    obtain rfl := Option.some.inj this
    rcases List.mem_cons.mp hq with rfl | hq
    · cases hc
    · rw [List.mem_singleton.mp hq] at hc; exact type_ne hc
  have hlg : g.IsList lw vs.toArray := hl.at fun o e => by rw [hg]; exact hid_get e hlw
  have hpg : PcsIn (AtH g) vs ps := by
    refine hp.mono' fun a o e hc => ?_
    rw [hg]; refine hid_get e fun q hq e' => ?_
    have := hN q hq
    rw [e', e] at this
    obtain rfl := Option.some.inj this
    rcases List.mem_cons.mp hq with rfl | hq
    · cases hc
    · rw [List.mem_singleton.mp hq] at hc; exact type_ne hc
  have keep0 : ∀ b o, b ≠ x → b ≠ dx → s.heap.get? b = some o → g.get? b = some o := fun b o h1 h2 e => by
    rw [hg]; refine hid_get e fun q hq e' => ?_
    rcases List.mem_cons.mp hq with rfl | hq
    · exact h1 e'.symm
    · rw [List.mem_singleton.mp hq] at e'; exact h2 e'.symm
  have keep : ∀ {h' : Heap} {m' : Str → Option Value}, Fr g L' h' m' → h'.get? x = some (instObj 91 dx) → ∀ b o, b ≠ dx → s.heap.get? b = some o → h'.get? b = some o := fun {h' m'} F hx' b o hb e => by
    by_cases q : b = x
    · subst q; rw [hx] at e; obtain rfl := Option.some.inj e; exact hx'
    · exact F.keep _ _ (keep0 b o q hb e)
  clear hg
  try dsimp only
  show wpAny _ _ _ _ _ _
  k_fold
  iterate 45 walk1
  · repeat' walk1
    have ea : arrF told ps off data = (#[], told, ps) := by unfold arrF; rw [if_pos (by assumption)]
    rw [ea] at hR
    have hlg' := F.keep _ _ (keep0 lw _ (fun e => hlw _ (.head _) e.symm) (fun e => hlw _ (.tail _ (.head _)) e.symm) hl0)
    exact hR _ _ _ _ _ lw vs nl (keep F (N _ (.head _)).1) (N _ (.tail _ (.head _))).1 hlg' (hpg.mono F.keep)
  have hna : ¬ off + data.size ≤ told := by assumption
  rw [arrF_no hna] at hR
  clear hna
  iterate 2 walk1
  try dsimp only
  refine cut_join (cutAt told off data) F N ?_ ?_
  · repeat' walk1
    · have hlt : off < told := by assumption
      have ec : cutAt told off data = (told, KBy.picked data (some (told - off)) none) := by unfold cutAt; rw [if_pos hlt]
      rw [ec]
      rename Fr _ _ _ _ => F
      rename News _ _ _ _ => N
      exact ⟨_, _, _, _, rfl, rfl, F, nw_tail N⟩
    · have hlt : ¬ off < told := by assumption
      have ec : cutAt told off data = (off, data) := by unfold cutAt; rw [if_neg hlt]
      rw [ec]
      exact ⟨_, _, _, _, rfl, rfl, fr_at F _ (all_mk rfl (all_mk rfl (fun _ h => nomatch h))), N⟩
  intro h' tk' to td F N
  have hd1 := Nat.le_trans (cut_sz (told := told) (off := off) (data := data)) hd1
  generalize cutAt told off data = c at F hps hpn hsz' hlen' hfz hR hd1
  obtain ⟨off, data⟩ := c
  dsimp only [putAll] at F
  dsimp only at hps hpn hsz' hlen' hfz hR hd1

  iterate 15 walk1
  rename Fr _ _ _ _ => F
  rename News _ _ _ _ => N
  refine add_L rfl (by show d + 1 < 950; omega) F N X T (hlg.at fun o e => F.keep _ o e) (hpg.mono F.keep) hsz hlen hd1 hps hpn ?_
  intro h' tk D ws c tl F' N' hp' ht hne
  replace N' : News _ _ _ (_ :: _ :: _ :: tl) := N'
  clear F N hps hpn
  generalize addPiece ps off data = ps1 at hp' hfz hR hsz' hlen'
  have a1 : @Ne Nat x D := hne.1
  have a2 : @Ne Nat dx D := hne.2.1
  clear hne
  have htl : ∀ q ∈ tl, q.1 ≠ dx := tl_off (o := cryD w.params k t1 t2 limit told lw) N' (by k_mem) rfl ht (fun q hq => .tail _ (.tail _ (.tail _ hq)))
  iterate 18 walk1
  rename Fr _ _ _ _ => F
  rename News _ _ _ _ => N
  refine taken_L rfl (by show d + 1 < 950; omega) F N X T (News.isList N (by k_mem)) (pcs_at (P := fun _ _ => True) F N hp' fun q hq => .tail _ (.tail _ (.tail _ hq))) hsz' hlen' ?_
  intro h' tk D2 lf2 lvs n n' ft tl2 F' N' hp2 ht2 hne2 hnl2 hlD
  clear F N
  generalize ps1.foldl (takeStep told) (#[], []) = st at hp2 hfz hR N'
  replace N' : News _ _ _ (_ :: _ :: _ :: _ :: _ :: (tl ++ tl2)) := N'
  have b1 : @Ne Nat D D2 := hne2.1
  have b2 : @Ne Nat x D2 := hne2.2.1
  have b3 : @Ne Nat dx D2 := hne2.2.2.1
  have b4 : @Ne Nat D lf2 := hnl2.1
  have b5 : @Ne Nat x lf2 := hnl2.2.1
  have b6 : @Ne Nat dx lf2 := hnl2.2.2.1
  clear hne2 hnl2
  have htl2 : ∀ q ∈ tl ++ tl2, q.1 ≠ dx := tl_app htl (tl_off N' (by k_mem) rfl ht2 (fun q hq => .tail _ (.tail _ (.tail _ (.tail _ (.tail _ (List.mem_append_right _ hq)))))))
  repeat' walk1
  rename Fr _ _ _ _ => F
  rename News _ _ _ _ => N
  exact hR _ _ _ _ _ lf2 lvs n' (keep F (N.get (by k_mem))) (N.get (by k_mem)) (N.get (by k_mem)) (pcs_at (P := fun _ _ => True) F N hp2 fun q hq => by repeat (first | exact List.mem_append_right _ hq | apply List.Mem.tail))
-- 62_part
noncomputable abbrev K8 := Tok × Tok × Tok × Tok × Tok × Tok × Tok × Tok
noncomputable abbrev recD (P : Params) (k : K8) (t1 t2 t3 : Tok) (limit : Int) (lp : Addr) (rd high : Int) : Obj :=
  dictOf [⟨PyData.keyHash P (Str.ofString "limit"), .str (Str.ofString "limit") k.1, .int limit t1⟩, ⟨PyData.keyHash P (Str.ofString "state"), .str (Str.ofString "state") k.2.1, .str (Str.ofString "recv") 340⟩,
    ⟨PyData.keyHash P (Str.ofString "pieces"), .str (Str.ofString "pieces") k.2.2.1, .ref lp⟩, ⟨PyData.keyHash P (Str.ofString "read_to"), .str (Str.ofString "read_to") k.2.2.2.1, .int rd t2⟩,
    ⟨PyData.keyHash P (Str.ofString "highest"), .str (Str.ofString "highest") k.2.2.2.2.1, .int high t3⟩, ⟨PyData.keyHash P (Str.ofString "final_size"), .str (Str.ofString "final_size") k.2.2.2.2.2.1, .none⟩,
    ⟨PyData.keyHash P (Str.ofString "reset_code"), .str (Str.ofString "reset_code") k.2.2.2.2.2.2.1, .none⟩, ⟨PyData.keyHash P (Str.ofString "stop_code"), .str (Str.ofString "stop_code") k.2.2.2.2.2.2.2, .none⟩] 8
section
variable {prog : Program} {w : World} {d u : Nat} {fr : Option (List Env)} {gs : Option (List Code)} {s : Shared} {R : Result → Shared → Prop} {p : Program} {loose : List Str} {mg mb : Str → Option Value}
   {x dx lw : Addr} {k : K8} {t1 t2 t3 t t' : Tok} {limit rd high : Int}
theorem two_news {h : Heap} {x dx : Addr} {o o' : Obj} (hx : h.get? x = some o) (hdx : h.get? dx = some o') : ∀ q ∈ [(x, o), (dx, o')], h.get? q.1 = some q.2 := fun q hq => by
  rcases List.mem_cons.mp hq with rfl | hq
  · exact hx
  · rw [List.mem_singleton.mp hq]; exact hdx
theorem keep_two {g h h' : Heap} {L x dx : Addr} {m : Str → Option Value} {o o' : Obj} (hg : g = hid h [(x, o), (dx, o')]) (hx : h.get? x = some o) (F : Fr g L h' m) (hx' : h'.get? x = some o) : ∀ b ob, b ≠ dx → h.get? b = some ob → h'.get? b = some ob := fun b ob hb e => by
  by_cases q : b = x
  · subst q; rw [hx] at e; obtain rfl := Option.some.inj e; exact hx'
  · refine F.keep _ _ ?_
    rw [hg]; refine hid_get e fun z hz e' => ?_
    rcases List.mem_cons.mp hz with rfl | hz
    · exact q e'.symm
    · rw [List.mem_singleton.mp hz] at e'; exact hb e'.symm
theorem raise_limit_code {nl : Int} (hx : s.heap.get? x = some (instObj 189 dx)) (hdx : s.heap.get? dx = some (recD w.params k t1 t2 t3 limit lw rd high))
   (X : (hd.heap_39 w.params).In (hid s.heap [(x, instObj 189 dx), (dx, recD w.params k t1 t2 t3 limit lw rd high)])) (T : TopRead p loose mg mb (hid s.heap [(x, instObj 189 dx), (dx, recD w.params k t1 t2 t3 limit lw rd high)])) (hroom : d < 950)
   (hR : ∀ h' tk t1', (∀ b o, b ≠ dx → s.heap.get? b = some o → h'.get? b = some o) → h'.get? dx = some (recD w.params k t1' t2 t3 (max limit nl) lw rd high) → R (.ok (.ret .none)) { s with heap := h', toks := tk }) :
   codeAny (model prog w) ⟨none, d, fr, gs, u⟩ (.call (.ref 172) ⟨[.ref x, .int nl t], []⟩) R s := by
  have hxd : @Ne Nat x dx := fun e => by rw [e, hdx] at hx; simp [instObj] at hx
  refine' enter (K := hd.heap_39 w.params) (muts := [(x, instObj 189 dx), (dx, recD w.params k t1 t2 t3 limit lw rd high)]) (two_news hx hdx) X T ?ho ?hcd (by rw [rec_is]; exact Nat.lt_of_lt_of_le hroom (by decide)) ?hbind ?hloc ?h ?hcell ?hco ?hgen ?hk
  walk_at "my enter"
  intro g L' h₁ tk hg hL F N X T hlt
  show wpAny _ _ _ _ _ _
  k_fold
  repeat' walk1
  rename Fr _ _ _ _ => F
  rename News _ _ _ _ => N
  have e : max limit nl = if nl > limit then nl else limit := by split <;> omega
  rw [e] at hR
  exact hR _ _ _ (keep_two hg hx F (N _ (.head _)).1) (N _ (.tail _ (.head _))).1
theorem used_to_code (hx : s.heap.get? x = some (instObj 189 dx)) (hdx : s.heap.get? dx = some (recD w.params k t1 t2 t3 limit lw rd high))
   (X : (hd.heap_39 w.params).In (hid s.heap [(x, instObj 189 dx), (dx, recD w.params k t1 t2 t3 limit lw rd high)])) (T : TopRead p loose mg mb (hid s.heap [(x, instObj 189 dx), (dx, recD w.params k t1 t2 t3 limit lw rd high)])) (hroom : d < 950)
   (hR : ∀ h' tk t2', (∀ b o, s.heap.get? b = some o → h'.get? b = some o) → R (.ok (.ret (.int rd t2'))) { s with heap := h', toks := tk }) :
   codeAny (model prog w) ⟨none, d, fr, gs, u⟩ (.call (.ref 179) ⟨[.ref x], []⟩) R s := by
  have hxd : @Ne Nat x dx := fun e => by rw [e, hdx] at hx; simp [instObj] at hx
  refine' enter (K := hd.heap_39 w.params) (muts := [(x, instObj 189 dx), (dx, recD w.params k t1 t2 t3 limit lw rd high)]) (two_news hx hdx) X T ?ho ?hcd (by rw [rec_is]; exact Nat.lt_of_lt_of_le hroom (by decide)) ?hbind ?hloc ?h ?hcell ?hco ?hgen ?hk
  walk_at "my enter"
  intro g L' h₁ tk hg hL F N X T hlt
  show wpAny _ _ _ _ _ _
  k_fold
  repeat' walk1
  rename Fr _ _ _ _ => F
  rename News _ _ _ _ => N
  refine hR _ _ _ fun b o e => ?_
  by_cases q : b = dx
  · subst q; rw [hdx] at e; obtain rfl := Option.some.inj e; exact N.get (by k_mem)
  · exact keep_two hg hx F (N.get (by k_mem)) b o q e
theorem grown_code {en : Int} (hx : s.heap.get? x = some (instObj 189 dx)) (hdx : s.heap.get? dx = some (recD w.params k t1 t2 t3 limit lw rd high))
   (X : (hd.heap_39 w.params).In (hid s.heap [(x, instObj 189 dx), (dx, recD w.params k t1 t2 t3 limit lw rd high)])) (T : TopRead p loose mg mb (hid s.heap [(x, instObj 189 dx), (dx, recD w.params k t1 t2 t3 limit lw rd high)])) (hroom : d < 950)
   (hR : ∀ h' tk t3' v tv, (∀ b o, b ≠ dx → s.heap.get? b = some o → h'.get? b = some o) → h'.get? dx = some (recD w.params k t1 t2 t3' limit lw rd (max high en)) → R (.ok (.ret (.int v tv))) { s with heap := h', toks := tk }) :
   codeAny (model prog w) ⟨none, d, fr, gs, u⟩ (.call (.ref 130) ⟨[.ref x, .int en t], []⟩) R s := by
  have hxd : @Ne Nat x dx := fun e => by rw [e, hdx] at hx; simp [instObj] at hx
  refine' enter (K := hd.heap_39 w.params) (muts := [(x, instObj 189 dx), (dx, recD w.params k t1 t2 t3 limit lw rd high)]) (two_news hx hdx) X T ?ho ?hcd (by rw [rec_is]; exact Nat.lt_of_lt_of_le hroom (by decide)) ?hbind ?hloc ?h ?hcell ?hco ?hgen ?hk
  walk_at "my enter"
  intro g L' h₁ tk hg hL F N X T hlt
  show wpAny _ _ _ _ _ _
  k_fold
  repeat' walk1
  rename Fr _ _ _ _ => F
  rename News _ _ _ _ => N
  have e : max high en = high + if en - high > 0 then en - high else 0 := by split <;> omega
  rw [e] at hR
  exact hR _ _ _ _ _ (keep_two hg hx F (N _ (.head _)).1) (N _ (.tail _ (.head _))).1
theorem check_end_code {en : Int} {ft : Tok} (hx : s.heap.get? x = some (instObj 189 dx)) (hdx : s.heap.get? dx = some (recD w.params k t1 t2 t3 limit lw rd high))
   (X : (hd.heap_39 w.params).In (hid s.heap [(x, instObj 189 dx), (dx, recD w.params k t1 t2 t3 limit lw rd high)])) (T : TopRead p loose mg mb (hid s.heap [(x, instObj 189 dx), (dx, recD w.params k t1 t2 t3 limit lw rd high)])) (hroom : d < 950)
   (hlet : en ≤ limit)
   (hR : ∀ h' tk, (∀ b o, s.heap.get? b = some o → h'.get? b = some o) → R (.ok (.ret .none)) { s with heap := h', toks := tk }) :
   codeAny (model prog w) ⟨none, d, fr, gs, u⟩ (.call (.ref 123) ⟨[.ref x, .int en t, .bool false, .int 8 ft], []⟩) R s := by
  have hxd : @Ne Nat x dx := fun e => by rw [e, hdx] at hx; simp [instObj] at hx
  refine' enter (K := hd.heap_39 w.params) (muts := [(x, instObj 189 dx), (dx, recD w.params k t1 t2 t3 limit lw rd high)]) (two_news hx hdx) X T ?ho ?hcd (by rw [rec_is]; exact Nat.lt_of_lt_of_le hroom (by decide)) ?hbind ?hloc ?h ?hcell ?hco ?hgen ?hk
  walk_at "my enter"
  intro g L' h₁ tk hg hL F N X T hlt
  show wpAny _ _ _ _ _ _
  k_fold
  repeat' walk1
  refine hR _ _ fun b o e => ?_
  by_cases q : b = dx
  · subst q; rw [hdx] at e; obtain rfl := Option.some.inj e; exact N.get (by k_mem)
  · exact keep_two hg hx F (N.get (by k_mem)) b o q e
end
-- 63_partL
section
variable {prog : Program} {w : World} {A : Around} {E : Value → Shared → Prop} {s : Shared} {g : Heap} {L : Addr} {m : Str → Option Value} {news : List (Addr × Obj)} {G : Obj → List (Addr × Obj)} {p : Program} {loose : List Str} {mg mb : Str → Option Value}
   {x dx lw : Addr} {k : K8} {t1 t2 t3 t t' ft : Tok} {limit rd high en nl : Int} {Q : Value → Shared → Prop}
theorem two_in {x dx : Addr} {o o' : Obj} (hx : (x, o) ∈ news) (U : UpdF dx o' news G) : ∀ q ∈ [(x, o), (dx, o')], q ∈ news := fun q hq => by
  rcases List.mem_cons.mp hq with rfl | hq
  · exact hx
  · rw [List.mem_singleton.mp hq]; exact updF_mem U
theorem grown_L (hh : A.handled = none) (hroom : A.depth < 950) (F : Fr g L s.heap m) (N : News g L s.heap news) (X : (hd.heap_39 w.params).In g) (T : TopRead p loose mg mb g)
    (hx : (x, instObj 189 dx) ∈ news) (U : UpdF dx (recD w.params k t1 t2 t3 limit lw rd high) news G)
    (h : ∀ h' tk t3' v tv, Fr g L h' m → News g L h' (G (recD w.params k t1 t2 t3' limit lw rd (max high en))) → Q (.int v tv) { s with heap := h', toks := tk }) :
    wpAny (model prog w) A (call (.ref 130) [.ref x, .int en t]) Q E s := by
  obtain ⟨hd, d, fr, gs, u⟩ := A
  cases hh
  refine wpAny_call (grown_code (N.get hx) (N.get (updF_mem U)) (in_hid F N X (two_in hx U)) (top_hid F N T (two_in hx U)) hroom fun h' tk t3' v tv hk hd' => ?_)
  obtain ⟨F', N'⟩ := led_step F N U hk hd'
  exact h h' tk t3' v tv F' N'
theorem raise_limit_L (hh : A.handled = none) (hroom : A.depth < 950) (F : Fr g L s.heap m) (N : News g L s.heap news) (X : (hd.heap_39 w.params).In g) (T : TopRead p loose mg mb g)
    (hx : (x, instObj 189 dx) ∈ news) (U : UpdF dx (recD w.params k t1 t2 t3 limit lw rd high) news G)
    (h : ∀ h' tk t1', Fr g L h' m → News g L h' (G (recD w.params k t1' t2 t3 (max limit nl) lw rd high)) → Q .none { s with heap := h', toks := tk }) :
    wpAny (model prog w) A (call (.ref 172) [.ref x, .int nl t]) Q E s := by
  obtain ⟨hd, d, fr, gs, u⟩ := A
  cases hh
  refine wpAny_call (raise_limit_code (N.get hx) (N.get (updF_mem U)) (in_hid F N X (two_in hx U)) (top_hid F N T (two_in hx U)) hroom fun h' tk t1' hk hd' => ?_)
  obtain ⟨F', N'⟩ := led_step F N U hk hd'
  exact h h' tk t1' F' N'
theorem check_end_L (hh : A.handled = none) (hroom : A.depth < 950) (F : Fr g L s.heap m) (N : News g L s.heap news) (X : (hd.heap_39 w.params).In g) (T : TopRead p loose mg mb g)
    (hx : (x, instObj 189 dx) ∈ news) (U : UpdF dx (recD w.params k t1 t2 t3 limit lw rd high) news G) (hlet : en ≤ limit)
    (h : ∀ h' tk, Fr g L h' m → News g L h' news → Q .none { s with heap := h', toks := tk }) :
    wpAny (model prog w) A (call (.ref 123) [.ref x, .int en t, .bool false, .int 8 ft]) Q E s := by
  obtain ⟨hd, d, fr, gs, u⟩ := A
  cases hh
  refine wpAny_call (check_end_code (N.get hx) (N.get (updF_mem U)) (in_hid F N X (two_in hx U)) (top_hid F N T (two_in hx U)) hroom hlet fun h' tk hk => ?_)
  obtain ⟨F', N'⟩ := led_keep F N hk
  exact h h' tk F' N'
theorem used_to_L (hh : A.handled = none) (hroom : A.depth < 950) (F : Fr g L s.heap m) (N : News g L s.heap news) (X : (hd.heap_39 w.params).In g) (T : TopRead p loose mg mb g)
    (hx : (x, instObj 189 dx) ∈ news) (U : UpdF dx (recD w.params k t1 t2 t3 limit lw rd high) news G)
    (h : ∀ h' tk tv, Fr g L h' m → News g L h' news → Q (.int rd tv) { s with heap := h', toks := tk }) :
    wpAny (model prog w) A (call (.ref 179) [.ref x]) Q E s := by
  obtain ⟨hd, d, fr, gs, u⟩ := A
  cases hh
  refine wpAny_call (used_to_code (N.get hx) (N.get (updF_mem U)) (in_hid F N X (two_in hx U)) (top_hid F N T (two_in hx U)) hroom fun h' tk tv hk => ?_)
  obtain ⟨F', N'⟩ := led_keep F N hk
  exact h h' tk tv F' N'
end
-- 64_stream
theorem picked_zero (b : Array UInt8) : KBy.picked b (some 0) none = b := by
  apply Array.toList_inj.mp
  rw [picked_from (Int.le_refl 0)]; simp
section
variable {prog : Program} {w : World} {d u : Nat} {fr : Option (List Env)} {gs : Option (List Code)} {s : Shared} {R : Result → Shared → Prop} {p : Program} {loose : List Str} {mg mb : Str → Option Value}
   {x dx lw : Addr} {k : K8} {t1 t2 t3 t t' : Tok} {limit rd high : Int}
/-- the waiting pieces after one more that is let -/
noncomputable def strF (rd : Int) (ps : List (Int × Array UInt8)) (off : Int) (data : Array UInt8) : List (Int × Array UInt8) :=
  if off + data.size ≤ rd then ps else addPiece ps (cutAt rd off data).1 (cutAt rd off data).2
theorem on_stream_code {vs : List Value} {ps : List (Int × Array UInt8)} {nl : Nat} {off : Int} {data : Array UInt8}
   (hx : s.heap.get? x = some (instObj 189 dx)) (hdx : s.heap.get? dx = some (recD w.params k t1 t2 t3 limit lw rd high)) (hl0 : s.heap.get? lw = some (W.listOf vs.toArray nl)) (hp : PcsIn (AtH s.heap) vs ps)
   (X : (hd.heap_39 w.params).In (hid s.heap [(x, instObj 189 dx), (dx, recD w.params k t1 t2 t3 limit lw rd high)])) (T : TopRead p loose mg mb (hid s.heap [(x, instObj 189 dx), (dx, recD w.params k t1 t2 t3 limit lw rd high)])) (hroom : d < 940)
   (hd1 : data.size ≤ 1000) (hlet : off + data.size ≤ limit)
   (hsz : ∀ q ∈ ps, q.2.size ≤ 1000) (hlen : ps.length ≤ 12)
   (hps : 0 < (cutAt rd off data).2.size → (ps.foldl addStep ([], (cutAt rd off data).1, (cutAt rd off data).2)).1.Pairwise fun x y => x.1 < y.1)
   (hpn : 0 < (cutAt rd off data).2.size → ∀ q ∈ (ps.foldl addStep ([], (cutAt rd off data).1, (cutAt rd off data).2)).1, q.1 ≠ (ps.foldl addStep ([], (cutAt rd off data).1, (cutAt rd off data).2)).2.1)
   (hR : ∀ h' tk t3' v tv lw' vs' n', (∀ b o, b ≠ dx → s.heap.get? b = some o → h'.get? b = some o) → h'.get? dx = some (recD w.params k t1 t2 t3' limit lw' rd (max high (off + data.size))) →
      h'.get? lw' = some (W.listOf (List.toArray vs') n') → PcsIn (AtH h') vs' (strF rd ps off data) → R (.ok (.ret (.int v tv))) { s with heap := h', toks := tk }) :
   codeAny (model prog w) ⟨none, d, fr, gs, u⟩ (.call (.ref 137) ⟨[.ref x, .int off t, .bytes data t', .bool false], []⟩) R s := by
  have hxd : @Ne Nat x dx := fun e => by rw [e, hdx] at hx; simp [instObj] at hx
  have hl : s.heap.IsList lw vs.toArray := ⟨_, hl0, rfl, nl, rfl⟩
  have hN := two_news hx hdx
  have hlw : ∀ q ∈ [(x, instObj 189 dx), (dx, recD w.params k t1 t2 t3 limit lw rd high)], q.1 ≠ lw := fun q hq e => by
    have := hN q hq
    rw [e, hl0] at this
    have := congrArg Obj.cls (Option.some.inj this)
    rcases List.mem_cons.mp hq with rfl | hq
    · cases this
    · rw [List.mem_singleton.mp hq] at this; exact type_ne this
  refine' enter (K := hd.heap_39 w.params) (muts := [(x, instObj 189 dx), (dx, recD w.params k t1 t2 t3 limit lw rd high)]) hN X T ?ho ?hcd (by rw [rec_is]; exact Nat.lt_of_lt_of_le hroom (by decide)) ?hbind ?hloc ?h ?hcell ?hco ?hgen ?hk
  walk_at "my enter"
  intro g L' h₁ tk hg hL F N X T hlt
  have hl0g : g.get? lw = some (W.listOf vs.toArray nl) := by rw [hg]; exact hid_get hl0 hlw
  have hlg : g.IsList lw vs.toArray := ⟨_, hl0g, rfl, nl, rfl⟩
  have hpg : PcsIn (AtH g) vs ps := by
    refine hp.mono' fun a o e hc => ?_
    rw [hg]; refine hid_get e fun q hq e' => ?_
    have := hN q hq
    rw [e', e] at this
    obtain rfl := Option.some.inj this
    rcases List.mem_cons.mp hq with rfl | hq
    · cases hc
    · rw [List.mem_singleton.mp hq] at hc; exact type_ne hc
  show wpAny _ _ _ _ _ _
  k_fold
  iterate 28 walk1
  rename Fr _ _ _ _ => F
  rename News _ _ _ _ => N
  refine' check_end_L rfl ?hr F N X T ?hx ?U ?hlet ?_
  case hr => walk_at "my depth"
  case hx => k_mem
  case U => k_updF
  case hlet => omega
  intro h2 tk2 F2 N2
  clear F N
  try dsimp only
  iterate 10 walk1
  rename Fr _ _ _ _ => F2
  rename News _ _ _ _ => N2
  refine' grown_L rfl ?hr F2 N2 X T ?hx ?U ?_
  case hr => walk_at "my depth"
  case hx => k_mem
  case U => k_updF
  intro h3 tk3 t3' v tv F3 N3
  clear F2 N2
  try dsimp only
  repeat' walk1
  · rename Fr _ _ _ _ => F
    rename News _ _ _ _ => N
    have e1 : (if rd > off then rd else off) = (cutAt rd off data).1 := by unfold cutAt; split <;> simp_all
    have e2 : KBy.picked data (some (if rd - off > 0 then rd - off else 0)) none = (cutAt rd off data).2 := by
      unfold cutAt
      by_cases q : off < rd
      · rw [if_pos q, if_pos (by omega)]
      · rw [if_neg q, if_neg (by omega), picked_zero]
    rw [e1, e2]
    have ea : strF rd ps off data = addPiece ps (cutAt rd off data).1 (cutAt rd off data).2 := by unfold strF; rw [if_neg (by omega)]
    rw [ea] at hR
    have hcz : (cutAt rd off data).2.size ≤ 1000 := by
      unfold cutAt; split
      · rw [size_from (by omega)]; omega
      · exact hd1
    generalize (cutAt rd off data).1 = off2 at hR hps hpn ⊢
    generalize (cutAt rd off data).2 = data2 at hR hps hpn hcz ⊢
    refine add_L rfl (by walk_at "my depth") F N X T (hlg.at fun o e => F.keep _ o e) (hpg.mono F.keep) hsz hlen hcz hps hpn ?_
    intro h' tk D ws c tl F' N' hp' ht hne
    generalize addPiece ps off2 data2 = ps1 at hp' hR
    replace N' : News _ _ _ (_ :: _ :: _ :: _ :: tl) := N'
    have a0 : @Ne Nat _ D := hne.1
    have a1 : @Ne Nat x D := hne.2.1
    have a2 : @Ne Nat dx D := hne.2.2.1
    clear hne F N
    have htl : ∀ q ∈ tl, q.1 ≠ dx := tl_off N' (by k_mem) rfl ht (fun q hq => .tail _ (.tail _ (.tail _ (.tail _ hq))))
    repeat' walk1
    rename Fr _ _ _ _ => F
    rename News _ _ _ _ => N
    exact hR _ _ _ _ _ D ws c (keep_two hg hx F (N.get (by k_mem))) (N.get (by k_mem)) (N.get (by k_mem)) (pcs_at (P := fun _ _ => True) F N hp' fun q hq => by repeat (first | exact hq | apply List.Mem.tail))
  · rename Fr _ _ _ _ => F
    rename News _ _ _ _ => N
    have ea : strF rd ps off data = ps := by unfold strF; rw [if_pos (by omega)]
    rw [ea] at hR
    exact hR _ _ _ _ _ lw vs nl (keep_two hg hx F (N.get (by k_mem))) (N.get (by k_mem)) (F.keep _ _ hl0g) (hpg.mono F.keep)
end
-- 66_read
section
variable {prog : Program} {w : World} {d u : Nat} {fr : Option (List Env)} {gs : Option (List Code)} {s : Shared} {R : Result → Shared → Prop} {p : Program} {loose : List Str} {mg mb : Str → Option Value}
   {x dx lw : Addr} {k : K8} {t1 t2 t3 t t' : Tok} {limit rd high : Int}
theorem read_code {vs : List Value} {ps : List (Int × Array UInt8)} {nl : Nat} 
   (hx : s.heap.get? x = some (instObj 189 dx)) (hdx : s.heap.get? dx = some (recD w.params k t1 t2 t3 limit lw rd high)) (hl0 : s.heap.get? lw = some (W.listOf vs.toArray nl)) (hp : PcsIn (AtH s.heap) vs ps)
   (X : (hd.heap_39 w.params).In (hid s.heap [(x, instObj 189 dx), (dx, recD w.params k t1 t2 t3 limit lw rd high)])) (T : TopRead p loose mg mb (hid s.heap [(x, instObj 189 dx), (dx, recD w.params k t1 t2 t3 limit lw rd high)])) (hroom : d < 940)
   (hsz : ∀ q ∈ ps, q.2.size ≤ 1000) (hlen : ps.length ≤ 1000) (hfz : (ps.foldl (takeStep rd) (#[], [])).1.size ≤ 99)
   (hR : ∀ h' tk t2' lw' vs' n' D ft n, (∀ b o, b ≠ dx → s.heap.get? b = some o → h'.get? b = some o) → h'.get? dx = some (recD w.params k t1 t2' t3 limit lw' (rd + (ps.foldl (takeStep rd) (#[], [])).1.size) high) →
      h'.get? lw' = some (W.listOf (List.toArray vs') n') → PcsIn (AtH h') vs' (ps.foldl (takeStep rd) (#[], [])).2 → h'.get? D = some { cls := .type "tuple", data := .seq #[.bytes (ps.foldl (takeStep rd) (#[], [])).1 ft, .bool false] n } →
      R (.ok (.ret (.ref D))) { s with heap := h', toks := tk }) :
   codeAny (model prog w) ⟨none, d, fr, gs, u⟩ (.call (.ref 158) ⟨[.ref x, .int 99 t], []⟩) R s := by
  have hxd : @Ne Nat x dx := fun e => by rw [e, hdx] at hx; simp [instObj] at hx
  have hl : s.heap.IsList lw vs.toArray := ⟨_, hl0, rfl, nl, rfl⟩
  have hN := two_news hx hdx
  have hlw : ∀ q ∈ [(x, instObj 189 dx), (dx, recD w.params k t1 t2 t3 limit lw rd high)], q.1 ≠ lw := fun q hq e => by
    have := hN q hq
    rw [e, hl0] at this
    have := congrArg Obj.cls (Option.some.inj this)
    rcases List.mem_cons.mp hq with rfl | hq
    · cases this
    · rw [List.mem_singleton.mp hq] at this; exact type_ne this
  refine' enter (K := hd.heap_39 w.params) (muts := [(x, instObj 189 dx), (dx, recD w.params k t1 t2 t3 limit lw rd high)]) hN X T ?ho ?hcd (by rw [rec_is]; exact Nat.lt_of_lt_of_le hroom (by decide)) ?hbind ?hloc ?h ?hcell ?hco ?hgen ?hk
  walk_at "my enter"
  intro g L' h₁ tk hg hL F N X T hlt
  have hl0g : g.get? lw = some (W.listOf vs.toArray nl) := by rw [hg]; exact hid_get hl0 hlw
  have hlg : g.IsList lw vs.toArray := ⟨_, hl0g, rfl, nl, rfl⟩
  have hpg : PcsIn (AtH g) vs ps := by
    refine hp.mono' fun a o e hc => ?_
    rw [hg]; refine hid_get e fun q hq e' => ?_
    have := hN q hq
    rw [e', e] at this
    obtain rfl := Option.some.inj this
    rcases List.mem_cons.mp hq with rfl | hq
    · cases hc
    · rw [List.mem_singleton.mp hq] at hc; exact type_ne hc
  show wpAny _ _ _ _ _ _
  k_fold
  repeat' walk1
  rename Fr _ _ _ _ => F
  rename News _ _ _ _ => N
  refine taken_L rfl (by walk_at "my depth") F N X T (hlg.at fun o e => F.keep _ o e) (hpg.mono F.keep) hsz hlen ?_
  intro h' tk D2 lf2 lvs n n' ft tl2 F' N' hp2 ht2 hne2 hnl2 hlD
  generalize ps.foldl (takeStep rd) (#[], []) = st at hp2 hfz hR N'
  simp only [List.cons_append, List.nil_append] at N'
  simp only [AllNe, and_true] at hne2 hnl2
  have htl2 : ∀ q ∈ tl2, q.1 ≠ dx := tl_off N' (by k_mem) rfl ht2 (fun q hq => by simp [hq])
  have hfz1 : st.1.size ≤ 1000 := by omega
  repeat' walk1
  rename Fr _ _ _ _ => F
  rename News _ _ _ _ => N
  have eb : (Str.ofString "recv" == Str.ofString "data_read") = false := by decide
  refine hR _ _ _ lf2 lvs n' _ ft 0 (keep_two hg hx F (N.get (by k_mem))) (N.get (by k_mem)) (N.get (by k_mem)) (pcs_at (P := fun _ _ => True) F N hp2 fun q hq => by simp [hq]) ?_
  have hD := (N _ (.head _)).1
  dsimp only at hD
  rw [hD]
  rfl
theorem has_waiting_code {dw : Addr} {kc : Tok × Tok × Tok} {limit told : Int} {vs : List Value} {nl : Nat} (hx : s.heap.get? x = some (instObj 91 dx)) (hdx : s.heap.get? dx = some (cryD w.params kc t1 t2 limit told lw)) (hl0 : s.heap.get? lw = some (W.listOf vs.toArray nl))
   (X : (hd.heap_39 w.params).In (hid s.heap [(x, instObj 91 dx), (dx, cryD w.params kc t1 t2 limit told lw)])) (T : TopRead p loose mg mb (hid s.heap [(x, instObj 91 dx), (dx, cryD w.params kc t1 t2 limit told lw)])) (hroom : d < 950)
   (hlen : vs.length ≤ 1000)
   (hR : ∀ h' tk, (∀ b o, s.heap.get? b = some o → h'.get? b = some o) → R (.ok (.ret (.bool (decide (0 < vs.length))))) { s with heap := h', toks := tk }) :
   codeAny (model prog w) ⟨none, d, fr, gs, u⟩ (.call (.ref 88) ⟨[.ref x], []⟩) R s := by
  have hxd : @Ne Nat x dx := fun e => by rw [e, hdx] at hx; simp [instObj] at hx
  have hN := two_news hx hdx
  have hlw : ∀ q ∈ [(x, instObj 91 dx), (dx, cryD w.params kc t1 t2 limit told lw)], q.1 ≠ lw := fun q hq e => by
    have := hN q hq
    rw [e, hl0] at this
    have := congrArg Obj.cls (Option.some.inj this)
    rcases List.mem_cons.mp hq with rfl | hq
    · cases this
    · rw [List.mem_singleton.mp hq] at this; exact type_ne this
  refine' enter (K := hd.heap_39 w.params) (muts := [(x, instObj 91 dx), (dx, cryD w.params kc t1 t2 limit told lw)]) (two_news hx hdx) X T ?ho ?hcd (by rw [rec_is]; exact Nat.lt_of_lt_of_le hroom (by decide)) ?hbind ?hloc ?h ?hcell ?hco ?hgen ?hk
  walk_at "my enter"
  intro g L' h₁ tk hg hL F N X T hlt
  have hl0g : g.get? lw = some (W.listOf vs.toArray nl) := by rw [hg]; exact hid_get hl0 hlw
  have hlg : g.IsList lw vs.toArray := ⟨_, hl0g, rfl, nl, rfl⟩
  show wpAny _ _ _ _ _ _
  k_fold
  repeat' walk1
  rename Fr _ _ _ _ => F
  rename News _ _ _ _ => N
  refine len_list (hlg.at fun o e => F.keep _ o e) (by simp; omega) ?_
  repeat' walk1
  have e : decide (0 < vs.length) = decide ((0 : Int) < (vs.toArray.size : Int)) := by
    apply decide_eq_decide.mpr; rw [List.size_toArray]; omega
  rw [e] at hR
  refine hR _ _ fun b o e => ?_
  by_cases q : b = dx
  · subst q; rw [hdx] at e; obtain rfl := Option.some.inj e; exact N.get (by k_mem)
  · exact keep_two hg hx F (N.get (by k_mem)) b o q e
end
-- 67_callL
section
variable {prog : Program} {w : World} {A : Around} {E : Value → Shared → Prop} {s : Shared} {g : Heap} {L : Addr} {m : Str → Option Value} {news : List (Addr × Obj)} {G : Obj → List (Addr × Obj)} {p : Program} {loose : List Str} {mg mb : Str → Option Value}
   {x dx lw : Addr} {k : K8} {kc : Tok × Tok × Tok} {t1 t2 t3 t t' ft : Tok} {limit told rd high en off : Int} {Q : Value → Shared → Prop} {vs : List Value} {ps : List (Int × Array UInt8)} {nl : Nat} {data : Array UInt8}
/-- what the plain law must know of the pieces before one more comes -/
structure PcsOk (told : Int) (ps : List (Int × Array UInt8)) (off : Int) (data : Array UInt8) : Prop where
  sz : ∀ q ∈ ps, q.2.size ≤ 1000
  len : ps.length ≤ 12
  pw : 0 < (cutAt told off data).2.size → (ps.foldl addStep ([], (cutAt told off data).1, (cutAt told off data).2)).1.Pairwise fun x y => x.1 < y.1
  ne : 0 < (cutAt told off data).2.size → ∀ q ∈ (ps.foldl addStep ([], (cutAt told off data).1, (cutAt told off data).2)).1, q.1 ≠ (ps.foldl addStep ([], (cutAt told off data).1, (cutAt told off data).2)).2.1
  sz' : ∀ q ∈ addPiece ps (cutAt told off data).1 (cutAt told off data).2, q.2.size ≤ 1000
  len' : (addPiece ps (cutAt told off data).1 (cutAt told off data).2).length ≤ 1000
  fz : ((addPiece ps (cutAt told off data).1 (cutAt told off data).2).foldl (takeStep told) (#[], [])).1.size ≤ 99
theorem arrived_L (hh : A.handled = none) (hroom : A.depth < 940) (F : Fr g L s.heap m) (N : News g L s.heap news) (X : (hd.heap_39 w.params).In g) (T : TopRead p loose mg mb g)
    (hx : (x, instObj 91 dx) ∈ news) (U : UpdF dx (cryD w.params kc t1 t2 limit told lw) news G) (hl : s.heap.get? lw = some (W.listOf vs.toArray nl)) (hp : PcsIn (AtH s.heap) vs ps)
    (hd1 : data.size ≤ 1000) (hlet : off + data.size ≤ told + limit) (ok : PcsOk told ps off data)
    (h : ∀ h' tk ft t1' t2' lw' vs' n', (∀ b o, b ≠ dx → s.heap.get? b = some o → h'.get? b = some o) → Fr g L h' m → News g L h' (G (cryD w.params kc t1' t2' limit (arrF told ps off data).2.1 lw')) → h'.get? lw' = some (W.listOf (List.toArray vs') n') → PcsIn (AtH h') vs' (arrF told ps off data).2.2 →
      Q (.bytes (arrF told ps off data).1 ft) { s with heap := h', toks := tk }) :
    wpAny (model prog w) A (call (.ref 81) [.ref x, .int off t, .bytes data t']) Q E s := by
  obtain ⟨hd, d, fr, gs, u⟩ := A
  cases hh
  refine wpAny_call (arrived_code (N.get hx) (N.get (updF_mem U)) hl hp (in_hid F N X (two_in hx U)) (top_hid F N T (two_in hx U)) hroom hd1 hlet ok.sz ok.len ok.pw ok.ne ok.sz' ok.len' (by have := ok.fz; omega) fun h' tk ft t1' t2' lw' vs' n' hk hd' hl' hp' => ?_)
  obtain ⟨F', N'⟩ := led_step F N U hk hd'
  exact h h' tk ft t1' t2' lw' vs' n' hk F' N' hl' hp'
theorem on_stream_L (hh : A.handled = none) (hroom : A.depth < 940) (F : Fr g L s.heap m) (N : News g L s.heap news) (X : (hd.heap_39 w.params).In g) (T : TopRead p loose mg mb g)
    (hx : (x, instObj 189 dx) ∈ news) (U : UpdF dx (recD w.params k t1 t2 t3 limit lw rd high) news G) (hl : s.heap.get? lw = some (W.listOf vs.toArray nl)) (hp : PcsIn (AtH s.heap) vs ps)
    (hd1 : data.size ≤ 1000) (hlet : off + data.size ≤ limit) (ok : PcsOk rd ps off data)
    (h : ∀ h' tk t3' v tv lw' vs' n', (∀ b o, b ≠ dx → s.heap.get? b = some o → h'.get? b = some o) → Fr g L h' m → News g L h' (G (recD w.params k t1 t2 t3' limit lw' rd (max high (off + data.size)))) → h'.get? lw' = some (W.listOf (List.toArray vs') n') → PcsIn (AtH h') vs' (strF rd ps off data) →
      Q (.int v tv) { s with heap := h', toks := tk }) :
    wpAny (model prog w) A (call (.ref 137) [.ref x, .int off t, .bytes data t', .bool false]) Q E s := by
  obtain ⟨hd, d, fr, gs, u⟩ := A
  cases hh
  refine wpAny_call (on_stream_code (N.get hx) (N.get (updF_mem U)) hl hp (in_hid F N X (two_in hx U)) (top_hid F N T (two_in hx U)) hroom hd1 hlet ok.sz ok.len ok.pw ok.ne fun h' tk t3' v tv lw' vs' n' hk hd' hl' hp' => ?_)
  obtain ⟨F', N'⟩ := led_step F N U hk hd'
  exact h h' tk t3' v tv lw' vs' n' hk F' N' hl' hp'
theorem read_L (hh : A.handled = none) (hroom : A.depth < 940) (F : Fr g L s.heap m) (N : News g L s.heap news) (X : (hd.heap_39 w.params).In g) (T : TopRead p loose mg mb g)
    (hx : (x, instObj 189 dx) ∈ news) (U : UpdF dx (recD w.params k t1 t2 t3 limit lw rd high) news G) (hl : s.heap.get? lw = some (W.listOf vs.toArray nl)) (hp : PcsIn (AtH s.heap) vs ps)
    (hsz : ∀ q ∈ ps, q.2.size ≤ 1000) (hlen : ps.length ≤ 1000) (hfz : (ps.foldl (takeStep rd) (#[], [])).1.size ≤ 99)
    (h : ∀ h' tk t2' lw' vs' n' D ft n, (∀ b o, b ≠ dx → s.heap.get? b = some o → h'.get? b = some o) → Fr g L h' m → News g L h' (G (recD w.params k t1 t2' t3 limit lw' (rd + (ps.foldl (takeStep rd) (#[], [])).1.size) high)) → h'.get? lw' = some (W.listOf (List.toArray vs') n') → PcsIn (AtH h') vs' (ps.foldl (takeStep rd) (#[], [])).2 →
      IsTup h' D #[.bytes (ps.foldl (takeStep rd) (#[], [])).1 ft, .bool false] → h'.get? D = some { cls := .type "tuple", data := .seq #[.bytes (ps.foldl (takeStep rd) (#[], [])).1 ft, .bool false] n } → Q (.ref D) { s with heap := h', toks := tk }) :
    wpAny (model prog w) A (call (.ref 158) [.ref x, .int 99 t]) Q E s := by
  obtain ⟨hd, d, fr, gs, u⟩ := A
  cases hh
  refine wpAny_call (read_code (N.get hx) (N.get (updF_mem U)) hl hp (in_hid F N X (two_in hx U)) (top_hid F N T (two_in hx U)) hroom hsz hlen hfz fun h' tk t2' lw' vs' n' D ft n hk hd' hl' hp' hD => ?_)
  obtain ⟨F', N'⟩ := led_step F N U hk hd'
  exact h h' tk t2' lw' vs' n' D ft n hk F' N' hl' hp' ⟨_, hD, rfl, _, rfl⟩ hD
theorem has_waiting_L (hh : A.handled = none) (hroom : A.depth < 950) (F : Fr g L s.heap m) (N : News g L s.heap news) (X : (hd.heap_39 w.params).In g) (T : TopRead p loose mg mb g)
    (hx : (x, instObj 91 dx) ∈ news) (U : UpdF dx (cryD w.params kc t1 t2 limit told lw) news G) (hl : s.heap.get? lw = some (W.listOf vs.toArray nl)) (hlen : vs.length ≤ 1000)
    (h : ∀ h' tk, (∀ b o, s.heap.get? b = some o → h'.get? b = some o) → Fr g L h' m → News g L h' news → Q (.bool (decide (0 < vs.length))) { s with heap := h', toks := tk }) :
    wpAny (model prog w) A (call (.ref 88) [.ref x]) Q E s := by
  obtain ⟨hd, d, fr, gs, u⟩ := A
  cases hh
  refine wpAny_call (has_waiting_code (dw := 0) (N.get hx) (N.get (updF_mem U)) hl (in_hid F N X (two_in hx U)) (top_hid F N T (two_in hx U)) hroom hlen fun h' tk hk => ?_)
  obtain ⟨F', N'⟩ := led_keep F N hk
  exact h h' tk hk F' N'
end
-- 68_byone
section
variable {prog : Program} {w : World} {d u : Nat} {fr : Option (List Env)} {gs : Option (List Code)} {s : Shared} {R : Result → Shared → Prop} {p : Program} {loose : List Str} {mg mb : Str → Option Value}
   {x dx lw : Addr} {kc : Tok × Tok × Tok} {t1 t2 t t' : Tok} {limit told off : Int} {vs : List Value} {ps : List (Int × Array UInt8)} {nl : Nat} {data : Array UInt8}
theorem by_one_let
   (hx : s.heap.get? x = some (instObj 91 dx)) (hdx : s.heap.get? dx = some (cryD w.params kc t1 t2 limit told lw)) (hl0 : s.heap.get? lw = some (W.listOf vs.toArray nl)) (hp : PcsIn (AtH s.heap) vs ps)
   (X : (hd.heap_39 w.params).In (hid s.heap [(x, instObj 91 dx), (dx, cryD w.params kc t1 t2 limit told lw)])) (T : TopRead p loose mg mb (hid s.heap [(x, instObj 91 dx), (dx, cryD w.params kc t1 t2 limit told lw)])) (hroom : d < 930)
   (hd1 : data.size ≤ 1000) (hlet : off + data.size ≤ told + limit) (ok : PcsOk told ps off data)
   (hR : ∀ h' tk ft t1' t2' lw' vs' n', (∀ b o, b ≠ dx → s.heap.get? b = some o → h'.get? b = some o) → h'.get? dx = some (cryD w.params kc t1' t2' limit (arrF told ps off data).2.1 lw') →
      h'.get? lw' = some (W.listOf (List.toArray vs') n') → PcsIn (AtH h') vs' (arrF told ps off data).2.2 → R (.ok (.ret (.bytes (arrF told ps off data).1 ft))) { s with heap := h', toks := tk }) :
   codeAny (model prog w) ⟨none, d, fr, gs, u⟩ (.call (.ref 207) ⟨[.ref x, .int off t, .bytes data t'], []⟩) R s := by
  have hxd : @Ne Nat x dx := fun e => by rw [e, hdx] at hx; simp [instObj] at hx
  have hN := two_news hx hdx
  have hlw : ∀ q ∈ [(x, instObj 91 dx), (dx, cryD w.params kc t1 t2 limit told lw)], q.1 ≠ lw := fun q hq e => by
    have := hN q hq
    rw [e, hl0] at this
    have := congrArg Obj.cls (Option.some.inj this)
    rcases List.mem_cons.mp hq with rfl | hq
    · cases this
    · rw [List.mem_singleton.mp hq] at this; exact type_ne this
  refine' enter (K := hd.heap_39 w.params) (muts := [(x, instObj 91 dx), (dx, cryD w.params kc t1 t2 limit told lw)]) hN X T ?ho ?hcd (by rw [rec_is]; exact Nat.lt_of_lt_of_le hroom (by decide)) ?hbind ?hloc ?h ?hcell ?hco ?hgen ?hk
  walk_at "my enter"
  intro g L' h₁ tk hg hL F N X T hlt
  have hl0g : g.get? lw = some (W.listOf vs.toArray nl) := by rw [hg]; exact hid_get hl0 hlw
  have hpg : PcsIn (AtH g) vs ps := by
    refine hp.mono' fun a o e hc => ?_
    rw [hg]; refine hid_get e fun q hq e' => ?_
    have := hN q hq
    rw [e', e] at this
    obtain rfl := Option.some.inj this
    rcases List.mem_cons.mp hq with rfl | hq
    · cases hc
    · rw [List.mem_singleton.mp hq] at hc; exact type_ne hc
  show wpAny _ _ _ _ _ _
  k_fold
  repeat' walk1
  rename Fr _ _ _ _ => F
  rename News _ _ _ _ => N
  refine' arrived_L rfl (by walk_at "my depth") F N X T (by k_mem) ?U (F.keep _ _ hl0g) (hpg.mono F.keep) hd1 hlet ok ?_
  (case U => k_updF)
  intro h' tk ft t1' t2' lw' vs' n' hk F' N' hl' hp'
  exact hR _ _ _ _ _ _ _ _ (keep_two hg hx F' (N'.get (by k_mem))) (N'.get (by k_mem)) hl' hp'
theorem by_other_let {k : K8} {t3 : Tok} {rd high : Int}
   (hx : s.heap.get? x = some (instObj 189 dx)) (hdx : s.heap.get? dx = some (recD w.params k t1 t2 t3 limit lw rd high)) (hl0 : s.heap.get? lw = some (W.listOf vs.toArray nl)) (hp : PcsIn (AtH s.heap) vs ps)
   (X : (hd.heap_39 w.params).In (hid s.heap [(x, instObj 189 dx), (dx, recD w.params k t1 t2 t3 limit lw rd high)])) (T : TopRead p loose mg mb (hid s.heap [(x, instObj 189 dx), (dx, recD w.params k t1 t2 t3 limit lw rd high)])) (hroom : d < 930)
   (hd1 : data.size ≤ 1000) (hlet : off + data.size ≤ limit) (ok : PcsOk rd ps off data) (hst : ∀ q ∈ strF rd ps off data, q.2.size ≤ 1000) (hsl : (strF rd ps off data).length ≤ 1000) (hfz : ((strF rd ps off data).foldl (takeStep rd) (#[], [])).1.size ≤ 99)
   (hR : ∀ h' tk ft t2' t3' lw' vs' n', (∀ b o, b ≠ dx → s.heap.get? b = some o → h'.get? b = some o) → h'.get? dx = some (recD w.params k t1 t2' t3' limit lw' (rd + ((strF rd ps off data).foldl (takeStep rd) (#[], [])).1.size) (max high (off + data.size))) →
      h'.get? lw' = some (W.listOf (List.toArray vs') n') → PcsIn (AtH h') vs' ((strF rd ps off data).foldl (takeStep rd) (#[], [])).2 → R (.ok (.ret (.bytes ((strF rd ps off data).foldl (takeStep rd) (#[], [])).1 ft))) { s with heap := h', toks := tk }) :
   codeAny (model prog w) ⟨none, d, fr, gs, u⟩ (.call (.ref 214) ⟨[.ref x, .int off t, .bytes data t'], []⟩) R s := by
  have hxd : @Ne Nat x dx := fun e => by rw [e, hdx] at hx; simp [instObj] at hx
  have hN := two_news hx hdx
  have hlw : ∀ q ∈ [(x, instObj 189 dx), (dx, recD w.params k t1 t2 t3 limit lw rd high)], q.1 ≠ lw := fun q hq e => by
    have := hN q hq
    rw [e, hl0] at this
    have := congrArg Obj.cls (Option.some.inj this)
    rcases List.mem_cons.mp hq with rfl | hq
    · cases this
    · rw [List.mem_singleton.mp hq] at this; exact type_ne this
  refine' enter (K := hd.heap_39 w.params) (muts := [(x, instObj 189 dx), (dx, recD w.params k t1 t2 t3 limit lw rd high)]) hN X T ?ho ?hcd (by rw [rec_is]; exact Nat.lt_of_lt_of_le hroom (by decide)) ?hbind ?hloc ?h ?hcell ?hco ?hgen ?hk
  walk_at "my enter"
  intro g L' h₁ tk hg hL F N X T hlt
  have hl0g : g.get? lw = some (W.listOf vs.toArray nl) := by rw [hg]; exact hid_get hl0 hlw
  have hpg : PcsIn (AtH g) vs ps := by
    refine hp.mono' fun a o e hc => ?_
    rw [hg]; refine hid_get e fun q hq e' => ?_
    have := hN q hq
    rw [e', e] at this
    obtain rfl := Option.some.inj this
    rcases List.mem_cons.mp hq with rfl | hq
    · cases hc
    · rw [List.mem_singleton.mp hq] at hc; exact type_ne hc
  show wpAny _ _ _ _ _ _
  k_fold
  repeat' walk1
  rename Fr _ _ _ _ => F
  rename News _ _ _ _ => N
  refine' on_stream_L rfl (by walk_at "my depth") F N X T (by k_mem) ?U (F.keep _ _ hl0g) (hpg.mono F.keep) hd1 hlet ok ?_
  (case U => k_updF)
  intro h' tk t3' v tv lw' vs' n' hk F' N' hl' hp'
  obtain ⟨tl, Nt, ht, hl2, hp2⟩ := list_tail F' hl' hp'
  have N2 := led_app N' Nt
  simp only [List.cons_append, List.nil_append] at N2
  have htl := seq_off N2 (d := dx) (by k_mem) rfl ht (fun q hq => by simp [hq])
  clear N'
  repeat' walk1
  rename Fr _ _ _ _ => F
  rename News _ _ _ _ => N
  refine' read_L rfl (by walk_at "my depth") F N X T (by k_mem) ?U (list_at F N hl2 fun q hq => by simp [hq]) (pcs_at (P := fun _ _ => True) F N hp2 fun q hq => by simp [hq]) hst hsl hfz ?_
  (case U => k_updF)
  intro h3 tk3 t2' lw3 vs3 n3 D ft n hk3 F3 N3 hl3 hp3 hD hD'
  walk1
  refine item_tupleT hD (by decide) (by decide) rfl rfl ?_
  exact hR _ _ _ _ _ _ _ _ (keep_two hg hx F3 (N3.get (by k_mem))) (N3.get (by k_mem)) hl3 hp3
end
-- 70_exc
/-- the exception e (of class C, with dict de) bears a traceback whose flight word is fl -/
noncomputable def Tr (B h : Heap) (e : Addr) (C : Value) (de : Option Addr) (fl : Value) : Prop :=
  ∃ oe vs T oT ts, h.get? e = some oe ∧ oe.cls = C ∧ oe.dict = de ∧ oe.data = .fields vs ∧ vs[1]? = some (.ref T) ∧ B.get? T = none ∧ T ≠ e ∧ h.get? T = some oT ∧ oT.data = .fields ts ∧ ts[3]? = some fl
structure Fly (B : Heap) (l : List Env) (e : Addr) (C : Value) (de : Option Addr) (fl : Value) (h : Heap) : Prop where
  stays : B.StaysIn h
  fresh : B.get? e = none
  frames : h.FunFrames B l
  tr : Tr B h e C de fl
theorem not_rec {h : Heap} {a : Addr} {oa : Obj} {vs : Array Value} (ha : h.get? a = some oa) (hd : oa.data = .fields vs) {b : Addr} {o : Obj} (hb : h.get? b = some o) (hn : ∀ vs, o.data ≠ .fields vs) : b ≠ a :=
  fun q => by subst q; rw [ha] at hb; cases hb; exact hn _ hd
/-- a field of a record is set: all the rest stays -/
theorem upd_stays {B h : Heap} {a : Addr} {f : Obj → Obj} (st : B.StaysIn h) (hf : B.get? a = none) : B.StaysIn (h.update a f) := fun b o q => by
  rw [Heap.get?_update_other _ _ (fun z => by subst z; rw [hf] at q; cases q)]; exact st _ _ q
theorem upd_slots {h : Heap} {a : Addr} {oa : Obj} {vs : Array Value} {f : Obj → Obj} (ha : h.get? a = some oa) (hd : oa.data = .fields vs) : h.UpToSlots (h.update a f) := fun b o q hn =>
  ⟨o.slots, by rw [Heap.get?_update_other _ _ (Ne.symm (not_rec ha hd q hn))]; exact q⟩
theorem slots_frames {B h h' : Heap} {l : List Env} (k : h.UpToSlots h') (x : h.FunFrames B l) : h'.FunFrames B l :=
  x.of_keeps fun b o hb hn => let ⟨_, e⟩ := k b o hb hn; ⟨_, e, rfl⟩

section
variable {M : Model} {A : Around} {E : Value → Shared → Prop} {s : Shared} {B : Heap} {env : Env} {outer : List Env} {L e : Addr} {C : Value} {de : Option Addr} {fl : Value} {Q : Unit → Shared → Prop}
theorem fly_entry {oe : Obj} {vs : Array Value} {head : Value} {had : Bool} (hfr : A.frames = some (env :: outer)) (hf : env.frame = some L) (hl : s.heap.FunFrames B (env :: outer))
    (he : s.heap.get? e = some oe) (hd : oe.data = .fields vs) (hsz : 1 < vs.size) (st : B.StaysIn s.heap) (hen : B.get? e = none)
    (q : ∀ h', Fly B (env :: outer) e oe.cls oe.dict (rawInt L) h' → s.heap.UpToSlots h' → Q () { s with heap := h' }) :
    wpAny M A (do let a ← frameOf env; let pl ← entryPlaceOf L had; let b ← EntryCells.newEntry head a .none (rawInt L) .none pl; setField (.ref e) 1 b) Q E s := by
  refine wpAny_bind (wpAny_frameOf_fun hfr hl hf fun h₁ so => ?_)
  refine wpAny_bind (wpAny_entryPlaceOf fun pl hp => ?_)
  unfold EntryCells.newEntry newFields
  refine wpAny_bind (wpAny_newObj_type ?_ (hp.sizeOk5 _ _ _ _ _))
  generalize hO : ({ cls := .type "traceback", dict := none, data := .fields ([head, .ref L, .none, rawInt L, .none] ++ (if pl.isEmpty then List.replicate 6 Value.none else pl)).toArray } : Obj) = O
  have e₁ : h₁.get? e = some oe := (so.2.1 e fun hm => by
    obtain ⟨_, o, ho, hn⟩ := hl.mem hm
    rw [he] at ho; cases ho; exact hn _ hd).trans he
  have st₁ : B.StaysIn h₁ := fun b o k => (so.2.1 b fun hm => by rw [(hl.mem hm).1] at k; cases k).trans (st b o k)
  have e₂ := Heap.get?_push_of_some O e₁
  have ne : h₁.objs.size ≠ e := Nat.ne_of_gt (Heap.lt_size e₁)
  have hT : B.get? h₁.objs.size = none := st₁.fresh
  have us : s.heap.UpToSlots h₁ := fun b o k _ => so.2.2 b o k
  have us₂ : s.heap.UpToSlots (h₁.push O) := us.trans (Heap.UpToSlots.of_keeps fun b o k => Heap.get?_push_of_some _ k)
  have us₃ := us₂.trans (upd_slots (f := Obj.mapFields (·.setIfInBounds 1 (Value.ref h₁.objs.size))) e₂ hd)
  have d₃ := Obj.data_mapFields hd (·.setIfInBounds 1 (Value.ref h₁.objs.size))
  refine wpAny_setField e₂ hd hsz (q _ ⟨?_, hen, slots_frames us₃ hl, ?_⟩ us₃)
  · exact upd_stays (fun b o k => Heap.get?_push_of_some _ (st₁ b o k)) hen
  · refine ⟨_, _, h₁.objs.size, O, ([head, .ref L, .none, rawInt L, .none] ++ (if pl.isEmpty then List.replicate 6 Value.none else pl)).toArray, Heap.get?_update_self _ e₂ (Obj.isFreed_of_fields d₃), Obj.cls_mapFields _ _, ?_, d₃, by simp [hsz], hT, ne, ?_, by rw [← hO], by simp⟩
    · obtain ⟨c, d, da, sl⟩ := oe
      cases hd
      rfl
    · rw [Heap.get?_update_other _ _ (Ne.symm ne)]
      exact Heap.get?_push_size _ (by rw [← hO]; rfl)

theorem fly_first {oe : Obj} {vs : Array Value} (hfr : A.frames = some (env :: outer)) (hf : env.frame = some L) (hl : s.heap.FunFrames B (env :: outer))
    (he : s.heap.get? e = some oe) (hd : oe.data = .fields vs) (h1 : vs[1]? = some .none) (st : B.StaysIn s.heap) (hen : B.get? e = none)
    (q : ∀ h', Fly B (env :: outer) e oe.cls oe.dict (rawInt L) h' → s.heap.UpToSlots h' → Q () { s with heap := h' }) : wpAny M A (noteFrame (.ref e) env) Q E s := by
  unfold noteFrame
  rw [hf]
  refine wpAny_bind (wpAny_field he hd h1 ?_)
  rw [if_neg (by decide)]
  exact fly_entry hfr hf hl he hd (Array.getElem?_eq_some_iff.mp h1).1 st hen q
theorem fly_next (hfr : A.frames = some (env :: outer)) (hf : env.frame = some L) (Y : Fly B (env :: outer) e C de .none s.heap)
    (q : ∀ h', Fly B (env :: outer) e C de (rawInt L) h' → s.heap.UpToSlots h' → Q () { s with heap := h' }) : wpAny M A (noteFrame (.ref e) env) Q E s := by
  obtain ⟨st, hen, hl, oe, vs, T, oT, ts, he, rfl, rfl, hd, h1, hT, ne, hoT, hdT, h3⟩ := Y
  unfold noteFrame
  rw [hf]
  refine wpAny_bind (wpAny_field he hd h1 ?_)
  rw [if_pos (show (Value.ref T != Value.none) = true from by simp)]
  refine wpAny_bind (wpAny_field hoT hdT h3 ?_)
  rw [if_neg (show ¬ ((Value.none == rawInt L) = true) from by simp [rawInt])]
  have us := upd_slots (f := Obj.mapFields (·.setIfInBounds 3 Value.none)) hoT hdT
  refine wpAny_bind (wpAny_setField hoT hdT (Array.getElem?_eq_some_iff.mp h3).1 ?_)
  exact fly_entry hfr hf (slots_frames us hl) ((Heap.get?_update_other _ _ ne).trans he) hd (Array.getElem?_eq_some_iff.mp h1).1 (upd_stays st hT) hen fun h' Y' u' => q h' Y' (us.trans u')
theorem fly_again (hf : env.frame = some L) (Y : Tr B s.heap e C de (rawInt L)) (q : Q () s) : wpAny M A (noteFrame (.ref e) env) Q E s := by
  obtain ⟨oe, vs, T, oT, ts, he, _, _, hd, h1, _, _, hoT, hdT, h3⟩ := Y
  unfold noteFrame
  rw [hf]
  refine wpAny_bind (wpAny_field he hd h1 ?_)
  rw [if_pos (show (Value.ref T != Value.none) = true from by simp)]
  refine wpAny_bind (wpAny_field hoT hdT h3 ?_)
  rw [if_pos (show (rawInt L == rawInt L) = true from by simp)]
  exact wpAny_pure q
theorem fly_set {l : List Env} {x : Option Addr} (Y : Fly B l e C de fl s.heap) (q : ∀ h', Fly B l e C de (x.elim .none fun f => rawInt f) h' → s.heap.UpToSlots h' → Q () { s with heap := h' }) : wpAny M A (setFlight (.ref e) x) Q E s := by
  obtain ⟨st, hen, hl, oe, vs, T, oT, ts, he, hc, hde, hd, h1, hT, ne, hoT, hdT, h3⟩ := Y
  have us := upd_slots (f := Obj.mapFields (·.setIfInBounds 3 (x.elim Value.none fun f => rawInt f))) hoT hdT
  unfold setFlight
  refine wpAny_bind (wpAny_field he hd h1 ?_)
  rw [if_pos (show (Value.ref T != Value.none) = true from by simp)]
  have hsz := (Array.getElem?_eq_some_iff.mp h3).1
  have dT := Obj.data_mapFields hdT (·.setIfInBounds 3 (x.elim Value.none fun f => rawInt f))
  refine wpAny_setField hoT hdT hsz (q _ ⟨upd_stays st hT, hen, slots_frames us hl, ?_⟩ us)
  exact ⟨oe, vs, T, _, _, (Heap.get?_update_other _ _ ne).trans he, hc, hde, hd, h1, hT, ne, Heap.get?_update_self _ hoT (Obj.isFreed_of_fields dT), dT, by simp [hsz]⟩
theorem Fly.pop (Y : Fly B (env :: outer) e C de fl s.heap) : Fly B outer e C de fl s.heap := ⟨Y.stays, Y.fresh, Y.frames.2.2, Y.tr⟩
theorem leave_first {oe : Obj} {vs : Array Value} (hfr : A.frames = some (env :: outer)) (hf : env.frame = some L) (hl : s.heap.FunFrames B (env :: outer))
    (he : s.heap.get? e = some oe) (hd : oe.data = .fields vs) (h1 : vs[1]? = some .none) (st : B.StaysIn s.heap) (hen : B.get? e = none)
    (q : ∀ h', Fly B outer e oe.cls oe.dict .none h' → s.heap.UpToSlots h' → Q () { s with heap := h' }) : wpAny M A (leaving env (.ref e)) Q E s := by
  unfold leaving
  refine wpAny_bind (fly_first hfr hf hl he hd h1 st hen fun h' Y u => fly_set (x := none) Y fun h2 Y2 u2 => q h2 ⟨Y2.stays, Y2.fresh, Y2.frames.2.2, Y2.tr⟩ (u.trans u2))
theorem leave_next (hfr : A.frames = some (env :: outer)) (hf : env.frame = some L) (Y : Fly B (env :: outer) e C de .none s.heap)
    (q : ∀ h', Fly B outer e C de .none h' → s.heap.UpToSlots h' → Q () { s with heap := h' }) : wpAny M A (leaving env (.ref e)) Q E s := by
  unfold leaving
  refine wpAny_bind (fly_next hfr hf Y fun h' Y u => fly_set (x := none) Y fun h2 Y2 u2 => q h2 ⟨Y2.stays, Y2.fresh, Y2.frames.2.2, Y2.tr⟩ (u.trans u2))
end
-- 71_exci
open Builtin.ObjectAttr
noncomputable abbrev bmE : List Value := [.type "Exception", .type "BaseException", .type "object"]
/-- what of the own exception class is asked of the written heap -/
noncomputable def excCls (K : Frag) (C : Addr) : Bool := match K.lookup C with
  | some o => o.cls == .type "type" && (match o.data with
    | .cls cd => cd.mro == .ref C :: bmE && !cd.hasDel && o.slots.toList.length == 6 && o.slots.toList[4]? == some (some (.builtin "Exception.__new__"))
    | _ => false)
  | none => false
theorem six {α : Type} {l : List α} {x : α} (h : l.length = 6) (h4 : l[4]? = some x) : ∃ a b c d e, l = [a, b, c, d, x, e] := by
  obtain ⟨a, l, rfl⟩ := List.exists_cons_of_length_eq_add_one h
  obtain ⟨b, l, rfl⟩ := List.exists_cons_of_length_eq_add_one (Nat.succ.inj h)
  obtain ⟨c, l, rfl⟩ := List.exists_cons_of_length_eq_add_one (Nat.succ.inj (Nat.succ.inj h))
  obtain ⟨d, l, rfl⟩ := List.exists_cons_of_length_eq_add_one (Nat.succ.inj (Nat.succ.inj (Nat.succ.inj h)))
  obtain ⟨y, l, rfl⟩ := List.exists_cons_of_length_eq_add_one (Nat.succ.inj (Nat.succ.inj (Nat.succ.inj (Nat.succ.inj h))))
  obtain ⟨e, l, rfl⟩ := List.exists_cons_of_length_eq_add_one (Nat.succ.inj (Nat.succ.inj (Nat.succ.inj (Nat.succ.inj (Nat.succ.inj h)))))
  obtain rfl := List.eq_nil_of_length_eq_zero (Nat.succ.inj (Nat.succ.inj (Nat.succ.inj (Nat.succ.inj (Nat.succ.inj (Nat.succ.inj h))))))
  obtain rfl := Option.some.inj h4
  exact ⟨a, b, c, d, e, rfl⟩
noncomputable def IsExcC (h : Heap) (C : Addr) : Prop := ∃ nm qn N bs hd sn sub ab col dd k0 k1 k2 k3 k5, h.get? C = some (excClassObj nm qn C N bs bmE hd sn sub ab col dd k0 k1 k2 k3 k5 "Exception.__new__")
theorem IsExcC.elim {h : Heap} {C : Addr} (x : IsExcC h C) {G : Prop} (k : ∀ nm qn N bs hd sn sub ab col dd k0 k1 k2 k3 k5, h.get? C = some (excClassObj nm qn C N bs bmE hd sn sub ab col dd k0 k1 k2 k3 k5 "Exception.__new__") → G) : G := by
  obtain ⟨nm, qn, N, bs, hd, sn, sub, ab, col, dd, k0, k1, k2, k3, k5, e⟩ := x
  exact k nm qn N bs hd sn sub ab col dd k0 k1 k2 k3 k5 e
theorem IsExcC.mk {h : Heap} {C : Addr} {nm qn N bs hd sn sub ab col dd k0 k1 k2 k3 k5} (e : h.get? C = some (excClassObj nm qn C N bs bmE hd sn sub ab col dd k0 k1 k2 k3 k5 "Exception.__new__")) : IsExcC h C := ⟨nm, qn, N, bs, hd, sn, sub, ab, col, dd, k0, k1, k2, k3, k5, e⟩
theorem excCls_of {K : Frag} {h : Heap} {C : Addr} (X : K.In h) (q : excCls K C = true) : IsExcC h C := by
  unfold excCls at q
  cases ho : K.lookup C with
  | none => rw [ho] at q; cases q
  | some o =>
    rw [ho] at q
    obtain ⟨c, dd, data, sl⟩ := o
    dsimp only at q
    obtain ⟨q0, q1⟩ := Bool.and_eq_true_iff.mp q
    cases data with
    | cls cd =>
      dsimp only at q1
      have q4 := (Bool.and_eq_true_iff.mp q1).2
      have q1 := (Bool.and_eq_true_iff.mp q1).1
      have q3 := (Bool.and_eq_true_iff.mp q1).2
      have q1 := (Bool.and_eq_true_iff.mp q1).1
      have q2 := (Bool.and_eq_true_iff.mp q1).2
      have q1 := (Bool.and_eq_true_iff.mp q1).1
      have e0 := eq_of_beq q0
      have e1 := eq_of_beq q1
      have e2 : cd.hasDel = false := by cases h : cd.hasDel with
        | true => rw [h] at q2; cases q2
        | false => rfl
      obtain ⟨k0, k1, k2, k3, k5, e3⟩ := six (eq_of_beq q3) (eq_of_beq q4)
      have e3 : sl = #[k0, k1, k2, k3, some (.builtin "Exception.__new__"), k5] := Array.toList_inj.mp e3
      subst e0 e3
      obtain ⟨nm, bs, mro, ns, qn, hd, sn, sub, ab, col, del⟩ := cd
      dsimp only at e1 e2
      subst e1 e2
      exact IsExcC.mk (X _ _ ho)
    | _ => cases q1
noncomputable abbrev excObj (C t : Addr) (de : Option Addr) : Obj := { cls := .ref C, dict := de, data := .fields #[.ref t, .none, .none, .none, .bool false, .none] }

section
variable {prog : Program} {w : World} {A : Around} {E : Value → Shared → Prop} {s : Shared} {K : Frag} {e C : Addr} {ox : Obj} {od : Option Obj} {name : Str} {v : Value}
theorem exc_get {expr : Bool} {Q : Value → Shared → Prop} (X : K.In s.heap) (I : InstAt s.heap e ox C od) (hga : findIn K (.ref C) "__getattribute__" = some (some (.builtin "BaseException.__getattribute__")))
    (hgt : findIn K (.ref C) "__getattr__" = some none) (hsub : subIn K (.ref C) (.type "BaseException") = some true) (hf : findObj K C od name = some (.value v)) (hv : handedIn v = true) (h : Q v { s with toks := s.toks + 1 }) :
    wpAny (model prog w) A (getAttr (.ref e) name expr) Q E s := by
  obtain ⟨hh, g, d, t, os⟩ := s
  have L0 := I.type (M := model prog w)
  have L1 := looks_findIn (M := model prog w) X hga
  have L2 := looks_findIn (M := model prog w) X hgt
  have L3 := looks_find (M := model prog w) X I hf
  have L4 : Looks (model prog w) hh (isInstance (.ref e) (.type "BaseException")) true := L0.andThen (looks_subIn X hsub)
  have hx2 : (Value.builtin "BaseException.__getattribute__" == Value.builtin "object.__getattribute__") = false := by decide +kernel
  have hx0 : (expr && onTheHeap (Value.builtin "BaseException.__getattribute__")) = false := by cases expr <;> rfl
  unfold getAttr getAttrBy
  refine wpAny_bind (wpAny_mkText (wpAny_holding (wpAny_bind (L0.at (wpAny_bind (L1.at ?_))))))
  dsimp only
  rw [hx2, Bool.and_false, if_neg Bool.false_ne_true]
  unfold getAttrByItsOwn hookBefore
  rw [if_pos (show onTheHeap (Value.ref C) = true from rfl)]
  refine wpAny_bind (L2.at (wpAny_bind (wpAny_attempt (wpAny_holding ?_))))
  unfold callGetattribute
  rw [hx0, if_neg Bool.false_ne_true]
  unfold boundAndCalled
  rw [PySem.F.attr_Exception.ga.bind]
  refine wpAny_bind (wpAny_pure (wpAny_call ?_))
  have hk : builtinKind "BaseException.__getattribute__" = some .slot := by decide +kernel
  have hsp : splitId "BaseException.__getattribute__" = some ("BaseException", "__getattribute__") := by decide +kernel
  show codeAny _ _ (.call (.builtin "BaseException.__getattribute__") ⟨[.ref e, .str name t], []⟩) _ _
  refine codeAny_call_builtin PySem.F.attr_Exception.ga.plain PySem.F.entry_bexc_ga ?_
  refine @check_slot (model prog w) _ _ _ "BaseException.__getattribute__" "BaseException" "__getattribute__" (.ref e) [.str name t] [] _ hk hsp L4 (PySem.F.args_bexc_ga _ _) ?_
  unfold Builtin.«object.__getattribute__»
  repeat lk
  show wpAny _ _ (handedOut v) _ _ _
  rw [handedOut_of hv]; exact wpAny_pure h

theorem refuse_exc (self : Value) (C : Addr) : refuseLoop self "__setattr__" (.ref C :: bmE) = pure () := by rw [refuseLoop_ref]; kernel_rfl
theorem exc_init (X : K.In s.heap) {t0 : Addr} {de : Option Addr} (he : s.heap.get? e = some (excObj C t0 de)) (hC : excCls K C = true) {Q : Value → Shared → Prop}
    (h : Q .none { s with heap := (s.heap.push { cls := .type "tuple", data := .seq #[v] }).update e (Obj.mapFields (·.setIfInBounds 0 (.ref s.heap.objs.size))) }) :
    wpAny (model prog w) A (call (.builtin "Exception.__init__") [.ref e, v]) Q E s := by
  obtain ⟨hh, g, d, t, os⟩ := s
  refine (excCls_of X hC).elim fun nm qn N bs hd sn sub ab col dd k0 k1 k2 k3 k5 hC => ?_
  have F := PySem.F.excBase_Exception
  refine wpAny_call (codeAny_call_builtin F.init.plain F.initEntry (wpAny_check_init_sub F hC he rfl ?_))
  unfold Builtin.«BaseException.__init__» newTuple Builtin.BaseException.bexcPut
  have e₁ := Heap.get?_push_of_some { cls := .type "tuple", data := .seq #[v] } he
  dsimp only
  rw [if_neg (by simp)]
  refine wpAny_bind (wpAny_newObj_type (wpAny_bind (wpAny_bind (wpAny_field e₁ rfl rfl (wpAny_bind (wpAny_setField e₁ rfl (Nat.zero_lt_succ _) ?_))))) (by size_fits))
  exact wpAny_letGo (wpAny_pure h)
end
section
variable {prog : Program} {w : World} {A : Around} {E : Value → Shared → Prop} {s : Shared} {K : Frag} {e C : Addr} {ox : Obj} {od : Option Obj} {name : Str} {v : Value}
theorem exc_make {R : Result → Shared → Prop} {rest : List Value} {fI : Addr} (X : K.In s.heap) (hC : excCls K C = true) (hi : findIn K (.ref C) "__init__" = some (some (.ref fI))) (hf : typeIn K (.ref fI) = some (.type "function")) (hrest : rest.length ≤ 100)
    (h : ∀ h' t0 x, (∀ b o, s.heap.get? b = some o → h'.get? b = some o) → s.heap.get? x = none → s.heap.objs.size ≤ x → h'.get? x = some (excObj C t0 none) →
      codeAny (model prog w) (A.under (.builtin "type.__call__" ⟨.ref C :: rest, []⟩)) (.call (.ref fI) ⟨.ref x :: rest, []⟩) (InitBack x R) { s with heap := h' }) :
    codeAny (model prog w) A (.call (.ref C) ⟨rest, []⟩) R s := by
  obtain ⟨hh, g, d, t, os⟩ := s
  refine (excCls_of X hC).elim fun nm qn N bs hd sn sub ab col dd k0 k1 k2 k3 k5 hC => ?_
  have F := PySem.F.excBase_Exception
  have f1 := tc_lookup
  have f2 := tc_bind (.ref C)
  have hT : (⟨hh, g, d, t, os⟩ : Shared).TypeIs (.ref C) "type" := ⟨_, hC, rfl⟩
  refine codeAny_of_tree ?_
  show wpAny _ _ (callAny (.ref C) _) _ _ _
  repeat (any_goals (first | assumption | with_reducible refine wpAny_loadPart_at hC ?_ | wp_step))
  refine ⟨rfl, ?_⟩
  refine codeAny_call_builtin_at (Code.quiet_builtin _ (by decide +kernel)) entry_typeCall (wpAny_check_type_call_sub hC ?_)
  repeat (first | with_reducible refine wpAny_loadPart_at hC ?_ | with_reducible refine wpAny_madeBy_exc hC ?_ | wp_step)
  refine codeAny_call_builtin_code (Code.quiet_builtin _ F.quiet) (wpAny_check_new_sub F hC ?_)
  refine codeAny_exc_new_sub F hC ?_ (by rw [sizeLine_eq]; simp only [List.nil_append, List.append_eq]; omega)
  show wpAny _ _ _ _ _ _
  have hC₁ := Heap.get?_push_of_some { cls := .ref C, data := .fields #[.ref hh.objs.size, .none, .none, .none, .bool false, .none] }
    (Heap.get?_push_of_some { cls := .type "tuple", data := .seq rest.toArray } hC)
  have hget : ((hh.push { cls := .type "tuple", data := .seq rest.toArray }).push
      { cls := .ref C, data := .fields #[.ref hh.objs.size, .none, .none, .none, .bool false, .none] }).get? (hh.objs.size + 1) = some
      { cls := .ref C, data := .fields #[.ref hh.objs.size, .none, .none, .none, .bool false, .none] } := by heap_get
  have hcC : (Value.ref C :: bmE).contains (.ref C) = true := by simp
  have kp : ∀ b o, hh.get? b = some o → ((hh.push { cls := .type "tuple", data := .seq rest.toArray }).push { cls := .ref C, data := .fields #[.ref hh.objs.size, .none, .none, .none, .bool false, .none] }).get? b = some o :=
    fun b o q => Heap.get?_push_of_some _ (Heap.get?_push_of_some _ q)
  unfold isInstance
  repeat (first | with_reducible refine wpAny_loadPart_at hget ?_ | (with_reducible refine wpAny_isSubtype_exc hC₁ ?_; rw [hcC]) | wp_step)
  show wpAny _ _ (isSubtype (.ref C) (.ref C)) _ _ _
  refine wpAny_isSubtype_exc hC₁ ?_
  rw [hcC]
  dsimp only
  rw [if_neg (by decide)]
  have X' : K.In ((hh.push { cls := .type "tuple", data := .seq rest.toArray }).push { cls := .ref C, data := .fields #[.ref hh.objs.size, .none, .none, .none, .bool false, .none] }) := fun a o q => kp _ _ (X a o q)
  refine wpAny_bind (wpAny_holding (special_fn (s := ⟨_, g, d, t, os⟩) (ox := excObj C hh.objs.size none) (od := none) X' ⟨hget, rfl, rfl, trivial⟩ hi hf (wpAny_call ?_)))
  refine codeAny_mono (h _ hh.objs.size _ kp (Heap.get?_none_of_le (Nat.le_succ _)) (Nat.le_succ _) hget) fun r s' z => ?_
  rcases r with e | (v | _ | _ | _) <;> first | exact z | exact z.elim | skip
  obtain ⟨rfl, z⟩ := z
  first | exact wpAny_pure (wpAny_pure z) | exact wpAny_pure z
/-- a name is stored in the dict of an own exception -/
theorem put_dict {dx : Addr} {es es' : List DictEntry} {n n' : Nat} {tk : Tok} {Q : Fin → Shared → Prop} (D : s.heap.get? dx = some (dictOf es n)) (hl : (getL name es).isSome = true)
    (eq : (putL name (PyData.keyHash w.params name) (.str name s.toks) v es, putN name es n) = (es', n')) (hz : es'.length ≤ 1000)
    (h : ∀ h', h' = s.heap.update dx (Obj.putName name (PyData.keyHash w.params name) (.str name s.toks) v) → h'.get? dx = some (dictOf es' n') → Q (.done (.ret .none)) { s with heap := h', toks := s.toks + 1 }) :
    wpAny (model prog w) A (storeInDict dx (.str name tk) name v) Q E s := by
  obtain ⟨e1, e2⟩ := Prod.mk.inj eq
  have pd : Obj.putName name (PyData.keyHash w.params name) (.str name s.toks) v (dictOf es n) = dictOf es' n' := by rw [putName_dict, e1, e2]
  have D' : (s.heap.update dx (Obj.putName name (PyData.keyHash w.params name) (.str name s.toks) v)).get? dx = some (dictOf es' n') := by
    rw [← pd]; exact Heap.get?_update_self _ D (by rw [pd]; rfl)
  unfold storeInDict
  refine wpAny_bind (wpAny_pure (wpAny_bind ?_))
  unfold nsSet
  refine wpAny_bind (wpAny_bind (wpAny_askSetting (wpAny_pure (wpAny_bind (wpAny_mkText (wpAny_bind (wpAny_loadPart D ?_)))))))
  dsimp only
  have c : (!es.toArray.any (·.key.isStr name) && es.toArray.any (·.refKey)) = false := by
    rw [← Array.any_toList, ← Array.any_toList]
    unfold getL at hl
    split at hl
    · rename_i en he
      rw [List.any_eq_true.mpr ⟨en, List.mem_of_find?_eq_some he, List.find?_some he⟩]; rfl
    · split at hl
      · cases hl
      · rename_i z; rw [Bool.not_eq_true] at z; rw [z, Bool.and_false]
  rw [aRefKeyMayBeTheName_at, c]
  refine wpAny_updatePart D ?_
  refine wpAny_bind (wpAny_lookBehind D' (pastItsLine_dict (by rw [List.size_toArray, sizeLine_eq]; omega)) ?_)
  exact wpAny_pure (h _ rfl D')

theorem exc_set {Q : Unit → Shared → Prop} (X : K.In s.heap) (I : InstAt s.heap e ox C od) (hC : excCls K C = true) (hs : findIn K (.ref C) "__setattr__" = some (some (.builtin "object.__setattr__"))) (ht : takerIn K C name = some none) (hb : subIn K (.ref C) (.type "object") = some true)
    (h : ∀ b A', wpAny (model prog w) A' (storeInOwnDict (.ref e) (.ref C) (.str name s.toks) name v b) (fun fin s' => match fin with | .done (.ret _) => Q () s' | _ => False) (fun x s' => E x s') { s with toks := s.toks + 1 }) :
    wpAny (model prog w) A (setAttr (.ref e) name v) Q E s := by
  refine set_plain X I hs ?_
  refine (excCls_of X hC).elim fun nm qn N bs hd sn sub ab col dd k0 k1 k2 k3 k5 hC => ?_
  have SF := PySem.F.store_object
  have L0 := I.type (M := model prog w)
  have L1 : Looks (model prog w) s.heap (isInstance (.ref e) (.type "object")) true := L0.andThen (looks_subIn X hb)
  refine codeAny_call_builtin SF.slot.plain SF.entry (@check_slot (model prog w) _ _ { s with toks := s.toks + 1 } "object.__setattr__" "object" "__setattr__" (.ref e) [.str name s.toks, v] [] _ SF.kind SF.split L1 (SF.args (.ref e) (.str name s.toks) v) ?_)
  obtain ⟨attr, ha, hr⟩ := Option.bind_eq_some_iff.mp ht
  have L3 : Looks (model prog w) s.heap (storeTaker? attr) none := by
    cases attr with
    | none => cases hr; exact .now
    | some a =>
      obtain ⟨b, hb, hq⟩ := Option.map_eq_some_iff.mp hr
      cases b with
      | true => cases hq
      | false => exact (looks_takesIn X hb).andThen .now
  rw [osa_eq, refuse_eq]
  have L2 := looks_findIn (M := model prog w) X ha
  obtain ⟨hh, g, d, t, os⟩ := s
  dsimp only at L0 L2 L3 hC ⊢
  refine wpAny_bind (wpAny_bind (L0.at (wpAny_bind (wpAny_mroOf_exc hC ?_))))
  rw [refuse_exc]
  refine wpAny_pure (wpAny_bind (L0.at (wpAny_bind (L2.at (wpAny_bind (L3.at ?_))))))
  refine wpAny_mono (h attr.isSome _) (fun fin s' z => ?_) fun _ _ z => z
  rcases fin with (_ | _ | _ | _) | _ <;> first | exact z | exact z.elim
end
-- 72_init
section
variable {prog : Program} {w : World} {A : Around} {E : Value → Shared → Prop} {s : Shared} {K : Frag} {e C t0 D : Addr} {name : Str} {v : Value} {g : Heap} {L : Addr} {m : Str → Option Value}
theorem exc_set0 {Q : Unit → Shared → Prop} (F : Fr g L s.heap m) (X₀ : K.In g) (N : News g L s.heap [(e, excObj C t0 none)]) (hC : excCls K C = true) (hs : findIn K (.ref C) "__setattr__" = some (some (.builtin "object.__setattr__"))) (ht : takerIn K C name = some none) (hb : subIn K (.ref C) (.type "object") = some true) (hh : hasDictIn K C = true)
    (h : ∀ h' D k tk, Fr g L h' m → News g L h' [(e, excObj C t0 (some D)), (D, dictOf [⟨PyData.keyHash w.params name, .str name k, v⟩] 1)] → (∀ b o, b ≠ e → s.heap.get? b = some o → h'.get? b = some o) → s.heap.get? D = none → Q () { s with heap := h', toks := tk }) :
    wpAny (model prog w) A (setAttr (.ref e) name v) Q E s := by
  have X := X₀.keeps F.keep
  have he := (N _ (.head _)).1
  obtain ⟨cd, hc, hd⟩ := any_some hh
  refine exc_set (od := none) X ⟨he, rfl, rfl, trivial⟩ hC hs ht hb fun b A' => ?_
  obtain ⟨hp, gn, d, t, os⟩ := s
  dsimp only at F X he h ⊢
  have Lc := looks_clsIn (M := model prog w) X hc
  refine wpAny_bind (wpAny_pure (wpAny_bind (wpAny_bind (wpAny_loadPart he (wpAny_bind (Lc.at ?_))))))
  rw [hd]
  refine wpAny_bind (wpAny_alloc (wpAny_bind (wpAny_update (Heap.get?_push_of_some _ he) (wpAny_pure ?_))))
  have hne : @Ne Nat e hp.objs.size := Nat.ne_of_lt (Heap.lt_size he)
  have dD : (hp.push emptyDict).get? hp.objs.size = some emptyDict := Heap.get?_push_size _ rfl
  refine put_dict (s := ⟨_, gn, d, t + 1, os⟩) (es := []) (n := 0) (dx := hp.objs.size) ((Heap.get?_update_other _ _ hne).trans dD) rfl rfl (Nat.le_of_ble_eq_true rfl) fun h' eh hD => ?_
  have hk : ∀ b o, b ≠ e → hp.get? b = some o → h'.get? b = some o := fun b o hb q => by
    rw [eh, Heap.get?_update_other _ _ (Nat.ne_of_gt (Heap.lt_size q)), Heap.get?_update_other _ _ (Ne.symm hb)]
    exact Heap.get?_push_of_some _ q
  have he' : h'.get? e = some (excObj C t0 (some hp.objs.size)) := by
    rw [eh, Heap.get?_update_other _ _ (Ne.symm hne)]
    exact Heap.get?_update_self _ (Heap.get?_push_of_some _ he) rfl
  obtain ⟨F', N'⟩ := led_step F N (UpdF.head (fun _ q => nomatch q)) hk he'
  show Q () ⟨h', gn, d, _, os⟩
  refine h h' hp.objs.size (t + 1) _ F' (fun q hq => ?_) hk (Heap.get?_none_of_le (Nat.le_refl _))
  rcases List.mem_cons.mp hq with rfl | hq
  · exact N' _ (.head _)
  · rw [List.mem_singleton.mp hq]
    refine ⟨hD, fun z => ?_, ?_⟩
    · obtain ⟨oL, _, _, hL, _⟩ := F.ns
      exact absurd z (Nat.ne_of_gt (Heap.lt_size hL))
    · cases q : g.get? hp.objs.size with
      | none => rfl
      | some ob => exact absurd (Heap.lt_size (F.keep _ _ q)) (Nat.lt_irrefl _)
theorem exc_set1 {Q : Unit → Shared → Prop} {es es' : List DictEntry} {n n' : Nat} (F : Fr g L s.heap m) (X₀ : K.In g) (N : News g L s.heap [(e, excObj C t0 (some D)), (D, dictOf es n)]) (hC : excCls K C = true) (hs : findIn K (.ref C) "__setattr__" = some (some (.builtin "object.__setattr__"))) (ht : takerIn K C name = some none) (hb : subIn K (.ref C) (.type "object") = some true) (hh : hasDictIn K C = true)
    (hl : (getL name es).isSome = true) (eq : (putL name (PyData.keyHash w.params name) (.str name (s.toks + 1)) v es, putN name es n) = (es', n')) (hz : es'.length ≤ 1000)
    (h : ∀ h' tk, Fr g L h' m → News g L h' [(e, excObj C t0 (some D)), (D, dictOf es' n')] → (∀ b o, b ≠ D → s.heap.get? b = some o → h'.get? b = some o) → Q () { s with heap := h', toks := tk }) :
    wpAny (model prog w) A (setAttr (.ref e) name v) Q E s := by
  have X := X₀.keeps F.keep
  have he := (N _ (.head _)).1
  have hD := (N _ (.tail _ (.head _))).1
  obtain ⟨cd, hc, hd⟩ := any_some hh
  have hne : @Ne Nat e D := fun z => by rw [z] at he; rw [he] at hD; cases hD
  refine exc_set (od := some (dictOf es n)) X ⟨he, rfl, rfl, hD⟩ hC hs ht hb fun b A' => ?_
  obtain ⟨hp, gn, d, t, os⟩ := s
  dsimp only at F X he h hD eq ⊢
  have Lc := looks_clsIn (M := model prog w) X hc
  refine wpAny_bind (wpAny_pure (wpAny_bind (wpAny_bind (wpAny_loadPart he (wpAny_bind (Lc.at ?_))))))
  rw [hd]
  refine wpAny_pure (a := some D) ?_
  refine put_dict (s := ⟨_, gn, d, t + 1, os⟩) hD hl eq hz fun h' eh hD' => ?_
  have hk : ∀ b o, b ≠ D → hp.get? b = some o → h'.get? b = some o := fun b o hb q => by
    rw [eh, Heap.get?_update_other _ _ (Ne.symm hb)]; exact q
  obtain ⟨F', N'⟩ := led_step F N (UpdF.tail hne (UpdF.head (fun _ q => nomatch q))) hk hD'
  show Q () ⟨h', gn, d, _, os⟩
  exact h h' _ F' N' hk
theorem exc_init_L {Q : Value → Shared → Prop} {de : Option Addr} (F : Fr g L s.heap m) (X₀ : K.In g) (N : News g L s.heap [(e, excObj C t0 de)]) (hC : excCls K C = true)
    (h : ∀ h' t1, Fr g L h' m → News g L h' [(e, excObj C t1 de)] → (∀ b o, b ≠ e → s.heap.get? b = some o → h'.get? b = some o) → Q .none { s with heap := h' }) :
    wpAny (model prog w) A (call (.builtin "Exception.__init__") [.ref e, v]) Q E s := by
  have he := (N _ (.head _)).1
  refine exc_init (X₀.keeps F.keep) he hC ?_
  have hk : ∀ b o, b ≠ e → s.heap.get? b = some o → ((s.heap.push { cls := .type "tuple", data := .seq #[v] }).update e (Obj.mapFields (·.setIfInBounds 0 (.ref s.heap.objs.size)))).get? b = some o := fun b o hb q => by
    rw [Heap.get?_update_other _ _ (Ne.symm hb)]; exact Heap.get?_push_of_some _ q
  have he' : ((s.heap.push { cls := .type "tuple", data := .seq #[v] }).update e (Obj.mapFields (·.setIfInBounds 0 (.ref s.heap.objs.size)))).get? e = some (excObj C s.heap.objs.size de) := Heap.get?_update_self _ (Heap.get?_push_of_some _ he) rfl
  obtain ⟨F', N'⟩ := led_step F N (UpdF.head (fun _ q => nomatch q)) hk he'
  exact h _ _ F' N' hk
end
noncomputable abbrev excD (P : Params) (k : Tok × Tok × Tok) (c f : Int) (tc tf : Tok) (txt : Str) (tt : Tok) : Obj :=
  dictOf [⟨PyData.keyHash P (Str.ofString "code"), .str (Str.ofString "code") k.1, .int c tc⟩, ⟨PyData.keyHash P (Str.ofString "frame_type"), .str (Str.ofString "frame_type") k.2.1, .int f tf⟩, ⟨PyData.keyHash P (Str.ofString "text"), .str (Str.ofString "text") k.2.2, .str txt tt⟩] 3
theorem q_cls (w : World) : excCls (hd.heap_39 w.params) 38 = true := by kernel_rfl
theorem init_code {prog : Program} {w : World} {d u : Nat} {fr : Option (List Env)} {gs : Option (List Code)} {s : Shared} {R : Result → Shared → Prop} {p : Program} {loose : List Str} {mg mb : Str → Option Value}
   {e t0 : Addr} {c f : Int} {tc tf tt : Tok} {txt : Str}
   (he : s.heap.get? e = some (excObj 38 t0 none)) (hc : 0 ≤ c) (hc' : c < 1000) (htxt : txt.length ≤ 100)
   (X : (hd.heap_39 w.params).In (hid s.heap [(e, excObj 38 t0 none)])) (T : TopRead p loose mg mb (hid s.heap [(e, excObj 38 t0 none)])) (hroom : d < 920)
   (hR : ∀ h' tk t1 de k tc' tf' tt', (∀ b o, b ≠ e → s.heap.get? b = some o → h'.get? b = some o) → s.heap.get? de = none → h'.get? e = some (excObj 38 t1 (some de)) → h'.get? de = some (excD w.params k c f tc' tf' txt tt') → R (.ok (.ret .none)) { s with heap := h', toks := tk }) :
   codeAny (model prog w) ⟨none, d, fr, gs, u⟩ (.call (.ref 35) ⟨[.ref e, .int c tc, .int f tf, .str txt tt], []⟩) R s := by
  refine' enter (K := hd.heap_39 w.params) (muts := [(e, excObj 38 t0 none)]) (fun q hq => by rw [List.mem_singleton.mp hq]; exact he) X T ?ho ?hcd (by rw [rec_is]; exact Nat.lt_of_lt_of_le hroom (by decide)) ?hbind ?hloc ?h ?hcell ?hco ?hgen ?hk
  walk_at "my enter"
  intro g L' h₁ tk hg hL F N X T hlt
  have keep0 : ∀ b o, b ≠ e → s.heap.get? b = some o → g.get? b = some o := fun b o hb q => by
    rw [hg]; exact hid_get q fun p hp => by rw [List.mem_singleton.mp hp]; exact fun z => hb z.symm
  clear hg
  try dsimp only
  show wpAny _ _ _ _ _ _
  k_fold
  iterate 4 walk1
  refine' method_type ?yF ?yX ?ym (by decide +kernel) ?ye ?yh ?_
  case yF => k_asm
  case yX => k_asm
  case ym => exact (by kernel_rfl : typeOf (.type "Exception") = pure (.type "type"))
  case ye => k_dflt k_is
  case yh => k_handed
  iterate 18 walk1
  rename Fr _ _ _ _ => F
  rename News _ _ _ _ => N
  refine exc_init_L F X N (q_cls w) fun h' t1 F' N' hk1 => ?_
  clear F N
  iterate 5 walk1
  rename Fr _ _ _ _ => F
  rename News _ _ _ _ => N
  refine exc_set0 F X N (q_cls w) (by k_is) (by k_is) (by k_is) (by k_is) fun h2 D k tk2 F2 N2 hk2 hn => ?_
  clear F N
  iterate 4 walk1
  rename Fr _ _ _ _ => F
  rename News _ _ _ _ => N
  refine exc_set1 F X N (q_cls w) (by k_is) (by k_is) (by k_is) (by k_is) rfl rfl (Nat.le_of_ble_eq_true rfl) fun h3 tk3 F3 N3 hk3 => ?_
  clear F N
  iterate 4 walk1
  rename Fr _ _ _ _ => F
  rename News _ _ _ _ => N
  refine exc_set1 F X N (q_cls w) (by k_is) (by k_is) (by k_is) (by k_is) rfl rfl (Nat.le_of_ble_eq_true rfl) fun h4 tk4 F4 N4 hk4 => ?_
  clear F N
  have hDe : D ≠ e := fun z => by
    have h1 := (N4 _ (.head _)).1
    have h2 := (N4 _ (.tail _ (.head _))).1
    rw [z] at h2; dsimp only at h1 h2; rw [h1] at h2; cases h2
  have hD0 : s.heap.get? D = none := by
    cases q : s.heap.get? D with
    | none => rfl
    | some o => have := (N4 _ (.tail _ (.head _))).2.2; rw [keep0 _ _ hDe q] at this; cases this
  have := hR h4 tk4 t1 D (k, _, _) _ _ _ (fun b o hb q => F4.keep _ _ (keep0 b o hb q)) hD0 (N4 _ (.head _)).1 (N4 _ (.tail _ (.head _))).1
  repeat' walk1
  exact this
-- 74_throw
/-- the frames above: each stands in the heap -/
noncomputable def FrOk (h : Heap) : List Env → Prop
  | [] => True
  | env :: r => env.scope.kind ≠ .module ∧ (∃ L o, env.frame = some L ∧ h.get? L = some o ∧ ∀ vs, o.data ≠ .fields vs) ∧ FrOk h r
noncomputable abbrev frA (l : List Env) : List Addr := l.filterMap (·.frame)
theorem FrOk.fun {h B : Heap} : ∀ {l : List Env}, FrOk h l → (∀ a ∈ frA l, B.get? a = none) → h.FunFrames B l
  | [], _, _ => trivial
  | env :: r, ⟨hk, ⟨L, o, hf, ho, hd⟩, hr⟩, hB => by
    refine ⟨hk, ⟨L, o, hf, hB L (List.mem_filterMap.mpr ⟨env, .head _, hf⟩), ho, hd⟩, hr.fun fun a ha => ?_⟩
    obtain ⟨x, hx, hxf⟩ := List.mem_filterMap.mp ha
    exact hB a (List.mem_filterMap.mpr ⟨x, .tail _ hx, hxf⟩)
theorem FrOk.of {h B : Heap} : ∀ {l : List Env}, h.FunFrames B l → FrOk h l
  | [], _ => trivial
  | _ :: _, ⟨hk, ⟨L, o, hf, _, ho, hd⟩, hr⟩ => ⟨hk, ⟨L, o, hf, ho, hd⟩, .of hr⟩
theorem FrOk.slots {h h' : Heap} (k : h.UpToSlots h') : ∀ {l : List Env}, FrOk h l → FrOk h' l
  | [], _ => trivial
  | _ :: _, ⟨hk, ⟨L, o, hf, ho, hd⟩, hr⟩ => let ⟨_, hs⟩ := k L o ho hd; ⟨hk, ⟨L, _, hf, hs, hd⟩, hr.slots k⟩
theorem FrOk.keeps {h h' : Heap} (k : ∀ b o, h.get? b = some o → h'.get? b = some o) {l : List Env} (x : FrOk h l) : FrOk h' l := x.slots (.of_keeps k)

/-- QuicError has been thrown out of the call that began at the heap h -/
structure Thrown (P : Params) (c f : Int) (txt : Str) (h : Heap) (outer : List Env) (e de : Addr) (B h' : Heap) : Prop where
  fly : Fly B outer e (.ref 38) (some de) .none h'
  all : ∀ b o, b ∉ frA outer → h.get? b = some o → B.get? b = some o
  slots : h.UpToSlots h'
  new : h.get? e = none ∧ h.get? de = none
  dct : ∃ k tc tf tt, B.get? de = some (excD P k c f tc tf txt tt)

section
variable {prog : Program} {w : World} {A : Around} {E : Value → Shared → Prop} {s : Shared} {g : Heap} {L : Addr} {m : Str → Option Value} {news : List (Addr × Obj)} {p : Program} {loose : List Str} {mg mb : Str → Option Value}
theorem init_A {R : Result → Shared → Prop} {e t0 : Addr} {c f : Int} {tc tf tt : Tok} {txt : Str} (hh : A.handled = none)
   (he : s.heap.get? e = some (excObj 38 t0 none)) (hc : 0 ≤ c) (hc' : c < 1000) (htxt : txt.length ≤ 100)
   (X : (hd.heap_39 w.params).In (hid s.heap [(e, excObj 38 t0 none)])) (T : TopRead p loose mg mb (hid s.heap [(e, excObj 38 t0 none)])) (hroom : A.depth < 920)
   (hR : ∀ h' tk t1 de k tc' tf' tt', (∀ b o, b ≠ e → s.heap.get? b = some o → h'.get? b = some o) → s.heap.get? de = none → h'.get? e = some (excObj 38 t1 (some de)) → h'.get? de = some (excD w.params k c f tc' tf' txt tt') → R (.ok (.ret .none)) { s with heap := h', toks := tk }) :
   codeAny (model prog w) A (.call (.ref 35) ⟨[.ref e, .int c tc, .int f tf, .str txt tt], []⟩) R s := by
  obtain ⟨hd, d, fr, gs, u⟩ := A
  cases hh
  exact init_code he hc hc' htxt X T hroom hR
theorem quic_L {Q : Value → Shared → Prop} {c f : Int} {tc tf tt : Tok} {txt : Str} (hh : A.handled = none) (hroom : A.depth < 900) (F : Fr g L s.heap m) (X : (hd.heap_39 w.params).In g) (T : TopRead p loose mg mb g) (hc : 0 ≤ c) (hc' : c < 1000) (htxt : txt.length ≤ 100)
    (h : ∀ h' tk e t1 de k tc' tf' tt', (∀ b o, s.heap.get? b = some o → h'.get? b = some o) → s.heap.get? e = none → s.heap.get? de = none → h'.get? e = some (excObj 38 t1 (some de)) → h'.get? de = some (excD w.params k c f tc' tf' txt tt') → Q (.ref e) { s with heap := h', toks := tk }) :
    wpAny (model prog w) A (call (.ref 38) [.int c tc, .int f tf, .str txt tt]) Q E s := by
  refine wpAny_call (exc_make (X.keeps F.keep) (q_cls w) (by k_is) (by k_is) (by simp only [List.length_cons, List.length_nil]; omega) fun h₁ t0 x hk hx hsz hget => ?_)
  have kb : ∀ b o, g.get? b = some o → (hid h₁ [(x, excObj 38 t0 none)]).get? b = some o := fun b o q => hid_get (hk _ _ (F.keep _ _ q)) fun p hp z => by
    rw [List.mem_singleton.mp hp] at z; dsimp only at z; have := F.keep _ _ q; rw [← z, hx] at this; cases this
  refine init_A hh hget hc hc' htxt (X.keeps kb) (T.keeps kb) (by rw [show (A.under (.builtin "type.__call__" ⟨[.ref 38, .int c tc, .int f tf, .str txt tt], []⟩)).depth = A.depth + 1 from rfl]; omega) fun h' tk t1 de k tc' tf' tt' hk' hde he' hd' => ?_
  have hk2 : ∀ b o, s.heap.get? b = some o → h'.get? b = some o := fun b o q => hk' b o (fun z => by rw [z, hx] at q; cases q) (hk b o q)
  refine ⟨rfl, ?_⟩
  refine h h' tk x t1 de k tc' tf' tt' hk2 hx ?_ he' hd'
  cases q : s.heap.get? de with
  | none => rfl
  | some o => have := hk de o q; rw [hde] at this; cases this
/-- what of a thrown own exception the raise statement asks -/
noncomputable def RaisOwn (E : Value → Shared → Prop) (v : Value) (s₁ : Shared) : Prop :=
  ∃ a C t de, v = .ref a ∧ s₁.heap.get? a = some (excObj C t de) ∧ IsExcC s₁.heap C ∧ E (.ref a) s₁
theorem raise_own {M : Model} {ex : Expr} {env : Env} {pos : Pos} {Q : Flow → Shared → Prop} (hh : A.handled = none) (h : wpAny M A (eval ex env) (RaisOwn E) E s) : wpAny M A (exec (.Raise (some ex) none pos) env) Q E s := by
  show wpAny M A (do standAt pos; raiseStmt env (some (do let v ← eval ex env; standAt pos; pure v)) none) Q E s
  refine wpAny_bind (wpAny_standAt ?_)
  unfold raiseStmt
  refine wpAny_bind (wpAny_bind (wpAny_mono h (fun v s₁ h₁ => wpAny_bind (wpAny_standAt (wpAny_pure ?_))) fun _ _ x => x))
  obtain ⟨a, C, t, de, rfl, he, hC, hE⟩ := h₁
  refine hC.elim fun nm qn N bs hd sn sub ab col dd k0 k1 k2 k3 k5 hC => ?_
  obtain ⟨hp, g, d, tk, os⟩ := s₁
  have hcB : (Value.ref C :: bmE).contains (.type "BaseException") = true := by rw [List.contains_cons]; exact Bool.or_eq_true_iff.mpr (.inr (by decide +kernel))
  dsimp only at he hC
  repeat (first | with_reducible refine wpAny_loadPart_at he ?_ | with_reducible refine wpAny_loadPart_at hC ?_ | (with_reducible refine wpAny_isSubtype_exc hC ?_; rw [hcB]) | wp_step)
  exact wpAny_raiseNew_none hh hE
end
section
variable {M : Model} {A : Around} {E : Value → Shared → Prop} {s : Shared} {h h₂ B : Heap} {env : Env} {outer : List Env} {L e de t1 : Addr} {P : Params} {c f : Int} {txt : Str} {Q : Unit → Shared → Prop}
theorem leave_new (hfr : A.frames = some (env :: outer)) (hf : env.frame = some L) (hm : env.scope.kind ≠ .module) (ho : FrOk h outer) (kh : ∀ b o, h.get? b = some o → s.heap.get? b = some o) (hL : h.get? L = none)
    (hLs : ∃ o, s.heap.get? L = some o ∧ ∀ vs, o.data ≠ .fields vs) (he : s.heap.get? e = some (excObj 38 t1 (some de))) (hen : h.get? e = none) (hdn : h.get? de = none) (hdL : de ≠ L) (hdct : ∃ k tc tf tt, s.heap.get? de = some (excD P k c f tc tf txt tt))
    (q : ∀ h' B, Thrown P c f txt h outer e de B h' → Q () { s with heap := h' }) : wpAny M A (leaving env (.ref e)) Q E s := by
  obtain ⟨oL, hLo, hLd⟩ := hLs
  have hfo : FrOk s.heap (env :: outer) := ⟨hm, ⟨L, oL, hf, hLo, hLd⟩, ho.keeps kh⟩
  have hno : ∀ a ∈ frA outer, ∃ o, h.get? a = some o := fun a ha => by
    clear q hfo hfr kh
    induction outer with
    | nil => cases ha
    | cons x r ih =>
      obtain ⟨_, ⟨L', o, hf', ho', _⟩, hr⟩ := ho
      obtain ⟨y, hy, hyf⟩ := List.mem_filterMap.mp ha
      rcases List.mem_cons.mp hy with rfl | hy
      · rw [hf'] at hyf; cases hyf; exact ⟨o, ho'⟩
      · exact ih hr (List.mem_filterMap.mpr ⟨y, hy, hyf⟩)
  have hBn : ∀ a ∈ frA (env :: outer), (hideAll s.heap (e :: L :: frA outer)).get? a = none := fun a ha => hideAll_none _ (by
    obtain ⟨y, hy, hyf⟩ := List.mem_filterMap.mp ha
    rcases List.mem_cons.mp hy with rfl | hy
    · rw [hf] at hyf; cases hyf; exact .tail _ (.head _)
    · exact .tail _ (.tail _ (List.mem_filterMap.mpr ⟨y, hy, hyf⟩)))
  have hden : de ≠ e := fun z => by
    obtain ⟨k, tc, tf, tt, hd⟩ := hdct
    rw [z, he] at hd; cases hd
  refine leave_first hfr hf (hfo.fun hBn) he rfl rfl (fun b o k => of_hideAll _ k) (hideAll_none _ (.head _)) fun h' Y us => ?_
  refine q h' _ ⟨Y, fun b o hb k => hideAll_get _ (kh _ _ k) fun hm => ?_, (Heap.UpToSlots.of_keeps kh).trans us, ⟨hen, hdn⟩, ?_⟩
  · rcases List.mem_cons.mp hm with rfl | hm
    · rw [hen] at k; cases k
    · rcases List.mem_cons.mp hm with rfl | hm
      · rw [hL] at k; cases k
      · exact hb hm
  · obtain ⟨k, tc, tf, tt, hd⟩ := hdct
    refine ⟨k, tc, tf, tt, hideAll_get _ hd fun hm => ?_⟩
    rcases List.mem_cons.mp hm with z | hm
    · exact hden z
    · rcases List.mem_cons.mp hm with z | hm
      · exact hdL z
      · obtain ⟨o, ho'⟩ := hno _ hm
        rw [hdn] at ho'; cases ho'
theorem leave_thrown (hfr : A.frames = some (env :: outer)) (hf : env.frame = some L) (Y : Thrown P c f txt h₂ (env :: outer) e de B s.heap) (kh : ∀ b o, h.get? b = some o → h₂.get? b = some o) (hL : h.get? L = none)
    (q : ∀ h', Thrown P c f txt h outer e de B h' → Q () { s with heap := h' }) : wpAny M A (leaving env (.ref e)) Q E s := by
  refine leave_next hfr hf Y.fly fun h' Z us => q h' ⟨Z, fun b o hb k => Y.all b o (fun hm => ?_) (kh b o k), ((Heap.UpToSlots.of_keeps kh).trans Y.slots).trans us, ⟨?_, ?_⟩, Y.dct⟩
  · obtain ⟨y, hy, hyf⟩ := List.mem_filterMap.mp hm
    rcases List.mem_cons.mp hy with rfl | hy
    · rw [hf] at hyf; cases hyf; rw [hL] at k; cases k
    · exact hb (List.mem_filterMap.mpr ⟨y, hy, hyf⟩)
  · cases z : h.get? e with
    | none => rfl
    | some o => have := kh _ _ z; rw [Y.new.1] at this; cases this
  · cases z : h.get? de with
    | none => rfl
    | some o => have := kh _ _ z; rw [Y.new.2] at this; cases this
end
-- 76_refuse
local macro_rules | `(tactic| walk_at "exec Raise some none") => `(tactic| (k_here; refine raise_own rfl ?_))
theorem ns_obj {g h : Heap} {L : Addr} {m : Str → Option Value} (F : Fr g L h m) : ∃ o, h.get? L = some o ∧ ∀ vs, o.data ≠ .fields vs := by
  obtain ⟨o, es, ep, ho, hd, _⟩ := F.ns
  exact ⟨o, ho, fun vs z => by rw [hd] at z; cases z⟩
theorem keep_two2 {s g h' : Heap} {L : Addr} {m : Str → Option Value} {x dx : Addr} {ox od : Obj} (hg : g = hid s [(x, ox), (dx, od)]) (hx : s.get? x = some ox) (hdx : s.get? dx = some od) (F : Fr g L h' m) (N : News g L h' [(x, ox), (dx, od)]) (b : Addr) (o : Obj) (q : s.get? b = some o) : h'.get? b = some o := by
  by_cases z : b = x
  · subst z; rw [hx] at q; cases q; exact (N _ (.head _)).1
  · by_cases z' : b = dx
    · subst z'; rw [hdx] at q; cases q; exact (N _ (.tail _ (.head _))).1
    · refine F.keep b o ?_
      rw [hg]
      refine hid_get q fun p hp => ?_
      rcases List.mem_cons.mp hp with rfl | hp
      · exact fun e => z e.symm
      · rw [List.mem_singleton.mp hp]; exact fun e => z' e.symm
theorem none_keeps {h h' : Heap} {a : Addr} (k : ∀ b o, h.get? b = some o → h'.get? b = some o) (q : h'.get? a = none) : h.get? a = none := by
  cases z : h.get? a with
  | none => rfl
  | some o => have := k _ _ z; rw [q] at this; cases this
theorem arrived_no {prog : Program} {w : World} {d u : Nat} {outer : List Env} {gs : Option (List Code)} {s : Shared} {R : Result → Shared → Prop} {p : Program} {loose : List Str} {mg mb : Str → Option Value}
   {x dx lw : Addr} {k : Tok × Tok × Tok} {t1 t2 t t' : Tok} {limit told off : Int} {data : Array UInt8}
   (hx : s.heap.get? x = some (instObj 91 dx)) (hdx : s.heap.get? dx = some (cryD w.params k t1 t2 limit told lw))
   (X : (hd.heap_39 w.params).In (hid s.heap [(x, instObj 91 dx), (dx, cryD w.params k t1 t2 limit told lw)])) (T : TopRead p loose mg mb (hid s.heap [(x, instObj 91 dx), (dx, cryD w.params k t1 t2 limit told lw)])) (hroom : d < 890)
   (hd1 : data.size ≤ 1000) (hlet : told + limit < off + data.size) (hfo : FrOk s.heap outer)
   (hR : ∀ h' tk e de B f txt, Thrown w.params 13 f txt s.heap outer e de B h' → R (.error (.ref e)) { s with heap := h', toks := tk }) :
   codeAny (model prog w) ⟨none, d, some outer, gs, u⟩ (.call (.ref 81) ⟨[.ref x, .int off t, .bytes data t'], []⟩) R s := by
  have hxd : @Ne Nat x dx := fun e => by rw [e, hdx] at hx; simp [instObj] at hx
  refine' enter (K := hd.heap_39 w.params) (muts := [(x, instObj 91 dx), (dx, cryD w.params k t1 t2 limit told lw)]) (two_news hx hdx) X T ?ho ?hcd (by rw [rec_is]; exact Nat.lt_of_lt_of_le hroom (by decide)) ?hbind ?hloc ?h ?hcell ?hco ?hgen ?hk
  walk_at "my enter"
  intro g L' h₁ tk hg hL F N X T hlt
  have keep2 : ∀ {h' m'}, Fr g L' h' m' → News g L' h' [(x, instObj 91 dx), (dx, cryD w.params k t1 t2 limit told lw)] → ∀ b o, s.heap.get? b = some o → h'.get? b = some o := fun {h' m'} F N b o q => keep_two2 hg hx hdx F N b o q
  have hLn : s.heap.get? L' = none := by rw [hL]; exact Heap.get?_none_of_le (Nat.le_refl _)
  clear hg
  try dsimp only
  show wpAny _ _ _ _ _ _
  k_fold
  iterate 38 walk1
  refine quic_L rfl (by walk_at "my depth") F X T (by decide) (by decide) (by decide) ?_
  intro h' tk' e' t1' de' k' tc' tf' tt' hk' he' hde' hxe' hxd'
  have k1 := fun b o q => hk' b o (keep2 F N b o q)
  obtain ⟨oL, hLo, hLd⟩ := ns_obj F
  refine ⟨e', 38, t1', some de', rfl, hxe', excCls_of (fun a o q => hk' _ _ (F.keep _ _ (X a o q))) (q_cls w), ?_⟩
  refine leave_new rfl rfl (show ScopeKind.function ≠ ScopeKind.module by decide) hfo k1 hLn ⟨oL, hk' _ _ hLo, hLd⟩ hxe' (none_keeps (keep2 F N) he') (none_keeps (keep2 F N) hde') (fun z => by rw [z] at hde'; dsimp only at hde'; rw [hLo] at hde'; cases hde') ⟨_, _, _, _, hxd'⟩ fun h2 B Y => hR _ _ _ _ _ _ _ Y
theorem check_end_no {prog : Program} {w : World} {d u : Nat} {outer : List Env} {gs : Option (List Code)} {s : Shared} {R : Result → Shared → Prop} {p : Program} {loose : List Str} {mg mb : Str → Option Value}
   {x dx lw : Addr} {k : K8} {t1 t2 t3 t ft : Tok} {limit rd high en : Int}
   (hx : s.heap.get? x = some (instObj 189 dx)) (hdx : s.heap.get? dx = some (recD w.params k t1 t2 t3 limit lw rd high))
   (X : (hd.heap_39 w.params).In (hid s.heap [(x, instObj 189 dx), (dx, recD w.params k t1 t2 t3 limit lw rd high)])) (T : TopRead p loose mg mb (hid s.heap [(x, instObj 189 dx), (dx, recD w.params k t1 t2 t3 limit lw rd high)])) (hroom : d < 890)
   (hlet : limit < en) (hfo : FrOk s.heap outer)
   (hR : ∀ h' tk e de B f txt, Thrown w.params 3 f txt s.heap outer e de B h' → R (.error (.ref e)) { s with heap := h', toks := tk }) :
   codeAny (model prog w) ⟨none, d, some outer, gs, u⟩ (.call (.ref 123) ⟨[.ref x, .int en t, .bool false, .int 8 ft], []⟩) R s := by
  have hxd : @Ne Nat x dx := fun e => by rw [e, hdx] at hx; simp [instObj] at hx
  refine' enter (K := hd.heap_39 w.params) (muts := [(x, instObj 189 dx), (dx, recD w.params k t1 t2 t3 limit lw rd high)]) (two_news hx hdx) X T ?ho ?hcd (by rw [rec_is]; exact Nat.lt_of_lt_of_le hroom (by decide)) ?hbind ?hloc ?h ?hcell ?hco ?hgen ?hk
  walk_at "my enter"
  intro g L' h₁ tk hg hL F N X T hlt
  have keep2 : ∀ {h' m'}, Fr g L' h' m' → News g L' h' [(x, instObj 189 dx), (dx, recD w.params k t1 t2 t3 limit lw rd high)] → ∀ b o, s.heap.get? b = some o → h'.get? b = some o := fun {h' m'} F N b o q => keep_two2 hg hx hdx F N b o q
  have hLn : s.heap.get? L' = none := by rw [hL]; exact Heap.get?_none_of_le (Nat.le_refl _)
  clear hg
  try dsimp only
  show wpAny _ _ _ _ _ _
  k_fold
  iterate 45 walk1
  refine quic_L rfl (by walk_at "my depth") F X T (by decide) (by decide) (by decide) ?_
  intro h' tk' e' t1' de' k' tc' tf' tt' hk' he' hde' hxe' hxd'
  have k1 := fun b o q => hk' b o (keep2 F N b o q)
  obtain ⟨oL, hLo, hLd⟩ := ns_obj F
  refine ⟨e', 38, t1', some de', rfl, hxe', excCls_of (fun a o q => hk' _ _ (F.keep _ _ (X a o q))) (q_cls w), ?_⟩
  refine leave_new rfl rfl (show ScopeKind.function ≠ ScopeKind.module by decide) hfo k1 hLn ⟨oL, hk' _ _ hLo, hLd⟩ hxe' (none_keeps (keep2 F N) he') (none_keeps (keep2 F N) hde') (fun z => by rw [z] at hde'; dsimp only at hde'; rw [hLo] at hde'; cases hde') ⟨_, _, _, _, hxd'⟩ fun h2 B Y => hR _ _ _ _ _ _ _ Y
section
variable {prog : Program} {w : World} {A : Around} {E : Value → Shared → Prop} {s : Shared} {g : Heap} {L : Addr} {m : Str → Option Value} {news : List (Addr × Obj)} {G : Obj → List (Addr × Obj)} {p : Program} {loose : List Str} {mg mb : Str → Option Value} {fs : List Env}
   {x dx lw : Addr} {t1 t2 t3 t t' ft : Tok} {limit rd high en off told : Int} {Q : Value → Shared → Prop} {data : Array UInt8}
theorem arrived_no_L {k : Tok × Tok × Tok} (hh : A.handled = none) (hfr : A.frames = some fs) (hroom : A.depth < 890) (F : Fr g L s.heap m) (N : News g L s.heap news) (X : (hd.heap_39 w.params).In g) (T : TopRead p loose mg mb g)
    (hx : (x, instObj 91 dx) ∈ news) (U : UpdF dx (cryD w.params k t1 t2 limit told lw) news G) (hd1 : data.size ≤ 1000) (hlet : told + limit < off + data.size) (hfo : FrOk s.heap fs)
    (h : ∀ h' tk e de B f txt, Thrown w.params 13 f txt s.heap fs e de B h' → E (.ref e) { s with heap := h', toks := tk }) :
    wpAny (model prog w) A (call (.ref 81) [.ref x, .int off t, .bytes data t']) Q E s := by
  obtain ⟨hd, d, fr, gs, u⟩ := A
  cases hh; cases hfr
  exact wpAny_call (arrived_no (N.get hx) (N.get (updF_mem U)) (in_hid F N X (two_in hx U)) (top_hid F N T (two_in hx U)) hroom hd1 hlet hfo h)
theorem check_end_no_L {k : K8} (hh : A.handled = none) (hfr : A.frames = some fs) (hroom : A.depth < 890) (F : Fr g L s.heap m) (N : News g L s.heap news) (X : (hd.heap_39 w.params).In g) (T : TopRead p loose mg mb g)
    (hx : (x, instObj 189 dx) ∈ news) (U : UpdF dx (recD w.params k t1 t2 t3 limit lw rd high) news G) (hlet : limit < en) (hfo : FrOk s.heap fs)
    (h : ∀ h' tk e de B f txt, Thrown w.params 3 f txt s.heap fs e de B h' → E (.ref e) { s with heap := h', toks := tk }) :
    wpAny (model prog w) A (call (.ref 123) [.ref x, .int en t, .bool false, .int 8 ft]) Q E s := by
  obtain ⟨hd, d, fr, gs, u⟩ := A
  cases hh; cases hfr
  exact wpAny_call (check_end_no (N.get hx) (N.get (updF_mem U)) (in_hid F N X (two_in hx U)) (top_hid F N T (two_in hx U)) hroom hlet hfo h)
end
theorem on_stream_no {prog : Program} {w : World} {d u : Nat} {outer : List Env} {gs : Option (List Code)} {s : Shared} {R : Result → Shared → Prop} {p : Program} {loose : List Str} {mg mb : Str → Option Value}
   {x dx lw : Addr} {k : K8} {t1 t2 t3 t t' : Tok} {limit rd high off : Int} {data : Array UInt8}
   (hx : s.heap.get? x = some (instObj 189 dx)) (hdx : s.heap.get? dx = some (recD w.params k t1 t2 t3 limit lw rd high))
   (X : (hd.heap_39 w.params).In (hid s.heap [(x, instObj 189 dx), (dx, recD w.params k t1 t2 t3 limit lw rd high)])) (T : TopRead p loose mg mb (hid s.heap [(x, instObj 189 dx), (dx, recD w.params k t1 t2 t3 limit lw rd high)])) (hroom : d < 880)
   (hd1 : data.size ≤ 1000) (hlet : limit < off + data.size) (hfo : FrOk s.heap outer)
   (hR : ∀ h' tk e de B f txt, Thrown w.params 3 f txt s.heap outer e de B h' → R (.error (.ref e)) { s with heap := h', toks := tk }) :
   codeAny (model prog w) ⟨none, d, some outer, gs, u⟩ (.call (.ref 137) ⟨[.ref x, .int off t, .bytes data t', .bool false], []⟩) R s := by
  have hxd : @Ne Nat x dx := fun e => by rw [e, hdx] at hx; simp [instObj] at hx
  refine' enter (K := hd.heap_39 w.params) (muts := [(x, instObj 189 dx), (dx, recD w.params k t1 t2 t3 limit lw rd high)]) (two_news hx hdx) X T ?ho ?hcd (by rw [rec_is]; exact Nat.lt_of_lt_of_le hroom (by decide)) ?hbind ?hloc ?h ?hcell ?hco ?hgen ?hk
  walk_at "my enter"
  intro g L' h₁ tk hg hL F N X T hlt
  have keep2 : ∀ {h' m'}, Fr g L' h' m' → News g L' h' [(x, instObj 189 dx), (dx, recD w.params k t1 t2 t3 limit lw rd high)] → ∀ b o, s.heap.get? b = some o → h'.get? b = some o := fun {h' m'} F N b o q => keep_two2 hg hx hdx F N b o q
  have hLn : s.heap.get? L' = none := by rw [hL]; exact Heap.get?_none_of_le (Nat.le_refl _)
  clear hg
  try dsimp only
  show wpAny _ _ _ _ _ _
  k_fold
  repeat' walk1
  rename Fr _ _ _ _ => F
  rename News _ _ _ _ => N
  obtain ⟨oL, hLo, hLd⟩ := ns_obj F
  refine' check_end_no_L rfl rfl (by walk_at "my depth") F N X T (by k_mem) ?U (by omega) ⟨show ScopeKind.function ≠ ScopeKind.module by decide, ⟨_, oL, rfl, hLo, hLd⟩, hfo.keeps (keep2 F N)⟩ ?_
  (case U => k_updF)
  intro h' tk' e de B f txt Y
  exact leave_thrown rfl rfl Y (keep2 F N) hLn fun h2 Z => hR _ _ _ _ _ _ _ Z
section
variable {prog : Program} {w : World} {A : Around} {E : Value → Shared → Prop} {s : Shared} {g : Heap} {L : Addr} {m : Str → Option Value} {news : List (Addr × Obj)} {G : Obj → List (Addr × Obj)} {p : Program} {loose : List Str} {mg mb : Str → Option Value} {fs : List Env}
   {x dx lw : Addr} {t1 t2 t3 t t' ft : Tok} {limit rd high en off told : Int} {Q : Value → Shared → Prop} {data : Array UInt8}
theorem on_stream_no_L {k : K8} (hh : A.handled = none) (hfr : A.frames = some fs) (hroom : A.depth < 880) (F : Fr g L s.heap m) (N : News g L s.heap news) (X : (hd.heap_39 w.params).In g) (T : TopRead p loose mg mb g)
    (hx : (x, instObj 189 dx) ∈ news) (U : UpdF dx (recD w.params k t1 t2 t3 limit lw rd high) news G) (hd1 : data.size ≤ 1000) (hlet : limit < off + data.size) (hfo : FrOk s.heap fs)
    (h : ∀ h' tk e de B f txt, Thrown w.params 3 f txt s.heap fs e de B h' → E (.ref e) { s with heap := h', toks := tk }) :
    wpAny (model prog w) A (call (.ref 137) [.ref x, .int off t, .bytes data t', .bool false]) Q E s := by
  obtain ⟨hd, d, fr, gs, u⟩ := A
  cases hh; cases hfr
  exact wpAny_call (on_stream_no (N.get hx) (N.get (updF_mem U)) (in_hid F N X (two_in hx U)) (top_hid F N T (two_in hx U)) hroom hd1 hlet hfo h)
end
-- 78_caught
section
variable {prog : Program} {w : World} {A : Around} {E : Value → Shared → Prop} {s' : Shared} {g h₂ B : Heap} {L a e de Ll : Addr} {m : Str → Option Value} {name : Str} {scope : Scope} {cd : Value} {oL : Obj} {envL : Env}
  {n : Str} {b₀ : Stmt} {suite : List Stmt} {pos np : Pos} {rest : List ExceptHandler} {Q : Flow → Shared → Prop} {news : List (Addr × Obj)} {p : Program} {loose : List Str} {mg mb : Str → Option Value} {c f : Int} {txt : Str}
theorem caught_own (hfr : A.frames = some [envOf name scope L a cd, envL]) (hfL : envL.frame = some Ll) (F : Fr g L h₂ m) (N : News g L h₂ ((Ll, oL) :: news)) (hne : ∀ q ∈ news, q.1 ≠ Ll) (hLd : ∀ vs, oL.data ≠ .fields vs) (Y : Thrown w.params c f txt h₂ [envOf name scope L a cd, envL] e de B s'.heap)
    (X : (hd.heap_39 w.params).In g) (T : TopRead p loose mg mb g)
    (k : ∀ h' tk oe sl kk tc tf tt, Fr g L h' (fun y => if y = n then some (.ref e) else m y) → News g L h' ((e, oe) :: (de, excD w.params kk c f tc tf txt tt) :: (Ll, { oL with slots := sl }) :: news) → oe.cls = .ref 38 → oe.dict = some de → notCls oe = true →
      wpAny (model prog w) (A.mark (some (.ref e))) (execs (b₀ :: suite) (envOf name scope L a cd))
        (fun f s₄ => wpAny (model prog w) A (do bindName (envOf name scope L a cd) n .none; unbindBehindTheSuite (envOf name scope L a cd) n pos) (fun _ s₅ => Q f s₅) E s₄)
        (AsSuiteRaised (model prog w) (A.mark (some (.ref e))) (envOf name scope L a cd) n pos (notedBy (model prog w) (A.mark (some (.ref e))) (envOf name scope L a cd) (cameBackBy (model prog w) A (envOf name scope L a cd) E)))
        { s' with heap := h', toks := tk })
    (hk : scope.kind = .function := by rfl) (hlo : (envOf name scope L a cd).kindOf n = some .local := by rfl) (hx : (envOf name scope L a cd).kindOf "QuicError" = some .globalImplicit := by rfl) :
    wpAny (model prog w) A (noteFrame (.ref e) (envOf name scope L a cd))
      (fun _ s₂ => wpAny (model prog w) A (setFlight (.ref e) none) (fun _ s₃ =>
        wpAny (model prog w) A (handleBy (.ref e) (envOf name scope L a cd) (.ExceptHandler (some (.Name "QuicError" np)) (some n) (b₀ :: suite) pos :: rest)) Q E s₃) E s₂) E s' := by
  have hfa : frA [envOf name scope L a cd, envL] = [L, Ll] := by
    show List.filterMap _ _ = _
    simp only [List.filterMap_cons, hfL, List.filterMap_nil]
    rfl
  have hgLl := (N _ (.head _)).2.2
  have hLlL := (N _ (.head _)).2.1
  have inB : ∀ b o, b ≠ L → b ≠ Ll → h₂.get? b = some o → B.get? b = some o := fun b o h1 h2 q => Y.all b o (by rw [hfa]; intro hm; rcases List.mem_cons.mp hm with z | hm; exact h1 z; exact h2 (List.mem_singleton.mp hm)) q
  have gB : g.StaysIn B := fun b o q => inB b o (Nat.ne_of_lt (Nat.lt_of_lt_of_le (Heap.lt_size q) F.above)) (fun z => by rw [z, hgLl] at q; cases q) (F.keep b o q)
  have F0 := fun {h3 : Heap} (st : B.StaysIn h3) (us : h₂.UpToSlots h3) => F.of_stays (fun b o q => st b o (gB b o q)) us
  refine fly_next hfr rfl Y.fly fun h4 Y4 u4 => ?_
  refine fly_set (x := none) Y4 fun h5 Y5 u5 => ?_
  have us5 := (Y.slots.trans u4).trans u5
  have F5 := F0 Y5.stays us5
  obtain ⟨oe, vs, T1, oT, ts, he5, hcls, hdict, hd5, r5⟩ := Y5.tr
  refine wpAny_handleBy_cons (codeAny_handlers_test (name_K F5 X T (v := .ref 38) (by k_is) ?_ hk hx)) (by intro q; cases q)
  refine (excCls_of (fun a o q => F5.keep _ _ (X a o q)) (q_cls w)).elim fun nm qn N' bs hd' sn sub ab col dd k0 k1 k2 k3 k5 hC => ?_
  refine wpAny_excMatches_sub_self hC he5 hcls (by decide +kernel) (codeAny_handlers_suite_as ?_)
  refine fly_set (x := none) Y5 fun h6 Y6 u6 => ?_
  have us6 := us5.trans u6
  have F6 := F0 Y6.stays us6
  obtain ⟨oe6, vs6, T6, oT6, ts6, he6, hcls6, hdict6, hd6, r6⟩ := Y6.tr
  obtain ⟨kk, tc, tf, tt, hdct⟩ := Y.dct
  obtain ⟨sl, hsl⟩ := us6 Ll oL (N _ (.head _)).1 hLd
  have none_g : ∀ {b}, h₂.get? b = none → g.get? b = none := fun {b} q => none_keeps F.keep q
  have ne_L : ∀ {b}, h₂.get? b = none → b ≠ L := fun {b} q z => by
    obtain ⟨o, ho, _⟩ := ns_obj F
    rw [z, ho] at q; cases q
  have N6 : News g L h6 ((e, oe6) :: (de, excD w.params kk c f tc tf txt tt) :: (Ll, { oL with slots := sl }) :: news) := fun q hq => by
    rcases List.mem_cons.mp hq with rfl | hq
    · exact ⟨he6, ne_L Y.new.1, none_g Y.new.1⟩
    · rcases List.mem_cons.mp hq with rfl | hq
      · exact ⟨Y6.stays _ _ hdct, ne_L Y.new.2, none_g Y.new.2⟩
      · rcases List.mem_cons.mp hq with rfl | hq
        · exact ⟨hsl, hLlL, hgLl⟩
        · have W := N _ (.tail _ hq)
          exact ⟨Y6.stays _ _ (inB _ _ W.2.1 (hne _ hq) W.1), W.2⟩
  refine stN F6 N6 (fun h7 F7 N7 => ?_) hk hlo
  exact k h7 _ oe6 sl kk tc tf tt F7 N7 hcls6 hdict6 (by unfold notCls; rw [hd6])
end
section
variable {prog : Program} {w : World} {d u : Nat} {gs : Option (List Code)} {s : Shared} {R : Result → Shared → Prop} {p : Program} {loose : List Str} {mg mb : Str → Option Value}
   {x dx lw : Addr} {t1 t2 t3 t t' : Tok} {limit told rd high off : Int} {data : Array UInt8} {envL : Env} {Ll : Addr} {oL : Obj}
theorem three_news {h : Heap} {a b c : Addr} {oa ob oc : Obj} (ha : h.get? a = some oa) (hb : h.get? b = some ob) (hc : h.get? c = some oc) : ∀ q ∈ [(a, oa), (b, ob), (c, oc)], h.get? q.1 = some q.2 := fun q hq => by
  rcases List.mem_cons.mp hq with rfl | hq
  · exact ha
  · rcases List.mem_cons.mp hq with rfl | hq
    · exact hb
    · rw [List.mem_singleton.mp hq]; exact hc
theorem by_one_no {k : Tok × Tok × Tok} (hfL : envL.frame = some Ll) (hkL : envL.scope.kind ≠ .module) (hLo : s.heap.get? Ll = some oL) (hLd : ∀ vs, oL.data ≠ .fields vs) (hLx : Ll ≠ x) (hLdx : Ll ≠ dx)
   (hx : s.heap.get? x = some (instObj 91 dx)) (hdx : s.heap.get? dx = some (cryD w.params k t1 t2 limit told lw))
   (X : (hd.heap_39 w.params).In (hid s.heap [(Ll, oL), (x, instObj 91 dx), (dx, cryD w.params k t1 t2 limit told lw)])) (T : TopRead p loose mg mb (hid s.heap [(Ll, oL), (x, instObj 91 dx), (dx, cryD w.params k t1 t2 limit told lw)])) (hroom : d < 870)
   (hd1 : data.size ≤ 1000) (hlet : told + limit < off + data.size)
   (hR : ∀ h' tk t, (∀ b o, b ≠ Ll → s.heap.get? b = some o → h'.get? b = some o) → s.heap.UpToSlots h' → R (.ok (.ret (.int 13 t))) { s with heap := h', toks := tk }) :
   codeAny (model prog w) ⟨none, d, some [envL], gs, u⟩ (.call (.ref 207) ⟨[.ref x, .int off t, .bytes data t'], []⟩) R s := by
  have hxd : @Ne Nat x dx := fun e => by rw [e, hdx] at hx; simp [instObj] at hx
  refine' enter (K := hd.heap_39 w.params) (muts := [(Ll, oL), (x, instObj 91 dx), (dx, cryD w.params k t1 t2 limit told lw)]) (three_news hLo hx hdx) X T ?ho ?hcd (by rw [rec_is]; exact Nat.lt_of_lt_of_le hroom (by decide)) ?hbind ?hloc ?h ?hcell ?hco ?hgen ?hk
  walk_at "my enter"
  intro g L' h₁ tk hg hL F N X T hlt
  have hgL : g.get? Ll = none := by rw [hg]; exact hid_none (p := (Ll, oL)) (.head _)
  have hLx' : @Ne Nat Ll x := hLx
  have hLdx' : @Ne Nat Ll dx := hLdx
  show wpAny _ _ _ _ _ _
  k_fold
  repeat' walk1
  rename Fr _ _ _ _ => F
  rename News _ _ _ _ => N
  obtain ⟨oO, hOo, hOd⟩ := ns_obj F
  refine' arrived_no_L rfl rfl (by walk_at "my depth") F N X T (by k_mem) ?U hd1 hlet ⟨show ScopeKind.function ≠ ScopeKind.module by decide, ⟨_, oO, rfl, hOo, hOd⟩, hkL, ⟨Ll, oL, hfL, N.get (by k_mem), hLd⟩, trivial⟩ ?_
  (case U => k_updF)
  intro h' tk' e de B f txt Y
  refine caught_own rfl hfL F N (fun q hq => ?_) hLd Y X T fun h7 tk7 oe sl kk tc tf tt F7 N7 hc7 hd7 hn7 => ?_
  · rcases List.mem_cons.mp hq with rfl | hq
    · exact fun z => hLx z.symm
    · rw [List.mem_singleton.mp hq]; exact fun z => hLdx z.symm
  clear F N
  repeat' walk1
  refine exc_get (K := hd.heap_39 w.params) (C := 38) (od := some (excD w.params kk 13 f tc tf txt tt)) (v := .int 13 tc) (X.keeps F7.keep) ⟨(N7 _ (.head _)).1, hc7, hn7, by rw [hd7]; exact (N7 _ (.tail _ (.head _))).1⟩ (by k_is) (by k_is) (by k_is) (findObj_own (attr := none) (by k_is) (by k_is) rfl rfl) rfl ?_
  dsimp only
  refine wpAny_nameGoes rfl F7.ns rfl fun h8 m8 hn8 hs8 => ?_
  have F8 := F7.set hn8 hs8
  have N8 := N7.set hs8
  have hall : ∀ b o, b ≠ Ll → s.heap.get? b = some o → h8.get? b = some o := fun b o hb q => by
    by_cases z : b = x
    · subst z; rw [hx] at q; cases q; exact N8.get (by k_mem)
    · by_cases z' : b = dx
      · subst z'; rw [hdx] at q; cases q; exact N8.get (by k_mem)
      · refine F8.keep b o ?_
        rw [hg]
        refine hid_get q fun p hp => ?_
        rcases List.mem_cons.mp hp with rfl | hp
        · exact fun e => hb e.symm
        · rcases List.mem_cons.mp hp with rfl | hp
          · exact fun e => z e.symm
          · rw [List.mem_singleton.mp hp]; exact fun e => z' e.symm
  refine hR h8 _ tc hall fun b o q hn => ?_
  by_cases z : b = Ll
  · subst z; rw [hLo] at q; cases q; exact ⟨sl, N8.get (by k_mem)⟩
  · exact ⟨o.slots, hall b o z q⟩
theorem by_other_no {k : K8} (hfL : envL.frame = some Ll) (hkL : envL.scope.kind ≠ .module) (hLo : s.heap.get? Ll = some oL) (hLd : ∀ vs, oL.data ≠ .fields vs) (hLx : Ll ≠ x) (hLdx : Ll ≠ dx)
   (hx : s.heap.get? x = some (instObj 189 dx)) (hdx : s.heap.get? dx = some (recD w.params k t1 t2 t3 limit lw rd high))
   (X : (hd.heap_39 w.params).In (hid s.heap [(Ll, oL), (x, instObj 189 dx), (dx, recD w.params k t1 t2 t3 limit lw rd high)])) (T : TopRead p loose mg mb (hid s.heap [(Ll, oL), (x, instObj 189 dx), (dx, recD w.params k t1 t2 t3 limit lw rd high)])) (hroom : d < 860)
   (hd1 : data.size ≤ 1000) (hlet : limit < off + data.size)
   (hR : ∀ h' tk t, (∀ b o, b ≠ Ll → s.heap.get? b = some o → h'.get? b = some o) → s.heap.UpToSlots h' → R (.ok (.ret (.int 3 t))) { s with heap := h', toks := tk }) :
   codeAny (model prog w) ⟨none, d, some [envL], gs, u⟩ (.call (.ref 214) ⟨[.ref x, .int off t, .bytes data t'], []⟩) R s := by
  have hxd : @Ne Nat x dx := fun e => by rw [e, hdx] at hx; simp [instObj] at hx
  refine' enter (K := hd.heap_39 w.params) (muts := [(Ll, oL), (x, instObj 189 dx), (dx, recD w.params k t1 t2 t3 limit lw rd high)]) (three_news hLo hx hdx) X T ?ho ?hcd (by rw [rec_is]; exact Nat.lt_of_lt_of_le hroom (by decide)) ?hbind ?hloc ?h ?hcell ?hco ?hgen ?hk
  walk_at "my enter"
  intro g L' h₁ tk hg hL F N X T hlt
  have hgL : g.get? Ll = none := by rw [hg]; exact hid_none (p := (Ll, oL)) (.head _)
  have hLx' : @Ne Nat Ll x := hLx
  have hLdx' : @Ne Nat Ll dx := hLdx
  show wpAny _ _ _ _ _ _
  k_fold
  repeat' walk1
  rename Fr _ _ _ _ => F
  rename News _ _ _ _ => N
  obtain ⟨oO, hOo, hOd⟩ := ns_obj F
  refine' on_stream_no_L rfl rfl (by walk_at "my depth") F N X T (by k_mem) ?U hd1 hlet ⟨show ScopeKind.function ≠ ScopeKind.module by decide, ⟨_, oO, rfl, hOo, hOd⟩, hkL, ⟨Ll, oL, hfL, N.get (by k_mem), hLd⟩, trivial⟩ ?_
  (case U => k_updF)
  intro h' tk' e de B f txt Y
  refine caught_own rfl hfL F N (fun q hq => ?_) hLd Y X T fun h7 tk7 oe sl kk tc tf tt F7 N7 hc7 hd7 hn7 => ?_
  · rcases List.mem_cons.mp hq with rfl | hq
    · exact fun z => hLx z.symm
    · rw [List.mem_singleton.mp hq]; exact fun z => hLdx z.symm
  clear F N
  repeat' walk1
  refine exc_get (K := hd.heap_39 w.params) (C := 38) (od := some (excD w.params kk 3 f tc tf txt tt)) (v := .int 3 tc) (X.keeps F7.keep) ⟨(N7 _ (.head _)).1, hc7, hn7, by rw [hd7]; exact (N7 _ (.tail _ (.head _))).1⟩ (by k_is) (by k_is) (by k_is) (findObj_own (attr := none) (by k_is) (by k_is) rfl rfl) rfl ?_
  dsimp only
  refine wpAny_nameGoes rfl F7.ns rfl fun h8 m8 hn8 hs8 => ?_
  have F8 := F7.set hn8 hs8
  have N8 := N7.set hs8
  have hall : ∀ b o, b ≠ Ll → s.heap.get? b = some o → h8.get? b = some o := fun b o hb q => by
    by_cases z : b = x
    · subst z; rw [hx] at q; cases q; exact N8.get (by k_mem)
    · by_cases z' : b = dx
      · subst z'; rw [hdx] at q; cases q; exact N8.get (by k_mem)
      · refine F8.keep b o ?_
        rw [hg]
        refine hid_get q fun p hp => ?_
        rcases List.mem_cons.mp hp with rfl | hp
        · exact fun e => hb e.symm
        · rcases List.mem_cons.mp hp with rfl | hp
          · exact fun e => z e.symm
          · rw [List.mem_singleton.mp hp]; exact fun e => z' e.symm
  refine hR h8 _ tc hall fun b o q hn => ?_
  by_cases z : b = Ll
  · subst z; rw [hLo] at q; cases q; exact ⟨sl, N8.get (by k_mem)⟩
  · exact ⟨o.slots, hall b o z q⟩
end
-- 80_lawL
section
variable {prog : Program} {w : World} {A : Around} {E : Value → Shared → Prop} {s : Shared} {g : Heap} {L : Addr} {m : Str → Option Value} {news : List (Addr × Obj)} {G : Obj → List (Addr × Obj)} {p : Program} {loose : List Str} {mg mb : Str → Option Value}
theorem take_Z {ab ai : Addr} {vs : List Value} {ns : List Int} {n : Nat} {c : Int} {ti tm : Tok} {many : Int} {Q : Value → Shared → Prop} (hh : A.handled = none) (hroom : A.depth < 950) (F : Fr g L s.heap m) (N : News g L s.heap news) (X : (hd.heap_39 w.params).In g) (T : TopRead p loose mg mb g)
    (U : UpdF ab (W.listOf #[.ref ai, .int c ti] n) news G) (hai : ai ≠ ab) (hl : s.heap.IsList ai vs.toArray) (hv : IntsAre vs ns) (hns : ns.length ≤ 63) (hi : 0 ≤ c ∧ c ≤ 1000) (h0 : 0 < many)
    (h : ∀ h' tk v tv ti', Fr g L h' m → News g L h' (G (W.listOf #[.ref ai, .int (c + 1) ti'] n)) → 0 ≤ v → v < many → Q (.int v tv) { s with heap := h', toks := tk }) :
    wpAny (model prog w) A (call (.ref 200) [.ref ab, .int many tm]) Q E s := by
  obtain ⟨i, rfl⟩ := Int.eq_ofNat_of_zero_le hi.1
  refine take_L hh hroom F N X T U hai hl hv hns (by omega) h0 fun h' tk v tv ti' F' N' v0 v1 => h h' tk v tv ti' F' ?_ v0 v1
  rw [show ((i : Nat) : Int) + 1 = ((i + 1 : Nat) : Int) by omega]; exact N'
end
section
variable {prog : Program} {w : World} {A : Around} {E : Value → Shared → Prop} {s : Shared} {env : Env} {g : Heap} {body : List Stmt} {Q : Flow → Shared → Prop} {x : Str} {xp : Pos}
/-- a for over range(n) -/
theorem forRange {r : Addr} {hi : Int} {n : Nat} {t u v : Tok} {m₀ : Str → Option Value} {news₀ : List (Addr × Obj)} (hr : IsRange s.heap r 0 hi 1 t u v) (hn : hi = n) (hsm : n ≤ 100000) (hh : A.handled = none)
    (F : Fr g env.locals s.heap m₀) (N : News g env.locals s.heap news₀) (J : Nat → (Str → Option Value) → List (Addr × Obj) → Prop) (h0 : J 0 m₀ news₀)
    (turn : ∀ i t m₁ news₁ h tk it o, i < n → J i m₁ news₁ → o.cls = .type "range_iterator" → (∀ p ∈ news₁, p.1 ≠ it) → Fr g env.locals h m₁ → News g env.locals h ((it, o) :: news₁) →
      wpAny (model prog w) A (assign (.Name x xp) env (.int i t)) (fun _ s₂ => wpAny (model prog w) A (execs body env) (TurnEnd g env.locals it o (J (i + 1)) { s with heap := h, toks := tk } Q) (fun _ _ => False) s₂) (fun _ _ => False) { s with heap := h, toks := tk })
    (done : ∀ m₁ news₁ h tk, J n m₁ news₁ → Fr g env.locals h m₁ → News g env.locals h news₁ → Q .next { s with heap := h, toks := tk }) :
    wpAny (model prog w) A (pyIter (.ref r)) (fun it s₂ => codeAny (model prog w) A (.forLoop (.Name x xp) it body [] env) (fun r s' => match r with | .ok f => Q f s' | .error e => cameBackBy (model prog w) A env E e s') s₂) E s := by
  subst hn
  have hsize : Builtin.Range.rangeSize 0 n 1 = n := rangeSize_nat _ _
  refine wpAny_pyIter_range hr (by first | exact small_one (by omega) (by omega) (by omega) (by omega) | skip) ?_
  rw [hsize]
  have hne : env.locals ≠ s.heap.objs.size := Nat.ne_of_lt F.ns.lt
  refine forWalk (s := { s with heap := _ }) (cls := "range_iterator") (KTurns.ofWalks (target := .Name x xp) (Walks.range (prog := prog) (w := w) hh s.heap.objs.size 0 1 n) fun i v s Q E st q => ?_) (fun b hb => .inl (List.mem_singleton.mp hb)) (next_is_new F) (fun hm => hne (List.mem_singleton.mp hm)) (fun i h st => ⟨_, st, rfl⟩) ?_ (F.push _) (fun p hp => ⟨Heap.get?_push_of_some _ (N p hp).1, (N p hp).2⟩)
    (fun p hp => Nat.ne_of_lt (Heap.lt_size (N p hp).1)) J h0 (fun i v m₁ news₁ h tk o hin hP hJ hoc hoff F₁ N₁ => ?_) done
  · exact wpAny_pure q
  · show IsRangeIter _ _ (0 + ((0 : Nat) : Int) * 1) ((n : Int) - ((0 : Nat) : Int)) 1
    have h1 : (0 : Int) + ((0 : Nat) : Int) * 1 = 0 := by omega
    have h2 : (n : Int) - ((0 : Nat) : Int) = n := by omega
    rw [h1, h2]
    exact Heap.get?_push_size _ rfl
  · obtain ⟨t, rfl⟩ := hP
    have h1 : (0 : Int) + (i : Int) * 1 = i := by omega
    rw [h1]
    exact turn i t m₁ news₁ h tk _ o hin hJ hoc hoff F₁ N₁
/-- the same, in the form in which the library asks for it -/
theorem forRangeV {r : Addr} {hi : Int} {n : Nat} {t u v : Tok} {m₀ : Str → Option Value} {news₀ : List (Addr × Obj)} (hr : IsRange s.heap r 0 hi 1 t u v) (hn : hi = n) (hsm : n ≤ 100000) (hh : A.handled = none)
    (F : Fr g env.locals s.heap m₀) (N : News g env.locals s.heap news₀) (J : Nat → (Str → Option Value) → List (Addr × Obj) → Prop) (h0 : J 0 m₀ news₀)
    (turn : ∀ i t m₁ news₁ h tk it o, i < n → J i m₁ news₁ → o.cls = .type "range_iterator" → (∀ p ∈ news₁, p.1 ≠ it) → Fr g env.locals h (fun y => if y = x then some (.int i t) else m₁ y) → News g env.locals h ((it, o) :: news₁) →
      wpAny (model prog w) A (execs body env) (TurnEnd g env.locals it o (J (i + 1)) { s with heap := h, toks := tk } Q) E { s with heap := h, toks := tk })
    (done : ∀ m₁ news₁ h tk, J n m₁ news₁ → Fr g env.locals h m₁ → News g env.locals h news₁ → Q .next { s with heap := h, toks := tk }) :
    wpAny (model prog w) A (pyIter (.ref r)) (fun it s₂ => LoopAtV prog w A g env x body Q E it s₂) E s := by
  subst hn
  have hsize : Builtin.Range.rangeSize 0 n 1 = n := rangeSize_nat _ _
  refine wpAny_pyIter_range hr (small_one (by omega) (by omega) (by omega) (by omega)) ?_
  rw [hsize]
  have hne : env.locals ≠ s.heap.objs.size := Nat.ne_of_lt F.ns.lt
  have gI : g.get? s.heap.objs.size = none := next_is_new F
  refine ⟨s.heap.objs.size, [s.heap.objs.size], [s.heap.objs.size], n, _, _, m₀, news₀, J, rfl, Walks.range (prog := prog) (w := w) hh s.heap.objs.size 0 1 n, fun hm => hne (List.mem_singleton.mp hm), fun b hb => (List.mem_singleton.mp hb) ▸ gI, fun p hp hm => absurd (Heap.lt_size (N p hp).1) (by rw [List.mem_singleton.mp hm]; exact Nat.lt_irrefl _), ?_, F.push _, fun p hp => ⟨Heap.get?_push_of_some _ (N p hp).1, (N p hp).2⟩, h0, ?_, ?_⟩
  · show IsRangeIter _ _ (0 + ((0 : Nat) : Int) * 1) ((n : Int) - ((0 : Nat) : Int)) 1
    have h1 : (0 : Int) + ((0 : Nat) : Int) * 1 = 0 := by omega
    have h2 : (n : Int) - ((0 : Nat) : Int) = n := by omega
    rw [h1, h2]
    exact Heap.get?_push_size _ rfl
  · rintro i v m₁ news₁ s₁ own ⟨h, tk, rfl⟩ hin ⟨t, rfl⟩ hJ hoff hown hget hall hst F₁ N₁
    have h1 : (0 : Int) + (i : Int) * 1 = i := by omega
    rw [h1] at F₁
    obtain ⟨oI, hI, hIc⟩ : ∃ oI, h.get? s.heap.objs.size = some oI ∧ oI.cls = .type "range_iterator" := ⟨_, hst, rfl⟩
    have hio := hall _ (.head _) gI _ hI
    have hoff' : ∀ p ∈ news₁, p.1 ≠ s.heap.objs.size := fun p hp e => hoff p hp (List.mem_singleton.mpr e)
    have hownI : ∀ p ∈ own, p = (s.heap.objs.size, oI) := fun p hp => by
      have h1 := hget p hp
      have h2 := List.mem_singleton.mp (hown p hp)
      dsimp only at h1
      rw [h2, hI] at h1
      exact Prod.ext h2 (Option.some.inj h1).symm
    refine wpAny_mono (turn i t m₁ news₁ h tk _ oI hin hJ hIc hoff' F₁ (fun p hp => ?_)) (fun f s₃ p => ?_) fun _ _ e => e
    · rcases List.mem_cons.mp hp with rfl | hp
      · exact N₁ _ (List.mem_append_left _ hio)
      · exact N₁ _ (List.mem_append_right _ hp)
    · have fin : ∀ s₃, TurnEnd g env.locals s.heap.objs.size oI (J (i + 1)) { s with heap := h, toks := tk } Q .next s₃ → LoopStepU g env.locals [s.heap.objs.size] own (J (i + 1)) { s with heap := h, toks := tk } .next s₃ := by
        rintro s₃ ⟨h', tk, m', news', nx, e, F', N', hi, hn, hj⟩
        refine ⟨rfl, h', tk, m', nx, e, F', fun p hp => ?_, fun p hp hm => (hn p hp).2 (List.mem_singleton.mp hm), hj⟩
        rcases List.mem_append.mp hp with hp | hp
        · rw [hownI p hp]; exact N' _ hi
        · exact N' _ (hn p hp).1
      cases f with
      | ret v => exact p
      | brk => exact p
      | next => exact LoopStepV.next (fin _ p)
      | cont => exact LoopStepV.cont (fin _ p)
  · intro h3 tk m' news' F3 N3 _ hJ
    exact done m' news' h3 tk hJ F3 N3
end
-- 82_enum
section
variable {prog : Program} {w : World} {A : Around} {E : Value → Shared → Prop} {s : Shared} {b : Array UInt8} {t : Tok}
theorem nextB_item {it : Addr} {i : Nat} {c : UInt8} {Q : Value → Shared → Prop} (hit : KBw.IsBytesIter s.heap it b t i) (hx : b[i]? = some c)
    (hQ : ∀ h', KBw.IsBytesIter h' it b t (i + 1) → Heap.SameBut it s.heap h' → Q (.int (c.toNat : Int) s.toks) { s with heap := h', toks := s.toks + 1 }) : wpAny (model prog w) A (Builtin.SmallTypes.nextOf (.ref it)) Q E s := by
  obtain ⟨o, ho, hc, hd⟩ := id hit
  unfold Builtin.SmallTypes.nextOf
  refine wpAny_bind (wpAny_callSpecial?_slot (name := Str.ofString "__next__") (KBw.iter_typeIs hit) KBw.slot_next (wpAny_call_entry KBw.slot_next (KBw.iter_typeIs hit) KBw.entry_next ?_ (KBw.args_next _)))
  show wpAny _ _ (field (.ref it) 0 >>= _) _ _ s
  refine wpAny_bind (wpAny_field ho hd (x := .bytes b t) rfl ?_)
  show wpAny _ _ (if (Value.bytes b t == Value.none) = true then _ else _) _ _ s
  rw [if_neg (show ¬ ((Value.bytes b t == Value.none) = true) from Bool.false_ne_true)]
  show wpAny _ _ (field (.ref it) 1 >>= _) _ _ s
  refine wpAny_bind (wpAny_field ho hd (x := .int i 0) rfl (wpAny_bind (wpAny_of_eq (a := b) rfl ?_)))
  simp only [Int.toNat_natCast, hx]
  refine wpAny_bind (wpAny_setField ho hd (by simp) (wpAny_bind (wpAny_mkInt (wpAny_pure ⟨_, rfl, wpAny_pure (hQ _ ?_ (Heap.SameBut.update ..))⟩))))
  exact ⟨_, Heap.get?_update_self _ ho (Obj.isFreed_of_fields (Obj.data_mapFields hd _)), (Obj.cls_mapFields ..).trans hc, by rw [Obj.data_mapFields hd]; simp [rawInt]⟩
theorem nextB_end {it : Addr} {i : Nat} {Q : Value → Shared → Prop} (hh : A.handled = none) (hit : KBw.IsBytesIter s.heap it b t i) (hx : b[i]? = none)
    (hE : ∀ h' e, Heap.ExtBut it s.heap h' → (∃ o, h'.get? e = some o ∧ o.cls = .type "StopIteration") → E (.ref e) { s with heap := h' }) : wpAny (model prog w) A (Builtin.SmallTypes.nextOf (.ref it)) Q E s := by
  obtain ⟨o, ho, hc, hd⟩ := id hit
  unfold Builtin.SmallTypes.nextOf
  refine wpAny_bind (wpAny_callSpecial?_slot (name := Str.ofString "__next__") (KBw.iter_typeIs hit) KBw.slot_next (wpAny_call_entry KBw.slot_next (KBw.iter_typeIs hit) KBw.entry_next ?_ (KBw.args_next _)))
  show wpAny _ _ (field (.ref it) 0 >>= _) _ _ s
  refine wpAny_bind (wpAny_field ho hd (x := .bytes b t) rfl ?_)
  show wpAny _ _ (if (Value.bytes b t == Value.none) = true then _ else _) _ _ s
  rw [if_neg (show ¬ ((Value.bytes b t == Value.none) = true) from Bool.false_ne_true)]
  show wpAny _ _ (field (.ref it) 1 >>= _) _ _ s
  refine wpAny_bind (wpAny_field ho hd (x := .int i 0) rfl (wpAny_bind (wpAny_of_eq (a := b) rfl ?_)))
  simp only [Int.toNat_natCast, hx]
  refine wpAny_bind (wpAny_rule (wpAny_bind (wpAny_setField ho hd (by simp) ?_)))
  show wpAny _ _ (newExc (.type "StopIteration") [] >>= _) _ _ _
  refine wpAny_bind ?_
  simp only [newExc, newTuple]
  refine wpAny_bind (wpAny_newObj_type ?_ (by size_fits))
  refine wpAny_bind (m := firstArgMember _ _) (wpAny_of_eq (a := Value.none) (by first | rfl | (simp only [firstArgMember]; rfl)) ?_)
  refine wpAny_newObj_type ?_ (by size_fits)
  simp only [raiseNew]
  refine wpAny_bind (wpAny_handled ?_)
  first | rw [show A.in1.handled = none from hh] | rw [hh]
  refine wpAny_bind (wpAny_pure (wpAny_throw ?_))
  exact hE _ _ (((Heap.SameBut.update ..).extBut.push _).push _) ⟨_, Heap.get?_push_size _ rfl, rfl⟩
end
theorem drawsB {prog : Program} {w : World} {A : Around} (hh : A.handled = none) (it : Addr) (b : Array UInt8) (t : Tok) :
    Draws prog w A it [it] b.size (fun i v => ∃ c u, b[i]? = some c ∧ v = .int (c.toNat : Int) u) (fun i h => KBw.IsBytesIter h it b t i) where
  live := fun _ _ st => let ⟨o, ho, _⟩ := st; ⟨o, ho⟩
  frame := fun _ _ _ st hk => let ⟨o, ho, r⟩ := st; ⟨o, hk it (by simp) o ho, r⟩
  item := fun i s Q E hi st hQ => nextB_item st (c := b[i]) (by simp [hi]) fun h' hit' hs' => hQ _ h' (s.toks + 1) ⟨_, _, by simp [hi], rfl⟩ hit' hs'
  done := fun s Q E st hE => nextB_end hh st (by simp) hE
theorem meets_enumB (x : Array UInt8) (t : Tok) :
    Meets (Builtin.«enumerate.__new__» ⟨[.type "enumerate", .bytes x t], []⟩) (fun _ R s =>
      R (.ok (.ret (.ref (s.heap.push { cls := .type "bytes_iterator", data := .fields #[.bytes x t, .int 0 0] }).objs.size)))
        { s with heap := (s.heap.push { cls := .type "bytes_iterator", data := .fields #[.bytes x t, .int 0 0] }).push { cls := .type "enumerate", data := .fields #[.none, .bool false, .ref s.heap.objs.size, rawInt 0, .none, .none] } }) :=
  .of_wp fun prog w A R s h => by
    obtain ⟨hp, g, d, tk, os⟩ := s
    have hsub := sub_enumerate
    wp_walk
    refine wpAny_stack_any fun st => wpAny_pure ?_
    split
    · rename_i c _ _ _ _ _
      cases (c == Value.type "enumerate")
      · wp_walk using KBw.pyIter_bytes
        exact ⟨_, rfl, h⟩
      · wp_walk using KBw.pyIter_bytes
        exact ⟨_, rfl, h⟩
    · wp_walk using KBw.pyIter_bytes
      exact ⟨_, rfl, h⟩
section
variable {prog : Program} {w : World} {A : Around} {E : Value → Shared → Prop} {s : Shared} {env : Env} {g : Heap} {body : List Stmt} {Q : Flow → Shared → Prop}
theorem call_enumB {x : Array UInt8} {t : Tok} {Q : Value → Shared → Prop}
    (h : ∀ h', IsEnum h' (s.heap.objs.size + 1) s.heap.objs.size 0 .none → KBw.IsBytesIter h' s.heap.objs.size x t 0 → (∀ b o, s.heap.get? b = some o → h'.get? b = some o) → Q (.ref (s.heap.objs.size + 1)) { s with heap := h' }) :
    wpAny (model prog w) A (call (.type "enumerate") [.bytes x t]) Q E s := by
  refine callType_new F.called_enumerate (by decide) (F.typeCall_enumerate_1 _) (F.newCall_enumerate_1 _) (fun obj => F.args_object_init_2 obj _) F.entry_enumerate_new (meets_enumB x t) ?_
  have hz : (s.heap.push { cls := .type "bytes_iterator", data := .fields #[.bytes x t, .int 0 0] }).objs.size = s.heap.objs.size + 1 := Heap.size_push ..
  show _ ∧ _
  rw [hz]
  have he : IsEnum ((s.heap.push { cls := .type "bytes_iterator", data := .fields #[.bytes x t, .int 0 0] }).push { cls := .type "enumerate", data := .fields #[.none, .bool false, .ref s.heap.objs.size, rawInt 0, .none, .none] }) (s.heap.objs.size + 1) s.heap.objs.size 0 .none := by
    have := Heap.get?_push_size (s.heap.push { cls := .type "bytes_iterator", data := .fields #[.bytes x t, .int 0 0] })
      (o := { cls := .type "enumerate", data := .fields #[.none, .bool false, .ref s.heap.objs.size, rawInt 0, .none, .none] }) rfl
    rw [hz] at this; exact this
  exact ⟨⟨_, he, rfl⟩, h _ he ⟨_, Heap.get?_push_of_some _ (Heap.get?_push_size _ rfl), rfl, rfl⟩ fun b o x => Heap.get?_push_of_some _ (Heap.get?_push_of_some _ x)⟩
end
/-- the end of a turn of a loop whose own objects are own -/
noncomputable def TurnEndO (g : Heap) (L : Addr) (own : List (Addr × Obj)) (Jn : (Str → Option Value) → List (Addr × Obj) → Prop) (s₁ : Shared) (Q : Flow → Shared → Prop) (f : Flow) (s₂ : Shared) : Prop :=
  match f with
  | .ret v => Q (.ret v) s₂
  | .brk => Q .next s₂
  | _ => ∃ h' tk m' nx, s₂ = { s₁ with heap := h', toks := tk } ∧ Fr g L h' m' ∧ News g L h' (nx ++ own) ∧ (∀ p ∈ nx, ∀ q ∈ own, p.1 ≠ q.1) ∧ Jn m' nx
section
variable {prog : Program} {w : World} {A : Around} {E : Value → Shared → Prop} {s : Shared} {env : Env} {g : Heap} {body : List Stmt} {Q : Flow → Shared → Prop} {elts : List Expr} {ek : Nat} {ep : Pos}
theorem forEnumB {x : Array UInt8} {t : Tok} {m₀ : Str → Option Value} {news₀ : List (Addr × Obj)} (hh : A.handled = none)
    (F : Fr g env.locals s.heap m₀) (N : News g env.locals s.heap news₀) (J : Nat → (Str → Option Value) → List (Addr × Obj) → Prop) (h0 : J 0 m₀ news₀)
    (turn : ∀ i c u ti T m₁ news₁ h tk own, x[i]? = some c → J i m₁ news₁ → IsTup h T #[.int i ti, .int (c.toNat : Int) u] → (∀ p ∈ news₁, ∀ q ∈ own, p.1 ≠ q.1) → Fr g env.locals h m₁ → News g env.locals h (news₁ ++ own) →
      wpAny (model prog w) A (assign (.Tuple elts ek ep) env (.ref T)) (fun _ s₂ => wpAny (model prog w) A (execs body env) (TurnEndO g env.locals own (J (i + 1)) { s with heap := h, toks := tk } Q) (fun _ _ => False) s₂) (fun _ _ => False) { s with heap := h, toks := tk })
    (done : ∀ m₁ news₁ h tk, J x.size m₁ news₁ → Fr g env.locals h m₁ → News g env.locals h news₁ → Q .next { s with heap := h, toks := tk }) :
    wpAny (model prog w) A (call (.type "enumerate") [.bytes x t]) (fun xv s₁ => wpAny (model prog w) A (pyIter xv) (fun it s₂ => codeAny (model prog w) A (.forLoop (.Tuple elts ek ep) it body [] env) (fun r s' => match r with | .ok f => Q f s' | .error e => cameBackBy (model prog w) A env E e s') s₂) E s₁) E s := by
  refine call_enumB fun h' he hi hk => wpAny_pyIter_enum he ?_
  have F' := F.keeps hk
  have N' : News g env.locals h' news₀ := fun p hp => ⟨hk _ _ (N p hp).1, (N p hp).2⟩
  have hLlt := F.ns.lt
  have W := (WalksT.enumerateD (drawsB (prog := prog) (w := w) (A := A.in1) hh s.heap.objs.size x t) (s.heap.objs.size + 1) (Nat.succ_ne_self _) (by simp) (by simp)).toU
  have gno : ∀ b, b ∈ [s.heap.objs.size + 1, s.heap.objs.size] → g.get? b = none := fun b hb => by
    cases q : g.get? b with
    | none => rfl
    | some o =>
      have := Heap.lt_size (F.keep _ _ q)
      rcases List.mem_cons.mp hb with rfl | hb
      · exact absurd this (Nat.not_lt.mpr (Nat.le_succ _))
      · rw [List.mem_singleton.mp hb] at this; exact absurd this (Nat.lt_irrefl _)
  refine ktu_loop (s := { s with heap := h' }) (R := fun r s' => match r with | .ok f => Q f s' | .error e => cameBackBy (model prog w) A env E e s') (KTurns.ofWalksU (elts := elts) (k := ek) (pos := ep) W) ?_ gno ?_ ⟨⟨_, he⟩, hi⟩ F' N' J h0 ?_ ?_
  · intro hm
    rcases List.mem_cons.mp hm with e | hm
    · rw [e] at hLlt; exact absurd hLlt (Nat.not_lt.mpr (Nat.le_succ _))
    · rw [List.mem_singleton.mp hm] at hLlt; exact absurd hLlt (Nat.lt_irrefl _)
  · intro p hp hm
    have := Heap.lt_size (N p hp).1
    rcases List.mem_cons.mp hm with e | hm
    · rw [e] at this; exact absurd this (Nat.not_lt.mpr (Nat.le_succ _))
    · rw [List.mem_singleton.mp hm] at this; exact absurd this (Nat.lt_irrefl _)
  · intro i v m₁ news₁ h₁ tk₁ own hin hP hJ hoff hown hget hall hst₁ F₁ N₁
    obtain ⟨T, vals, rfl, ⟨ti, y, ⟨c, u, hc, rfl⟩, rfl⟩, hT⟩ := hP
    have hsub : ∀ p ∈ own, p.1 ∈ [s.heap.objs.size + 1, s.heap.objs.size] := hown
    obtain ⟨⟨old, hee⟩, oi, hoi, hoi2⟩ := hst₁
    have hle : (s.heap.objs.size + 1, _) ∈ own := hall _ (.head _) (gno _ (.head _)) _ hee
    have hli : (s.heap.objs.size, oi) ∈ own := hall _ (.tail _ (.head _)) (gno _ (.tail _ (.head _))) _ hoi
    have hwr : ∀ a : Addr, (∀ q ∈ own, a ≠ q.1) → a ∉ [s.heap.objs.size + 1, s.heap.objs.size] := fun a ha hm => by
      rcases List.mem_cons.mp hm with e | hm
      · exact ha _ hle e
      · exact ha _ hli (List.mem_singleton.mp hm)
    refine wpAny_mono (turn i c u ti T m₁ news₁ h₁ tk₁ own hc hJ hT (fun p hp q hq e => hoff p hp (e ▸ hsub q hq)) F₁ (fun p hp => N₁ p (by rcases List.mem_append.mp hp with h | h; exact List.mem_append_right _ h; exact List.mem_append_left _ h))) (fun _ s₂ h₂ => wpAny_mono h₂ (fun f s₃ p => ?_) fun _ _ e => e.elim) fun _ _ e => e.elim
    have fin : ∀ s₃, TurnEndO g env.locals own (J (i + 1)) { s with heap := h₁, toks := tk₁ } Q .next s₃ → LoopStepU g env.locals [s.heap.objs.size + 1, s.heap.objs.size] own (J (i + 1)) { s with heap := h₁, toks := tk₁ } .next s₃ := by
      rintro s₃ ⟨h3, tk, m', nx, e, F3, N3, hn, hj⟩
      exact ⟨rfl, h3, tk, m', nx, e, F3, fun p hp => N3 p (by rcases List.mem_append.mp hp with h | h; exact List.mem_append_right _ h; exact List.mem_append_left _ h), fun p hp => hwr _ (hn p hp), hj⟩
    cases f with
    | ret v => exact p
    | brk => exact p
    | next => exact LoopStepV.next (fin _ p)
    | cont => exact LoopStepV.cont (fin _ p)
  · intro h3 tk m' news' F3 N3 _ hJ
    exact done m' news' h3 tk hJ F3 N3
end
-- 84_state
/-- what stands in the pieces at an octet's place -/
noncomputable def pcAt (ps : List (Int × Array UInt8)) (k : Int) : Option Int := ps.findSome? fun q => if q.1 ≤ k ∧ k < q.1 + q.2.size then (q.2[(k - q.1).toNat]?).map fun c => (c.toNat : Int) else none
/-- the word of the law's loop: what was told, what waits, what came first -/
structure LawInv (lim : Int) (i : Nat) (told : Int) (ps : List (Int × Array UInt8)) (whole : Array UInt8) (f : Int → Option Int) : Prop where
  size : (whole.size : Int) = told
  sizeLe : told ≤ 13 * i
  lenp : ps.length ≤ i
  szp : ∀ q ∈ ps, 0 < q.2.size ∧ told < q.1 ∧ q.1 + q.2.size ≤ told + lim
  gap : ps.Pairwise fun (x y : Int × Array UInt8) => x.1 + (x.2.size : Int) < y.1
  cov : ∀ k, f k = if 0 ≤ k ∧ k < told then (whole[k.toNat]?).map (fun c => (c.toNat : Int)) else pcAt ps k
noncomputable def Rd (D : List (PyData × PyData)) (f : Int → Option Int) : Prop := ∀ k, PySem.Spec.lookup (.int k) D = (f k).map .int
noncomputable def inG (g : Heap) (tl : List (Addr × Obj)) (a : Addr) (o : Obj) : Prop := g.get? a = some o ∨ (a, o) ∈ tl
noncomputable def IsTp (o : Obj) : Prop := o.cls = .type "tuple" ∧ ∃ ws n, o.data = .seq ws n
noncomputable def AllPc (tl : List (Addr × Obj)) : Prop := ∀ q ∈ tl, IsTp q.2 ∨ ∃ vs n, q.2 = W.listOf (List.toArray vs) n ∧ ∀ v ∈ vs, ∃ a, v = .ref a
theorem AllPc.seq {tl : List (Addr × Obj)} (h : AllPc tl) : AllSeq tl := fun q hq => (h q hq).imp (·.1) fun ⟨vs, n, e, _⟩ => by rw [e]
theorem AllPc.append {a b : List (Addr × Obj)} (h : AllPc a) (k : AllPc b) : AllPc (a ++ b) := fun q hq => (List.mem_append.mp hq).elim (h q) (k q)
theorem PcsIn.refs {P : Addr → Obj → Prop} {vs qs} (h : PcsIn P vs qs) : ∀ v ∈ vs, ∃ a, v = Value.ref a := by
  induction h with
  | nil => intro v hv; cases hv
  | cons hq _ ih =>
    obtain ⟨a, _, _, _, rfl, _⟩ := hq
    intro v hv
    rcases List.mem_cons.mp hv with rfl | hv
    · exact ⟨a, rfl⟩
    · exact ih v hv
section
variable {g h h' : Heap} {L d : Addr} {m : Str → Option Value} {news tl : List (Addr × Obj)} {o : Obj}
theorem pcs_tailP (F : Fr g L h m) {ws : List Value} {qs : List (Int × Array UInt8)} (hp : PcsIn (AtH h) ws qs) : ∃ tl, News g L h tl ∧ (∀ q ∈ tl, IsTp q.2) ∧ PcsIn (inG g tl) ws qs := by
  induction hp with
  | nil => exact ⟨[], (fun _ h => nomatch h), (fun _ h => nomatch h), .nil⟩
  | cons hq _ ih =>
    obtain ⟨tl, N, ht, k⟩ := ih
    obtain ⟨a, n, t, u, rfl, ha⟩ := hq
    cases e : g.get? a with
    | some o =>
      have := F.keep _ _ e
      have ha' : h.get? a = _ := ha
      rw [ha'] at this
      obtain rfl := Option.some.inj this
      exact ⟨tl, N, ht, .cons ⟨a, n, t, u, rfl, .inl e⟩ k⟩
    | none =>
      refine ⟨_ :: tl, fun q hq => ?_, fun q hq => ?_, .cons ⟨a, n, t, u, rfl, .inr (.head _)⟩ (k.mono fun b o h => h.imp id (.tail _))⟩
      · rcases List.mem_cons.mp hq with rfl | hq
        · refine ⟨ha, fun q => ?_, e⟩
          obtain ⟨oL, es, ep, hL, hd, _⟩ := F.ns
          have ha' : h.get? a = _ := ha
          have q' : a = L := q
          rw [q', hL] at ha'
          obtain rfl := Option.some.inj ha'
          cases hd
        · exact N q hq
      · rcases List.mem_cons.mp hq with rfl | hq
        · exact ⟨rfl, _, _, rfl⟩
        · exact ht q hq
theorem list_tailP (F : Fr g L h m) {lw : Addr} {ws : List Value} {n : Nat} {qs : List (Int × Array UInt8)} (hl : h.get? lw = some (W.listOf (List.toArray ws) n)) (hp : PcsIn (AtH h) ws qs) :
    ∃ tl, News g L h tl ∧ AllPc tl ∧ inG g tl lw (W.listOf (List.toArray ws) n) ∧ PcsIn (inG g tl) ws qs := by
  obtain ⟨tl, N, ht, k⟩ := pcs_tailP F hp
  cases e : g.get? lw with
  | some o =>
    have := F.keep _ _ e
    rw [hl] at this
    obtain rfl := Option.some.inj this
    exact ⟨tl, N, fun q hq => .inl (ht q hq), .inl e, k⟩
  | none =>
    refine ⟨(lw, W.listOf (List.toArray ws) n) :: tl, fun q hq => ?_, fun q hq => ?_, .inr (.head _), k.mono fun b o h => h.imp id (.tail _)⟩
    · rcases List.mem_cons.mp hq with rfl | hq
      · refine ⟨hl, fun q => ?_, e⟩
        obtain ⟨oL, es, ep, hL, hd, _⟩ := F.ns
        have q' : lw = L := q
        rw [q', hL] at hl
        obtain rfl := Option.some.inj hl
        cases hd
      · exact N q hq
    · rcases List.mem_cons.mp hq with rfl | hq
      · exact .inr ⟨ws, n, rfl, hp.refs⟩
      · exact .inl (ht q hq)
theorem list_tailPE (F : Fr g L h m) {lw : Addr} {ws : List Value} {n : Nat} {qs : List (Int × Array UInt8)} (hl : h.get? lw = some (W.listOf (List.toArray ws) n)) (hp : PcsIn (AtH h) ws qs) {G : Prop}
    (k : ∀ tl, News g L h tl → AllPc tl → inG g tl lw (W.listOf (List.toArray ws) n) → PcsIn (inG g tl) ws qs → G) : G := by
  obtain ⟨tl, a, b, c, d⟩ := list_tailP F hl hp
  exact k tl a b c d
theorem AllPc.data (ht : AllPc tl) : ∀ q ∈ tl, ∃ ws n, q.2.data = .seq ws n := fun q hq => by
  rcases ht q hq with ⟨_, h⟩ | ⟨vs, n, e, _⟩
  · exact h
  · rw [e]; exact ⟨_, _, rfl⟩
theorem pc_offC (N : ∀ q ∈ tl, h.get? q.1 = some q.2) (hd : h.get? d = some o) {v : Option Value} (ho : o.data = .cell v) (ht : AllPc tl) : ∀ q ∈ tl, q.1 ≠ d := fun q hq e => by
  have h1 := N q hq
  rw [e, hd] at h1
  obtain rfl := Option.some.inj h1
  obtain ⟨ws, n, z⟩ := ht.data q hq
  rw [ho] at z; cases z
/-- the pieces' tuples and lists lie apart from what is neither, and from the box -/
theorem pc_off (N : ∀ q ∈ tl, h.get? q.1 = some q.2) (hd : h.get? d = some o) (ho : (o.cls == Value.type "tuple" || o.cls == Value.type "list") = false) (ht : AllPc tl) : ∀ q ∈ tl, q.1 ≠ d := fun q hq e => by
  have h1 := N q hq
  rw [e, hd] at h1
  obtain rfl := Option.some.inj h1
  rcases ht.seq q hq with e | e
  · rw [e] at ho; simp at ho
  · rw [e] at ho; simp at ho
theorem pc_offB {r v : Value} {n : Nat} (N : ∀ q ∈ tl, h.get? q.1 = some q.2) (hd : h.get? d = some (W.listOf #[r, v] n)) (hv : ∀ a, v ≠ .ref a) (ht : AllPc tl) : ∀ q ∈ tl, q.1 ≠ d := fun q hq e => by
  have h1 := N q hq
  rw [e, hd] at h1
  have h1 := (Option.some.inj h1).symm
  rcases ht q hq with ⟨e, _⟩ | ⟨vs, k, e, hr⟩
  · rw [h1] at e; exact type_ne e
  · rw [h1] at e
    have : Data.seq #[r, v] n = Data.seq vs.toArray k := congrArg Obj.data e
    injection this with this
    have : vs = [r, v] := by
      have := congrArg Array.toList this
      simpa using this.symm
    obtain ⟨a, ha⟩ := hr v (by rw [this]; simp)
    exact hv a ha
end
structure LawC where
  (b ai x dx y dy df cO cM cF : Addr)
  (nb na : Nat) (ws : List Value) (kc : Tok × Tok × Tok) (kr : K8) (lim : Int) (tlim : Tok) (oF : Obj)
structure LawD where
  (lw lp : Addr) (vs vs2 : List Value) (nw np : Nat) (c : Int) (ti t1 t2 u1 u2 u3 : Tok) (told L2 high : Int) (oD oO oM : Obj) (vO vM : Option Value) (kvs : List (Int × Value)) (D : List (PyData × PyData)) (f : Int → Option Int)
  (ps : List (Int × Array UInt8)) (whole : Array UInt8) (tw : Tok) (tl : List (Addr × Obj))
noncomputable abbrev ledg (P : Params) (C : LawC) (S : LawD) : List (Addr × Obj) :=
  (C.b, W.listOf #[.ref C.ai, .int S.c S.ti] C.nb) :: (C.dx, cryD P C.kc S.t1 S.t2 C.lim S.told S.lw) :: (C.dy, recD P C.kr S.u1 S.u2 S.u3 S.L2 S.lp S.told S.high) :: (C.df, S.oD) :: (C.cO, S.oO) :: (C.cM, S.oM) ::
    (C.x, instObj 91 C.dx) :: (C.y, instObj 189 C.dy) :: (C.ai, W.listOf C.ws.toArray C.na) :: (C.cF, C.oF) :: S.tl
structure LawOk (prog : Program) (w : World) (g : Heap) (C : LawC) (i : Nat) (S : LawD) (m : Str → Option Value) : Prop where
  box : m "box" = some (.ref C.b)
  limit : m "limit" = some (.int C.lim C.tlim)
  whole : m "whole" = some (.bytes S.whole S.tw)
  crypto : m "crypto" = some (.ref C.x)
  part : m "part" = some (.ref C.y)
  c0 : 0 ≤ S.c
  c1 : S.c ≤ 3 * i + 2
  hl : inG g S.tl S.lw (W.listOf S.vs.toArray S.nw)
  hl2 : inG g S.tl S.lp (W.listOf S.vs2.toArray S.np)
  hp : PcsIn (inG g S.tl) S.vs S.ps
  hp2 : PcsIn (inG g S.tl) S.vs2 S.ps
  tls : AllPc S.tl
  dict : S.oD.IsDictOf (intKind prog w) S.kvs
  flat : PyProof.V.FlatPairs PyData.int S.kvs S.D
  rd : Rd S.D S.f
  dlen : S.D.length ≤ 5 * i
  cO : S.oO.data = .cell S.vO
  cM : S.oM.data = .cell S.vM
  L2 : S.L2 ≤ S.told + C.lim
  high : 0 ≤ S.high
  inv : LawInv C.lim i S.told S.ps S.whole S.f
  offB : ∀ q ∈ S.tl, q.1 ≠ C.b
  offDx : ∀ q ∈ S.tl, q.1 ≠ C.dx
  offDy : ∀ q ∈ S.tl, q.1 ≠ C.dy
  offDf : ∀ q ∈ S.tl, q.1 ≠ C.df
  offO : ∀ q ∈ S.tl, q.1 ≠ C.cO
  offM : ∀ q ∈ S.tl, q.1 ≠ C.cM
noncomputable def LawJ (prog : Program) (w : World) (g : Heap) (C : LawC) (i : Nat) (m : Str → Option Value) (news : List (Addr × Obj)) : Prop := ∃ S, news = ledg w.params C S ∧ LawOk prog w g C i S m
structure LawF (g : Heap) (L : Addr) (C : LawC) : Prop where
  hints : ∃ ns, IntsAre C.ws ns ∧ ns.length ≤ 63
  lim : 6 ≤ C.lim ∧ C.lim ≤ 13
  chain : @LT.lt Nat _ C.cF C.cO ∧ @LT.lt Nat _ C.cO C.cM ∧ @LT.lt Nat _ C.cM C.ai ∧ @LT.lt Nat _ C.ai C.b ∧ @LT.lt Nat _ C.b C.df ∧ @LT.lt Nat _ C.df C.dx ∧ @LT.lt Nat _ C.dx C.x ∧ @LT.lt Nat _ C.x C.dy ∧ @LT.lt Nat _ C.dy C.y
  stat : ∀ a ∈ [C.b, C.dx, C.dy, C.df, C.cO, C.cM, C.x, C.y, C.ai, C.cF], a ≠ L ∧ g.get? a = none
  cF : C.oF.data = .cell (some (.ref C.df))
  sys : (C.df == sysModules) = false
theorem dict_cls {K : Type} [DecidableEq K] {prog : Program} {w : World} {knd : KeyKind prog w K} {o : Obj} {kvs : List (K × Value)} (h : o.IsDictOf knd kvs) : o.cls = .type "dict" := by
  obtain ⟨es, ep, hx, _⟩ := h
  exact hx.1
theorem nw_mk {g h : Heap} {L a : Addr} {o : Obj} {l : List (Addr × Obj)} (h1 : h.get? a = some o) (h2 : a ≠ L ∧ g.get? a = none) (t : News g L h l) : News g L h ((a, o) :: l) := fun q hq => by
  rcases List.mem_cons.mp hq with rfl | hq
  · exact ⟨h1, h2⟩
  · exact t q hq
theorem nw_put {g h : Heap} {L : Addr} {q : Addr × Obj} {l news : List (Addr × Obj)} (N : News g L h news) (hq : q ∈ news) (t : News g L h l) : News g L h (q :: l) := nw_mk (N q hq).1 (N q hq).2 t
theorem off_mk {it a : Addr} {o : Obj} {l : List (Addr × Obj)} (h : a ≠ it) (t : ∀ q ∈ l, q.1 ≠ it) : ∀ q ∈ (a, o) :: l, q.1 ≠ it := fun q hq => by
  rcases List.mem_cons.mp hq with rfl | hq
  · exact h
  · exact t q hq
theorem in10 {α : Type} {p : α → Prop} {a b c d e f g h i j : α} (H : ∀ x ∈ [a, b, c, d, e, f, g, h, i, j], p x) : p a ∧ p b ∧ p c ∧ p d ∧ p e ∧ p f ∧ p g ∧ p h ∧ p i ∧ p j := by
  refine ⟨H _ ?_, H _ ?_, H _ ?_, H _ ?_, H _ ?_, H _ ?_, H _ ?_, H _ ?_, H _ ?_, H _ ?_⟩ <;> repeat (first | exact List.Mem.head _ | apply List.Mem.tail)
/-- the end of a turn, from what stands in the heap -/
theorem turn_end {prog : Program} {w : World} {g h' : Heap} {L it : Addr} {o : Obj} {C : LawC} {S : LawD} {i tk : Nat} {m' : Str → Option Value} {s₁ : Shared} {Q : Flow → Shared → Prop} (St : LawF g L C) (F : Fr g L h' m')
    (hit : h'.get? it = some o ∧ it ≠ L ∧ g.get? it = none) (ho : o.cls = .type "range_iterator") (hne : ∀ a ∈ [C.b, C.dx, C.dy, C.df, C.cO, C.cM, C.x, C.y, C.ai, C.cF], a ≠ it)
    (hb : h'.get? C.b = some (W.listOf #[.ref C.ai, .int S.c S.ti] C.nb)) (hdx : h'.get? C.dx = some (cryD w.params C.kc S.t1 S.t2 C.lim S.told S.lw)) (hdy : h'.get? C.dy = some (recD w.params C.kr S.u1 S.u2 S.u3 S.L2 S.lp S.told S.high))
    (hdf : h'.get? C.df = some S.oD) (hO : h'.get? C.cO = some S.oO) (hM : h'.get? C.cM = some S.oM) (hx : h'.get? C.x = some (instObj 91 C.dx)) (hy : h'.get? C.y = some (instObj 189 C.dy)) (hai : h'.get? C.ai = some (W.listOf C.ws.toArray C.na)) (hcF : h'.get? C.cF = some C.oF)
    (hlw : h'.get? S.lw = some (W.listOf S.vs.toArray S.nw)) (hlp : h'.get? S.lp = some (W.listOf S.vs2.toArray S.np)) (hp : PcsIn (AtH h') S.vs S.ps) (hp2 : PcsIn (AtH h') S.vs2 S.ps)
    (n1 : m' "box" = some (.ref C.b)) (n2 : m' "limit" = some (.int C.lim C.tlim)) (n3 : m' "whole" = some (.bytes S.whole S.tw)) (n4 : m' "crypto" = some (.ref C.x)) (n5 : m' "part" = some (.ref C.y))
    (c0 : 0 ≤ S.c) (c1 : S.c ≤ 3 * ((i + 1 : Nat) : Int) + 2) (dict : S.oD.IsDictOf (intKind prog w) S.kvs) (flat : PyProof.V.FlatPairs PyData.int S.kvs S.D) (rd : Rd S.D S.f) (dlen : S.D.length ≤ 5 * (i + 1))
    (cO : S.oO.data = .cell S.vO) (cM : S.oM.data = .cell S.vM) (L2 : S.L2 ≤ S.told + C.lim) (high : 0 ≤ S.high) (inv : LawInv C.lim (i + 1) S.told S.ps S.whole S.f) :
    TurnEnd g L it o (LawJ prog w g C (i + 1)) s₁ Q .next { s₁ with heap := h', toks := tk } := by
  obtain ⟨ta, Na, pa, la, qa⟩ := list_tailP F hlw hp
  obtain ⟨tb, Nb, pb, lb, qb⟩ := list_tailP F hlp hp2
  have Nt : News g L h' (ta ++ tb) := led_app Na Nb
  have pt := pa.append pb
  have mono1 : ∀ a o, inG g ta a o → inG g (ta ++ tb) a o := fun a o => Or.imp id (List.mem_append_left _)
  have mono2 : ∀ a o, inG g tb a o → inG g (ta ++ tb) a o := fun a o => Or.imp id (List.mem_append_right _)
  have at' : ∀ q ∈ ta ++ tb, h'.get? q.1 = some q.2 := fun q hq => (Nt q hq).1
  have dic := dict_cls dict
  have off : ∀ {d : Addr} {o : Obj}, h'.get? d = some o → (o.cls == Value.type "tuple" || o.cls == Value.type "list") = false → ∀ q ∈ ta ++ tb, q.1 ≠ d := fun hd hc => pc_off at' hd hc pt
  obtain ⟨u1, u2, u3, u4, u5, u6, u7, u8, u9, u0⟩ := in10 St.stat
  obtain ⟨v1, v2, v3, v4, v5, v6, v7, v8, v9, v0⟩ := in10 hne
  have N' : News g L h' (ledg w.params C { S with tl := ta ++ tb }) := nw_mk hb u1 (nw_mk hdx u2 (nw_mk hdy u3 (nw_mk hdf u4 (nw_mk hO u5 (nw_mk hM u6 (nw_mk hx u7 (nw_mk hy u8 (nw_mk hai u9 (nw_mk hcF u0 Nt)))))))))
  have O' : ∀ q ∈ ledg w.params C { S with tl := ta ++ tb }, q.1 ≠ it := off_mk v1 (off_mk v2 (off_mk v3 (off_mk v4 (off_mk v5 (off_mk v6 (off_mk v7 (off_mk v8 (off_mk v9 (off_mk v0 (off hit.1 (by rw [ho]; decide)))))))))))
  refine TurnEnd.intro (ledg w.params C { S with tl := ta ++ tb }) F (news' := (it, o) :: ledg w.params C { S with tl := ta ++ tb }) (nw_mk hit.1 hit.2 N') (.head _) (fun q hq => ⟨.tail _ hq, O' q hq⟩) ?_
  · exact ⟨{ S with tl := ta ++ tb }, rfl, ⟨n1, n2, n3, n4, n5, c0, c1, mono1 _ _ la, mono2 _ _ lb, qa.mono mono1, qb.mono mono2, pt, dict, flat, rd, dlen, cO, cM, L2, high, inv, pc_offB at' hb (fun a z => by cases z) pt, off hdx rfl, off hdy rfl, off hdf (by rw [dic]; decide), pc_offC at' hO cO pt, pc_offC at' hM cM pt⟩⟩
section
variable {prog : Program} {w : World} {A : Around} {E : Value → Shared → Prop} {s : Shared} {env : Env} {g : Heap} {body : List Stmt} {Q : Flow → Shared → Prop} {x : Str}
/-- the law's own loop -/
theorem law_loop {C : LawC} {r : Addr} {hi : Int} {n : Nat} {t u v : Tok} {m₀ : Str → Option Value} {S0 : LawD} (hr : IsRange s.heap r 0 hi 1 t u v) (hn : hi = n) (hsm : n ≤ 100000) (hh : A.handled = none)
    (F : Fr g env.locals s.heap m₀) (N : News g env.locals s.heap (ledg w.params C S0)) (ok0 : LawOk prog w g C 0 S0 m₀)
    (turn : ∀ i t S m₁ h tk it o, i < n → LawOk prog w g C i S m₁ → o.cls = .type "range_iterator" → (∀ a ∈ [C.b, C.dx, C.dy, C.df, C.cO, C.cM, C.x, C.y, C.ai, C.cF], a ≠ it) → (∀ q ∈ S.tl, q.1 ≠ it) → Fr g env.locals h (fun y => if y = x then some (.int i t) else m₁ y) → News g env.locals h ((it, o) :: ledg w.params C S) →
      wpAny (model prog w) A (execs body env) (TurnEnd g env.locals it o (LawJ prog w g C (i + 1)) { s with heap := h, toks := tk } Q) E { s with heap := h, toks := tk })
    (done : ∀ S m₁ h tk, LawOk prog w g C n S m₁ → Fr g env.locals h m₁ → News g env.locals h (ledg w.params C S) → Q .next { s with heap := h, toks := tk }) :
    wpAny (model prog w) A (pyIter (.ref r)) (fun it s₂ => LoopAtV prog w A g env x body Q E it s₂) E s :=
  forRangeV hr hn hsm hh F N (LawJ prog w g C) ⟨S0, rfl, ok0⟩ (fun i t m₁ news₁ h tk it o hi ⟨S, e, ok⟩ ho hit F₁ N₁ => by
    subst e
    refine turn i t S m₁ h tk it o hi ok ho (fun a ha => ?_) (fun q hq => hit q (by simp [hq])) F₁ N₁
    simp only [List.mem_cons, List.not_mem_nil, or_false] at ha
    rcases ha with rfl | rfl | rfl | rfl | rfl | rfl | rfl | rfl | rfl | rfl <;> first
      | exact hit (_, _) (.head _)
      | exact hit (_, _) (.tail _ (.head _))
      | exact hit (_, _) (.tail _ (.tail _ (.head _)))
      | exact hit (_, _) (.tail _ (.tail _ (.tail _ (.head _))))
      | exact hit (_, _) (.tail _ (.tail _ (.tail _ (.tail _ (.head _)))))
      | exact hit (_, _) (.tail _ (.tail _ (.tail _ (.tail _ (.tail _ (.head _))))))
      | exact hit (_, _) (.tail _ (.tail _ (.tail _ (.tail _ (.tail _ (.tail _ (.head _)))))))
      | exact hit (_, _) (.tail _ (.tail _ (.tail _ (.tail _ (.tail _ (.tail _ (.tail _ (.head _))))))))
      | exact hit (_, _) (.tail _ (.tail _ (.tail _ (.tail _ (.tail _ (.tail _ (.tail _ (.tail _ (.head _)))))))))
      | exact hit (_, _) (.tail _ (.tail _ (.tail _ (.tail _ (.tail _ (.tail _ (.tail _ (.tail _ (.tail _ (.head _))))))))))) fun m₁ news₁ h tk ⟨S, e, ok⟩ F₁ N₁ => by
    subst e; exact done S m₁ h tk ok F₁ N₁
end
-- 85_start
section
variable {prog : Program} {w : World} {A : Around} {E : Value → Shared → Prop} {s : Shared} {env : Env} {g : Heap} {body : List Stmt} {Q : Flow → Shared → Prop} {x : Str}
theorem law_go {r lp y dy lw xx dx df b ai cM cO cF a1 a2 a3 : Addr} {o1 o2 o3 oD oM oO oF : Obj} {np nw nb na : Nat} {ws : List Value} {ns : List Int} {kc : Tok × Tok × Tok} {kr : K8} {t1 t2 u1 u2 u3 ti tlim tw : Tok} {lim hi c : Int} {t u v : Tok} {m₀ : Str → Option Value} {vO vM : Option Value}
    (hr : IsRange s.heap r 0 hi 1 t u v) (hhi : 2 ≤ hi ∧ hi ≤ 9) (hh : A.handled = none)
    (F : Fr g env.locals s.heap m₀) (N : News g env.locals s.heap [(a1, o1), (lp, W.listOf #[] np), (y, instObj 189 dy), (dy, recD w.params kr u1 u2 u3 lim lp 0 0), (lw, W.listOf #[] nw), (xx, instObj 91 dx), (dx, cryD w.params kc t1 t2 lim 0 lw), (a2, o2), (df, oD), (b, W.listOf #[.ref ai, .int c ti] nb), (ai, W.listOf ws.toArray na), (a3, o3), (cM, oM), (cO, oO), (cF, oF)])
    (hws : IntsAre ws ns) (hns : ns.length ≤ 63) (hlim : 6 ≤ lim ∧ lim ≤ 13) (hc : 0 ≤ c ∧ c ≤ 2) (hD : oD.IsDictOf (intKind prog w) []) (hF : oF.data = .cell (some (.ref df))) (hO : oO.data = .cell vO) (hM : oM.data = .cell vM) (hsys : (df == sysModules) = false)
    (chain : @LT.lt Nat _ cF cO ∧ @LT.lt Nat _ cO cM ∧ @LT.lt Nat _ cM ai ∧ @LT.lt Nat _ ai b ∧ @LT.lt Nat _ b df ∧ @LT.lt Nat _ df dx ∧ @LT.lt Nat _ dx xx ∧ @LT.lt Nat _ xx dy ∧ @LT.lt Nat _ dy y)
    (n1 : m₀ "box" = some (.ref b)) (n2 : m₀ "limit" = some (.int lim tlim)) (n3 : m₀ "whole" = some (.bytes #[] tw)) (n4 : m₀ "crypto" = some (.ref xx)) (n5 : m₀ "part" = some (.ref y))
    (turn : ∀ C i t S m₁ h tk it o, LawF g env.locals C → C.cF = cF → C.cO = cO → C.cM = cM → (i < 9) → LawOk prog w g C i S m₁ → o.cls = .type "range_iterator" → (∀ a ∈ [C.b, C.dx, C.dy, C.df, C.cO, C.cM, C.x, C.y, C.ai, C.cF], a ≠ it) → (∀ q ∈ S.tl, q.1 ≠ it) → Fr g env.locals h (fun y => if y = x then some (.int i t) else m₁ y) → News g env.locals h ((it, o) :: ledg w.params C S) →
      wpAny (model prog w) A (execs body env) (TurnEnd g env.locals it o (LawJ prog w g C (i + 1)) { s with heap := h, toks := tk } Q) E { s with heap := h, toks := tk })
    (done : ∀ C n S m₁ h tk, LawF g env.locals C → C.cF = cF → C.cO = cO → C.cM = cM → n ≤ 9 → LawOk prog w g C n S m₁ → Fr g env.locals h m₁ → News g env.locals h (ledg w.params C S) → Q .next { s with heap := h, toks := tk }) :
    wpAny (model prog w) A (pyIter (.ref r)) (fun it s₂ => LoopAtV prog w A g env x body Q E it s₂) E s := by
  have St : LawF g env.locals ⟨b, ai, xx, dx, y, dy, df, cO, cM, cF, nb, na, ws, kc, kr, lim, tlim, oF⟩ := ⟨⟨ns, hws, hns⟩, hlim, chain,
    all_mk (N _ (by k_mem : (b, W.listOf #[.ref ai, .int c ti] nb) ∈ _)).2 (all_mk (N _ (by k_mem : (dx, cryD w.params kc t1 t2 lim 0 lw) ∈ _)).2 (all_mk (N _ (by k_mem : (dy, recD w.params kr u1 u2 u3 lim lp 0 0) ∈ _)).2 (all_mk (N _ (by k_mem : (df, oD) ∈ _)).2 (all_mk (N _ (by k_mem : (cO, oO) ∈ _)).2
      (all_mk (N _ (by k_mem : (cM, oM) ∈ _)).2 (all_mk (N _ (by k_mem : (xx, instObj 91 dx) ∈ _)).2 (all_mk (N _ (by k_mem : (y, instObj 189 dy) ∈ _)).2 (all_mk (N _ (by k_mem : (ai, W.listOf ws.toArray na) ∈ _)).2 (all_mk (N _ (by k_mem : (cF, oF) ∈ _)).2 (fun _ h => nomatch h)))))))))), hF, hsys⟩
  obtain ⟨n, rfl⟩ := Int.eq_ofNat_of_zero_le (show 0 ≤ hi by omega)
  have gb : s.heap.get? b = some (W.listOf #[.ref ai, .int c ti] nb) := (N (b, W.listOf #[.ref ai, .int c ti] nb) (by k_mem)).1
  have gdx : s.heap.get? dx = some (cryD w.params kc t1 t2 lim 0 lw) := (N (dx, cryD w.params kc t1 t2 lim 0 lw) (by k_mem)).1
  have gdy : s.heap.get? dy = some (recD w.params kr u1 u2 u3 lim lp 0 0) := (N (dy, recD w.params kr u1 u2 u3 lim lp 0 0) (by k_mem)).1
  have gdf : s.heap.get? df = some oD := (N (df, oD) (by k_mem)).1
  have gcO : s.heap.get? cO = some oO := (N (cO, oO) (by k_mem)).1
  have gcM : s.heap.get? cM = some oM := (N (cM, oM) (by k_mem)).1
  have glw : s.heap.get? lw = some (W.listOf (List.toArray []) nw) := (N (lw, W.listOf #[] nw) (by k_mem)).1
  have glp : s.heap.get? lp = some (W.listOf (List.toArray []) np) := (N (lp, W.listOf #[] np) (by k_mem)).1
  have P0 : PcsIn (AtH s.heap) [] [] := .nil
  obtain ⟨ta, Na, pa, la, qa⟩ := list_tailP F glw P0
  obtain ⟨tb, Nb, pb, lb, qb⟩ := list_tailP F glp P0
  have Nt : News g env.locals s.heap (ta ++ tb) := led_app Na Nb
  have pt := pa.append pb
  have mono1 : ∀ a o, inG g ta a o → inG g (ta ++ tb) a o := fun a o => Or.imp id (List.mem_append_left _)
  have mono2 : ∀ a o, inG g tb a o → inG g (ta ++ tb) a o := fun a o => Or.imp id (List.mem_append_right _)
  have at' : ∀ q ∈ ta ++ tb, s.heap.get? q.1 = some q.2 := fun q hq => (Nt q hq).1
  have off : ∀ {d : Addr} {o : Obj}, s.heap.get? d = some o → (o.cls == Value.type "tuple" || o.cls == Value.type "list") = false → ∀ q ∈ ta ++ tb, q.1 ≠ d := fun hd hc => pc_off at' hd hc pt
  refine law_loop (C := ⟨b, ai, xx, dx, y, dy, df, cO, cM, cF, nb, na, ws, kc, kr, lim, tlim, oF⟩) (S0 := ⟨lw, lp, [], [], nw, np, c, ti, t1, t2, u1, u2, u3, 0, lim, 0, oD, oO, oM, vO, vM, [], [], fun _ => none, [], #[], tw, ta ++ tb⟩) hr rfl (by omega) hh F (nw_put N (by k_mem) (nw_put N (by k_mem) (nw_put N (by k_mem) (nw_put N (by k_mem) (nw_put N (by k_mem) (nw_put N (by k_mem) (nw_put N (by k_mem) (nw_put N (by k_mem) (nw_put N (by k_mem) (nw_put N (by k_mem) Nt))))))))))
    ⟨n1, n2, n3, n4, n5, hc.1, by show c ≤ 3 * ((0 : Nat) : Int) + 2; omega, mono1 _ _ la, mono2 _ _ lb, qa.mono mono1, qb.mono mono2, pt, hD, .nil, fun k => rfl, Nat.le_refl _, hO, hM, by show lim ≤ 0 + lim; omega, Int.le_refl _, ⟨rfl, by simp, Nat.le_refl _, (fun _ h => nomatch h), List.Pairwise.nil, fun k => ?_⟩, pc_offB at' gb (fun a (z : Value.int c ti = Value.ref a) => by cases z) pt, off gdx rfl, off gdy rfl, off gdf (by rw [dict_cls hD]; decide), pc_offC at' gcO hO pt, pc_offC at' gcM hM pt⟩
    (fun i t S m₁ h tk it o hi ok ho ha hq F₁ N₁ => turn _ i t S m₁ h tk it o St rfl rfl rfl (by have := hhi.2; omega) ok ho ha hq F₁ N₁) (fun S m₁ h tk ok F₁ N₁ => done _ _ S m₁ h tk St rfl rfl rfl (by have := hhi.2; omega) ok F₁ N₁)
  show none = _
  rw [if_neg (fun h : 0 ≤ k ∧ k < 0 => by omega)]
  rfl
end
-- 86_callsL
section
variable {prog : Program} {w : World} {A : Around} {E : Value → Shared → Prop} {s : Shared} {g : Heap} {L : Addr} {m : Str → Option Value} {news : List (Addr × Obj)} {G : Obj → List (Addr × Obj)} {p : Program} {loose : List Str} {mg mb : Str → Option Value} {envL : Env}
   {x dx lw : Addr} {kc : Tok × Tok × Tok} {k : K8} {t1 t2 t3 t t' : Tok} {limit told rd high off : Int} {Q : Value → Shared → Prop} {vs : List Value} {ps : List (Int × Array UInt8)} {nl : Nat} {data : Array UInt8}
theorem base_hidL {oL : Obj} {muts : List (Addr × Obj)} (F : Fr g L s.heap m) (N : News g L s.heap news) (hs : ∀ q ∈ muts, q ∈ news) : ∀ b ob, g.get? b = some ob → (hid s.heap ((L, oL) :: muts)).get? b = some ob := fun b ob e =>
  hid_get (F.keep b ob e) fun q hq he => by
    rcases List.mem_cons.mp hq with rfl | hq
    · have := Heap.lt_size e
      rw [← he] at this
      exact absurd this (Nat.not_lt.mpr F.above)
    · have := (N q (hs q hq)).2.2
      rw [he, e] at this; cases this
theorem two_of {o o' : Obj} (hx : (x, o) ∈ news) (hd : (dx, o') ∈ news) : ∀ q ∈ [(x, o), (dx, o')], q ∈ news := fun q hq => by
  rcases List.mem_cons.mp hq with rfl | hq
  · exact hx
  · rw [List.mem_singleton.mp hq]; exact hd
theorem no_back {h' : Heap} (F : Fr g L s.heap m) (N : News g L s.heap news) (hall : ∀ b o, b ≠ L → s.heap.get? b = some o → h'.get? b = some o) (us : s.heap.UpToSlots h') : Fr g L h' m ∧ News g L h' news :=
  ⟨F.of_stays (fun b o q => hall b o (Nat.ne_of_lt (Nat.lt_of_lt_of_le (Heap.lt_size q) F.above)) (F.keep b o q)) us, fun q hq => ⟨hall _ _ (N q hq).2.1 (N q hq).1, (N q hq).2⟩⟩
theorem by_one_no_L (hh : A.handled = none) (hfr : A.frames = some [envL]) (hfL : envL.frame = some L) (hkL : envL.scope.kind ≠ .module) (hroom : A.depth < 860) (F : Fr g L s.heap m) (N : News g L s.heap news) (X : (hd.heap_39 w.params).In g) (T : TopRead p loose mg mb g)
    (hx : (x, instObj 91 dx) ∈ news) (hd : (dx, cryD w.params kc t1 t2 limit told lw) ∈ news) (hd1 : data.size ≤ 1000) (hlet : told + limit < off + data.size)
    (h : ∀ h' tk t, Fr g L h' m → News g L h' news → Q (.int 13 t) { s with heap := h', toks := tk }) : wpAny (model prog w) A (call (.ref 207) [.ref x, .int off t, .bytes data t']) Q E s := by
  obtain ⟨hd', d, fr, gs, u⟩ := A
  cases hh; cases hfr
  obtain ⟨oL, hLo, hLd⟩ := ns_obj F
  refine wpAny_call (by_one_no hfL hkL hLo hLd (fun e => (N _ hx).2.1 e.symm) (fun e => (N _ hd).2.1 e.symm) (N.get hx) (N.get hd) (X.keeps (base_hidL F N (two_of hx hd))) (T.keeps (base_hidL F N (two_of hx hd))) (Nat.lt_of_lt_of_le hroom (by decide)) hd1 hlet fun h' tk t hall us => ?_)
  obtain ⟨F', N'⟩ := no_back F N hall us
  exact h h' tk t F' N'
theorem by_other_no_L (hh : A.handled = none) (hfr : A.frames = some [envL]) (hfL : envL.frame = some L) (hkL : envL.scope.kind ≠ .module) (hroom : A.depth < 860) (F : Fr g L s.heap m) (N : News g L s.heap news) (X : (hd.heap_39 w.params).In g) (T : TopRead p loose mg mb g)
    (hx : (x, instObj 189 dx) ∈ news) (hd : (dx, recD w.params k t1 t2 t3 limit lw rd high) ∈ news) (hd1 : data.size ≤ 1000) (hlet : limit < off + data.size)
    (h : ∀ h' tk t, Fr g L h' m → News g L h' news → Q (.int 3 t) { s with heap := h', toks := tk }) : wpAny (model prog w) A (call (.ref 214) [.ref x, .int off t, .bytes data t']) Q E s := by
  obtain ⟨hd', d, fr, gs, u⟩ := A
  cases hh; cases hfr
  obtain ⟨oL, hLo, hLd⟩ := ns_obj F
  refine wpAny_call (by_other_no hfL hkL hLo hLd (fun e => (N _ hx).2.1 e.symm) (fun e => (N _ hd).2.1 e.symm) (N.get hx) (N.get hd) (X.keeps (base_hidL F N (two_of hx hd))) (T.keeps (base_hidL F N (two_of hx hd))) hroom hd1 hlet fun h' tk t hall us => ?_)
  obtain ⟨F', N'⟩ := no_back F N hall us
  exact h h' tk t F' N'
theorem by_one_L (hh : A.handled = none) (hroom : A.depth < 930) (F : Fr g L s.heap m) (N : News g L s.heap news) (X : (hd.heap_39 w.params).In g) (T : TopRead p loose mg mb g)
    (hx : (x, instObj 91 dx) ∈ news) (U : UpdF dx (cryD w.params kc t1 t2 limit told lw) news G) (hl : s.heap.get? lw = some (W.listOf vs.toArray nl)) (hp : PcsIn (AtH s.heap) vs ps)
    (hd1 : data.size ≤ 1000) (hlet : off + data.size ≤ told + limit) (ok : PcsOk told ps off data)
    (h : ∀ h' tk ft t1' t2' lw' vs' n', (∀ b o, b ≠ dx → s.heap.get? b = some o → h'.get? b = some o) → Fr g L h' m → News g L h' (G (cryD w.params kc t1' t2' limit (arrF told ps off data).2.1 lw')) → h'.get? lw' = some (W.listOf (List.toArray vs') n') → PcsIn (AtH h') vs' (arrF told ps off data).2.2 →
      Q (.bytes (arrF told ps off data).1 ft) { s with heap := h', toks := tk }) : wpAny (model prog w) A (call (.ref 207) [.ref x, .int off t, .bytes data t']) Q E s := by
  obtain ⟨hd', d, fr, gs, u⟩ := A
  cases hh
  refine wpAny_call (by_one_let (N.get hx) (N.get (updF_mem U)) hl hp (in_hid F N X (two_in hx U)) (top_hid F N T (two_in hx U)) hroom hd1 hlet ok fun h' tk ft t1' t2' lw' vs' n' hk hd' hl' hp' => ?_)
  obtain ⟨F', N'⟩ := led_step F N U hk hd'
  exact h h' tk ft t1' t2' lw' vs' n' hk F' N' hl' hp'
theorem by_other_L (hh : A.handled = none) (hroom : A.depth < 930) (F : Fr g L s.heap m) (N : News g L s.heap news) (X : (hd.heap_39 w.params).In g) (T : TopRead p loose mg mb g)
    (hx : (x, instObj 189 dx) ∈ news) (U : UpdF dx (recD w.params k t1 t2 t3 limit lw rd high) news G) (hl : s.heap.get? lw = some (W.listOf vs.toArray nl)) (hp : PcsIn (AtH s.heap) vs ps)
    (hd1 : data.size ≤ 1000) (hlet : off + data.size ≤ limit) (ok : PcsOk rd ps off data) (hst : ∀ q ∈ strF rd ps off data, q.2.size ≤ 1000) (hsl : (strF rd ps off data).length ≤ 1000) (hfz : ((strF rd ps off data).foldl (takeStep rd) (#[], [])).1.size ≤ 99)
    (h : ∀ h' tk ft t2' t3' lw' vs' n', (∀ b o, b ≠ dx → s.heap.get? b = some o → h'.get? b = some o) → Fr g L h' m → News g L h' (G (recD w.params k t1 t2' t3' limit lw' (rd + ((strF rd ps off data).foldl (takeStep rd) (#[], [])).1.size) (max high (off + data.size)))) →
      h'.get? lw' = some (W.listOf (List.toArray vs') n') → PcsIn (AtH h') vs' ((strF rd ps off data).foldl (takeStep rd) (#[], [])).2 → Q (.bytes ((strF rd ps off data).foldl (takeStep rd) (#[], [])).1 ft) { s with heap := h', toks := tk }) :
    wpAny (model prog w) A (call (.ref 214) [.ref x, .int off t, .bytes data t']) Q E s := by
  obtain ⟨hd', d, fr, gs, u⟩ := A
  cases hh
  refine wpAny_call (by_other_let (N.get hx) (N.get (updF_mem U)) hl hp (in_hid F N X (two_in hx U)) (top_hid F N T (two_in hx U)) hroom hd1 hlet ok hst hsl hfz fun h' tk ft t2' t3' lw' vs' n' hk hd' hl' hp' => ?_)
  obtain ⟨F', N'⟩ := led_step F N U hk hd'
  exact h h' tk ft t2' t3' lw' vs' n' hk F' N' hl' hp'
theorem by_one_LN (hh : A.handled = none) (hfr : A.frames = some [envL]) (hfL : envL.frame = some L) (hkL : envL.scope.kind ≠ .module) (hroom : A.depth < 850) (F : Fr g L s.heap m) (N : News g L s.heap news) (X : (hd.heap_39 w.params).In g) (T : TopRead p loose mg mb g)
    (hx : (x, instObj 91 dx) ∈ news) (U : UpdF dx (cryD w.params kc t1 t2 limit told lw) news G) (hl : s.heap.get? lw = some (W.listOf vs.toArray nl)) (hp : PcsIn (AtH s.heap) vs ps) (hd1 : data.size ≤ 1000) (ok : PcsOk told ps off data)
    (hlet : off + data.size ≤ told + limit → ∀ h' tk ft t1' t2' lw' vs' n', (∀ b o, b ≠ dx → s.heap.get? b = some o → h'.get? b = some o) → Fr g L h' m → News g L h' (G (cryD w.params kc t1' t2' limit (arrF told ps off data).2.1 lw')) → h'.get? lw' = some (W.listOf (List.toArray vs') n') → PcsIn (AtH h') vs' (arrF told ps off data).2.2 →
      Q (.bytes (arrF told ps off data).1 ft) { s with heap := h', toks := tk })
    (hno : told + limit < off + data.size → ∀ h' tk t, Fr g L h' m → News g L h' news → Q (.int 13 t) { s with heap := h', toks := tk }) : wpAny (model prog w) A (call (.ref 207) [.ref x, .int off t, .bytes data t']) Q E s := by
  by_cases c : off + data.size ≤ told + limit
  · exact by_one_L hh (Nat.lt_of_lt_of_le hroom (by decide)) F N X T hx U hl hp hd1 c ok (hlet c)
  · exact by_one_no_L hh hfr hfL hkL (Nat.lt_of_lt_of_le hroom (by decide)) F N X T hx (updF_mem U) hd1 (by omega) (hno (by omega))
end
-- 86a_new
section
variable {prog : Program} {w : World} {d u : Nat} {fr : Option (List Env)} {gs : Option (List Code)} {s : Shared} {R : Result → Shared → Prop} {p : Program} {loose : List Str} {mg mb : Str → Option Value} {x dx : Addr} {lim : Int} {t : Tok}
theorem hid_two_none {h : Heap} {x dx b : Addr} {o o' : Obj} (e : (hid h [(x, o), (dx, o')]).get? b = none) (hx : @Ne Nat x b) (hd : @Ne Nat dx b) : h.get? b = none := by
  cases q : h.get? b with
  | none => rfl
  | some ob =>
    have := hid_get (muts := [(x, o), (dx, o')]) q (all_mk hx (all_mk hd (fun _ h => nomatch h)))
    rw [e] at this; cases this
theorem cry_init_code (hx : s.heap.get? x = some (instObj 91 dx)) (hdx : s.heap.get? dx = some (dictOf [] 0))
   (X : (hd.heap_39 w.params).In (hid s.heap [(x, instObj 91 dx), (dx, dictOf [] 0)])) (T : TopRead p loose mg mb (hid s.heap [(x, instObj 91 dx), (dx, dictOf [] 0)])) (hxd : @Ne Nat x dx) (hroom : d < 950)
   (hR : ∀ h' tk k1 k2 k3 t1 t2 lw, (∀ b o, b ≠ dx → s.heap.get? b = some o → h'.get? b = some o) → h'.get? dx = some (cryD w.params (k1, k2, k3) t1 t2 lim 0 lw) → s.heap.get? lw = none → h'.get? lw = some (W.listOf #[] 0) → R (.ok (.ret .none)) { s with heap := h', toks := tk }) :
   codeAny (model prog w) ⟨none, d, fr, gs, u⟩ (.call (.ref 74) ⟨[.ref x, .int lim t], []⟩) R s := by
  refine' enter (K := hd.heap_39 w.params) (muts := [(x, instObj 91 dx), (dx, dictOf [] 0)]) (two_news hx hdx) X T ?ho ?hcd (by rw [rec_is]; exact Nat.lt_of_lt_of_le hroom (by decide)) ?hbind ?hloc ?h ?hcell ?hco ?hgen ?hk
  walk_at "my enter"
  intro g L' h₁ tk hg hL F N X T hlt
  show wpAny _ _ _ _ _ _
  k_fold
  repeat' walk1
  rename Fr _ _ _ _ => F
  rename News _ _ _ _ => N
  rename (_ ∧ _) => l1
  have h1 := N _ (.head _)
  refine hR _ _ _ _ _ _ _ _ (keep_two hg hx F (N _ (.tail _ (.head _))).1) (N _ (.tail _ (.tail _ (.head _)))).1 (hid_two_none (by rw [← hg]; exact h1.2.2) (Nat.ne_of_lt l1.1) (Nat.ne_of_lt l1.2)) h1.1
theorem rec_init_code (hx : s.heap.get? x = some (instObj 189 dx)) (hdx : s.heap.get? dx = some (dictOf [] 0))
   (X : (hd.heap_39 w.params).In (hid s.heap [(x, instObj 189 dx), (dx, dictOf [] 0)])) (T : TopRead p loose mg mb (hid s.heap [(x, instObj 189 dx), (dx, dictOf [] 0)])) (hxd : @Ne Nat x dx) (hroom : d < 950)
   (hR : ∀ h' tk k1 k2 k3 k4 k5 k6 k7 k8 t1 t2 t3 lw, (∀ b o, b ≠ dx → s.heap.get? b = some o → h'.get? b = some o) → h'.get? dx = some (recD w.params (k1, k2, k3, k4, k5, k6, k7, k8) t1 t2 t3 lim lw 0 0) → s.heap.get? lw = none → h'.get? lw = some (W.listOf #[] 0) → R (.ok (.ret .none)) { s with heap := h', toks := tk }) :
   codeAny (model prog w) ⟨none, d, fr, gs, u⟩ (.call (.ref 116) ⟨[.ref x, .int lim t], []⟩) R s := by
  refine' enter (K := hd.heap_39 w.params) (muts := [(x, instObj 189 dx), (dx, dictOf [] 0)]) (two_news hx hdx) X T ?ho ?hcd (by rw [rec_is]; exact Nat.lt_of_lt_of_le hroom (by decide)) ?hbind ?hloc ?h ?hcell ?hco ?hgen ?hk
  walk_at "my enter"
  intro g L' h₁ tk hg hL F N X T hlt
  show wpAny _ _ _ _ _ _
  k_fold
  repeat' walk1
  rename Fr _ _ _ _ => F
  rename News _ _ _ _ => N
  rename (_ ∧ _) => l1
  have h1 := N _ (.head _)
  refine hR _ _ _ _ _ _ _ _ _ _ _ _ _ _ (keep_two hg hx F (N _ (.tail _ (.head _))).1) (N _ (.tail _ (.tail _ (.head _)))).1 (hid_two_none (by rw [← hg]; exact h1.2.2) (Nat.ne_of_lt l1.1) (Nat.ne_of_lt l1.2)) h1.1
end
section
variable {prog : Program} {w : World} {A : Around} {E : Value → Shared → Prop} {s : Shared} {g : Heap} {L : Addr} {m : Str → Option Value} {news : List (Addr × Obj)} {p : Program} {loose : List Str} {mg mb : Str → Option Value} {lim : Int} {t : Tok} {Q : Value → Shared → Prop}
theorem new_step {h h' : Heap} {C x dx lw : Addr} {oD : Obj} (F : Fr g L h m) (N : News g L h ((x, instObj C dx) :: (dx, dictOf [] 0) :: news)) (hk : ∀ b o, b ≠ dx → h.get? b = some o → h'.get? b = some o) (hd : h'.get? dx = some oD) (hn : h.get? lw = none) (hl : h'.get? lw = some (W.listOf #[] 0))
    (hne : ∀ q ∈ news, q.1 ≠ dx) (hxd : x ≠ dx) : Fr g L h' m ∧ News g L h' ((lw, W.listOf #[] 0) :: (x, instObj C dx) :: (dx, oD) :: news) ∧ (∀ q ∈ (x, instObj C dx) :: (dx, oD) :: news, q.1 ≠ lw) := by
  obtain ⟨F', N'⟩ := led_step F N (UpdF.tail hxd (UpdF.head hne)) hk hd
  have hlt : ∀ q ∈ (x, instObj C dx) :: (dx, dictOf [] 0) :: news, q.1 ≠ lw := fun q hq e => by
    have := (N q hq).1; rw [e, hn] at this; cases this
  refine ⟨F', nw_mk hl ⟨fun e => ?_, ?_⟩ N', all_mk (hlt _ (.head _)) (all_mk (hlt (dx, dictOf [] 0) (.tail _ (.head _))) fun q hq => hlt q (.tail _ (.tail _ hq)))⟩
  · obtain ⟨oL, _, _, hL, _⟩ := F.ns
    rw [← e] at hL
    have hL' : h.get? lw = some oL := hL
    rw [hn] at hL'; cases hL'
  · cases q : g.get? lw with
    | none => rfl
    | some ob => have := F.keep _ _ q; rw [hn] at this; cases this
theorem cry_new_L (hh : A.handled = none) (hroom : A.depth < 900) (F : Fr g L s.heap m) (N : News g L s.heap news) (X : (hd.heap_39 w.params).In g) (T : TopRead p loose mg mb g)
    (h : ∀ h' tk x dx lw k1 k2 k3 t1 t2, Fr g L h' m → News g L h' ((lw, W.listOf #[] 0) :: (x, instObj 91 dx) :: (dx, cryD w.params (k1, k2, k3) t1 t2 lim 0 lw) :: news) → (∀ q ∈ news, q.1 < dx) → dx < x → (∀ q ∈ (x, instObj 91 dx) :: (dx, cryD w.params (k1, k2, k3) t1 t2 lim 0 lw) :: news, q.1 ≠ lw) → Q (.ref x) { s with heap := h', toks := tk }) :
    wpAny (model prog w) A (call (.ref 91) [.int lim t]) Q E s := by
  obtain ⟨hd', d, fr, gs, u⟩ := A
  cases hh
  refine call_cls (K := hd.heap_39 w.params) (fI := 74) F X N (by k_is) (by k_is) (by k_is) fun x dx h' F' N' l1 l2 => ?_
  have hs : ∀ q ∈ [(x, instObj 91 dx), (dx, dictOf [] 0)], q ∈ (x, instObj 91 dx) :: (dx, dictOf [] 0) :: news := all_mk (.head _) (all_mk (.tail _ (.head _)) (fun _ h => nomatch h))
  refine cry_init_code (s := { s with heap := h' }) (N' _ (.head _)).1 (N' _ (.tail _ (.head _))).1 (in_hid F' N' X hs) (top_hid F' N' T hs) (Nat.ne_of_gt l2) (Nat.lt_of_lt_of_le (Nat.succ_lt_succ hroom) (by decide)) fun h2 tk k1 k2 k3 t1 t2 lw hk hd hn hl => ?_
  obtain ⟨a, b, c⟩ := new_step F' N' hk hd hn hl (fun q hq => Nat.ne_of_lt (l1 q hq)) (Nat.ne_of_gt l2)
  exact ⟨rfl, h h2 tk x dx lw k1 k2 k3 t1 t2 a b l1 l2 c⟩
theorem rec_new_L (hh : A.handled = none) (hroom : A.depth < 900) (F : Fr g L s.heap m) (N : News g L s.heap news) (X : (hd.heap_39 w.params).In g) (T : TopRead p loose mg mb g)
    (h : ∀ h' tk x dx lw k1 k2 k3 k4 k5 k6 k7 k8 t1 t2 t3, Fr g L h' m → News g L h' ((lw, W.listOf #[] 0) :: (x, instObj 189 dx) :: (dx, recD w.params (k1, k2, k3, k4, k5, k6, k7, k8) t1 t2 t3 lim lw 0 0) :: news) → (∀ q ∈ news, q.1 < dx) → dx < x → (∀ q ∈ (x, instObj 189 dx) :: (dx, recD w.params (k1, k2, k3, k4, k5, k6, k7, k8) t1 t2 t3 lim lw 0 0) :: news, q.1 ≠ lw) → Q (.ref x) { s with heap := h', toks := tk }) :
    wpAny (model prog w) A (call (.ref 189) [.int lim t]) Q E s := by
  obtain ⟨hd', d, fr, gs, u⟩ := A
  cases hh
  refine call_cls (K := hd.heap_39 w.params) (fI := 116) F X N (by k_is) (by k_is) (by k_is) fun x dx h' F' N' l1 l2 => ?_
  have hs : ∀ q ∈ [(x, instObj 189 dx), (dx, dictOf [] 0)], q ∈ (x, instObj 189 dx) :: (dx, dictOf [] 0) :: news := all_mk (.head _) (all_mk (.tail _ (.head _)) (fun _ h => nomatch h))
  refine rec_init_code (s := { s with heap := h' }) (N' _ (.head _)).1 (N' _ (.tail _ (.head _))).1 (in_hid F' N' X hs) (top_hid F' N' T hs) (Nat.ne_of_gt l2) (Nat.lt_of_lt_of_le (Nat.succ_lt_succ hroom) (by decide)) fun h2 tk k1 k2 k3 k4 k5 k6 k7 k8 t1 t2 t3 lw hk hd hn hl => ?_
  obtain ⟨a, b, c⟩ := new_step F' N' hk hd hn hl (fun q hq => Nat.ne_of_lt (l1 q hq)) (Nat.ne_of_gt l2)
  exact ⟨rfl, h h2 tk x dx lw k1 k2 k3 k4 k5 k6 k7 k8 t1 t2 t3 a b l1 l2 c⟩
end
-- 87_plain
noncomputable def fillF (f : Int → Option Int) (off : Int) (data : Array UInt8) (j : Nat) (k : Int) : Option Int := match f k with
  | some v => some v
  | none => if off ≤ k ∧ k < off + j then (data[(k - off).toNat]?).map fun c => (c.toNat : Int) else none
/-- what one piece holds at a place -/
noncomputable def rdP (q : Int × Array UInt8) (k : Int) : Option Int := if q.1 ≤ k ∧ k < q.1 + q.2.size then (q.2[(k - q.1).toNat]?).map fun c => (c.toNat : Int) else none
theorem rdP_lt {q : Int × Array UInt8} {k : Int} (h : k < q.1) : rdP q k = none := by
  unfold rdP; rw [if_neg (by omega)]
theorem rdP_ge {q : Int × Array UInt8} {k : Int} (h : q.1 + q.2.size ≤ k) : rdP q k = none := by
  unfold rdP; rw [if_neg (by omega)]
theorem rdP_le {q : Int × Array UInt8} {k : Int} (h : q.1 ≤ k) : rdP q k = (q.2.toList[(k - q.1).toNat]?).map fun c => (c.toNat : Int) := by
  unfold rdP
  by_cases e : k < q.1 + q.2.size
  · rw [if_pos ⟨h, e⟩, Array.getElem?_toList]
  · rw [if_neg (by omega), List.getElem?_eq_none (by simp; omega)]; rfl
theorem rdP_nil {b k : Int} {d : Array UInt8} (h : d.size = 0) : rdP (b, d) k = none := by
  unfold rdP; rw [if_neg (by dsimp only; omega)]
theorem pcAt_nil {k : Int} : pcAt [] k = none := rfl
theorem pcAt_cons {q : Int × Array UInt8} {l : List (Int × Array UInt8)} {k : Int} : pcAt (q :: l) k = (rdP q k).or (pcAt l k) := by
  have e : ∀ l, pcAt l k = l.findSome? fun q => rdP q k := fun l => rfl
  rw [e, e, List.findSome?_cons]
  cases rdP q k <;> rfl
theorem pcAt_append {a l : List (Int × Array UInt8)} {k : Int} : pcAt (a ++ l) k = (pcAt a k).or (pcAt l k) := by
  induction a with
  | nil => rw [List.nil_append, pcAt_nil, Option.none_or]
  | cons q a ih => rw [List.cons_append, pcAt_cons, pcAt_cons, ih, Option.or_assoc]
theorem pcAt_none {l : List (Int × Array UInt8)} {k : Int} (h : ∀ q ∈ l, rdP q k = none) : pcAt l k = none := by
  induction l with
  | nil => rfl
  | cons q l ih => rw [pcAt_cons, h q (.head _), Option.none_or]; exact ih fun q hq => h q (.tail _ hq)
noncomputable abbrev Gap (x y : Int × Array UInt8) : Prop := x.1 + (x.2.size : Int) < y.1
/-- two pieces that touch, as one -/
noncomputable def joinP (b : Int) (j : Array UInt8) (q : Int × Array UInt8) : Int × Array UInt8 :=
  (min b q.1, KBy.picked j none (some (max 0 (q.1 - b))) ++ q.2 ++ KBy.picked j (some (q.1 + q.2.size - b)) none)
theorem rdP_at {b : Int} {j : Array UInt8} (n : Nat) : rdP (b, j) (b + n) = (j.toList[n]?).map fun c => (c.toNat : Int) := by
  rw [rdP_le (q := (b, j)) (by show b ≤ b + n; omega)]
  have : (b + (n : Int) - b).toNat = n := by omega
  show (j.toList[(b + (n : Int) - b).toNat]?).map _ = _
  rw [this]
theorem join_right {b : Int} {j o : Array UInt8} {a : Nat} : (joinP b j (b + a, o)).1 = b ∧ (joinP b j (b + a, o)).2.toList = j.toList.take a ++ o.toList ++ j.toList.drop (a + o.size) := by
  unfold joinP
  have e1 : max 0 (b + (a : Int) - b) = (a : Int) := by omega
  have e2 : b + (a : Int) + (o.size : Int) - b = ((a + o.size : Nat) : Int) := by omega
  refine ⟨Int.min_eq_left (by dsimp only; omega), ?_⟩
  dsimp only
  rw [e1, e2, Array.toList_append, Array.toList_append, picked_to (by omega), picked_from (by omega), Int.toNat_natCast, Int.toNat_natCast]
theorem join_left {s : Int} {j o : Array UInt8} {c e : Nat} (h : o.size = c + e) : (joinP (s + c) j (s, o)).1 = s ∧ (joinP (s + c) j (s, o)).2.toList = o.toList ++ j.toList.drop e := by
  unfold joinP
  have e1 : max 0 (s - (s + (c : Int))) = 0 := by omega
  have e2 : s + (o.size : Int) - (s + c) = (e : Int) := by omega
  refine ⟨Int.min_eq_right (by dsimp only; omega), ?_⟩
  dsimp only
  rw [e1, e2, Array.toList_append, Array.toList_append, picked_to (by omega), picked_from (by omega), Int.toNat_natCast]
  rfl
theorem touch_split {b : Int} {q : Int × Array UInt8} (h1 : b ≤ q.1 + q.2.size) : (∃ a : Nat, q.1 = b + a) ∨ ∃ c e : Nat, b = q.1 + c ∧ q.2.size = c + e := by
  rcases Int.le_total b q.1 with h | h
  · obtain ⟨n, e⟩ := Int.le.dest h
    exact .inl ⟨n, e.symm⟩
  · obtain ⟨c, e⟩ := Int.le.dest h
    rw [← e] at h1
    obtain ⟨e', he⟩ := Nat.exists_eq_add_of_le (Int.ofNat_le.mp (Int.le_of_add_le_add_left h1))
    exact .inr ⟨c, e', e.symm, he⟩
theorem size_r {b : Int} {a j o : Nat} (h : a ≤ j) : b + ((min a j + o + (j - (a + o)) : Nat) : Int) = max (b + j) (b + a + o) := by
  rw [Nat.min_eq_left h]
  by_cases c : a + o ≤ j
  · obtain ⟨k, rfl⟩ := Nat.exists_eq_add_of_le c
    rw [Nat.add_sub_cancel_left, Int.max_eq_left (by omega)]
  · rw [Nat.sub_eq_zero_of_le (by omega), Int.max_eq_right (by omega)]; omega
theorem size_l {s : Int} {c e j : Nat} : s + ((c + e + (j - e) : Nat) : Int) = max (s + c + j) (s + ((c + e : Nat) : Int)) := by
  by_cases h : e ≤ j
  · obtain ⟨k, rfl⟩ := Nat.exists_eq_add_of_le h
    rw [Nat.add_sub_cancel_left, Int.max_eq_left (by omega)]; omega
  · rw [Nat.sub_eq_zero_of_le (by omega), Int.max_eq_right (by omega), Nat.add_zero]
theorem toNat_cut {a b k : Int} (h : a ≤ b) (h' : b ≤ k) : (b - a).toNat + (k - b).toNat = (k - a).toNat := by
  obtain ⟨m, rfl⟩ := Int.le.dest h
  obtain ⟨n, rfl⟩ := Int.le.dest h'
  have e1 : a + (m : Int) - a = m := by omega
  have e2 : a + (m : Int) + n - (a + m) = n := by omega
  have e3 : a + (m : Int) + n - a = ((m + n : Nat) : Int) := by omega
  rw [e1, e2, e3]; rfl
theorem join_size {b : Int} {j : Array UInt8} {q : Int × Array UInt8} (h1 : b ≤ q.1 + q.2.size) (h2 : q.1 ≤ b + j.size) :
    (joinP b j q).1 + (joinP b j q).2.size = max (b + j.size) (q.1 + q.2.size) := by
  obtain ⟨s, o⟩ := q
  rcases touch_split h1 with ⟨a, e⟩ | ⟨c, e, rfl, he⟩
  · dsimp only at e
    subst e
    obtain ⟨e1, e2⟩ := join_right (b := b) (j := j) (o := o) (a := a)
    have e3 := congrArg List.length e2
    simp only [List.length_append, List.length_take, List.length_drop, Array.length_toList] at e3
    dsimp only at h2 ⊢
    rw [e1, e3]
    exact size_r (by omega)
  · obtain ⟨e1, e2⟩ := join_left (s := s) (j := j) he
    have e3 := congrArg List.length e2
    simp only [List.length_append, List.length_drop, Array.length_toList] at e3
    dsimp only at he ⊢
    rw [e1, e3, he]
    exact size_l
theorem join_rd {b : Int} {j : Array UInt8} {q : Int × Array UInt8} (h1 : b ≤ q.1 + q.2.size) (h2 : q.1 ≤ b + j.size) (k : Int) :
    rdP (joinP b j q) k = (rdP q k).or (rdP (b, j) k) := by
  obtain ⟨s, o⟩ := q
  rcases touch_split h1 with ⟨a, e⟩ | ⟨c, e, rfl, he⟩
  · dsimp only at e
    subst e
    dsimp only at h2 ⊢
    obtain ⟨e1, e2⟩ := join_right (b := b) (j := j) (o := o) (a := a)
    have ha : a ≤ j.toList.length := by rw [Array.length_toList]; omega
    generalize joinP b j (b + a, o) = J at e1 e2 ⊢
    obtain ⟨J1, J2⟩ := J
    dsimp only at e1 e2
    subst e1
    by_cases c0 : k < J1
    · rw [rdP_lt c0, rdP_lt (by show k < J1 + a; omega), rdP_lt c0]; rfl
    obtain ⟨n, rfl⟩ := Int.le.dest (Int.not_lt.mp c0)
    clear c0 h1 h2
    rw [rdP_at, rdP_at, e2, List.append_assoc]
    have lt : (j.toList.take a).length = a := by rw [List.length_take]; exact Nat.min_eq_left ha
    by_cases c1 : n < a
    · rw [List.getElem?_append_left (by rw [lt]; exact c1), List.getElem?_take, if_pos c1, rdP_lt (by show J1 + (n : Int) < J1 + a; omega)]; rfl
    obtain ⟨m, rfl⟩ := Nat.exists_eq_add_of_le (Nat.le_of_not_lt c1)
    have e3 : J1 + ((a + m : Nat) : Int) = J1 + (a : Int) + (m : Int) := by omega
    rw [List.getElem?_append_right (by rw [lt]; exact Nat.le_add_right a m), lt, Nat.add_sub_cancel_left, e3, rdP_at]
    by_cases c2 : m < o.toList.length
    · rw [List.getElem?_append_left c2, List.getElem?_eq_getElem c2]; rfl
    · rw [List.getElem?_append_right (Nat.le_of_not_lt c2), List.getElem?_drop, List.getElem?_eq_none (Nat.le_of_not_lt c2)]
      have : a + o.size + (m - o.toList.length) = a + m := by rw [Array.length_toList] at c2 ⊢; omega
      rw [this]; rfl
  · dsimp only at he ⊢
    obtain ⟨e1, e2⟩ := join_left (s := s) (j := j) he
    generalize joinP (s + c) j (s, o) = J at e1 e2 ⊢
    obtain ⟨J1, J2⟩ := J
    dsimp only at e1 e2
    subst e1
    by_cases c0 : k < J1
    · rw [rdP_lt c0, rdP_lt c0, rdP_lt (by show k < J1 + c; omega)]; rfl
    obtain ⟨n, rfl⟩ := Int.le.dest (Int.not_lt.mp c0)
    clear c0 h1 h2
    rw [rdP_at, rdP_at, e2]
    by_cases c2 : n < o.toList.length
    · rw [List.getElem?_append_left c2, List.getElem?_eq_getElem c2]; rfl
    · rw [List.getElem?_append_right (Nat.le_of_not_lt c2), List.getElem?_drop, List.getElem?_eq_none (Nat.le_of_not_lt c2)]
      have e3 : J1 + (n : Int) = J1 + (c : Int) + ((e + (n - o.toList.length) : Nat) : Int) := by rw [Array.length_toList] at c2 ⊢; omega
      rw [e3, rdP_at]; rfl
/-- the walk over the pieces, as it goes -/
structure FI (lo hi : Int) (ps : List (Int × Array UInt8)) (st : List (Int × Array UInt8) × Int × Array UInt8) : Prop where
  gp : (st.1 ++ ps).Pairwise Gap
  pos : ∀ q ∈ st.1 ++ ps, 0 < q.2.size ∧ lo < q.1 ∧ q.1 + q.2.size ≤ hi
  jp : 0 < st.2.2.size
  sep : ∀ q ∈ st.1, q.1 + q.2.size < st.2.1 ∨ st.2.1 + st.2.2.size < q.1
  lob : lo ≤ st.2.1
  jz : st.2.2.size ≤ 5 ∨ st.2.1 + st.2.2.size ≤ hi + 5
theorem addStep_no {st : List (Int × Array UInt8) × Int × Array UInt8} {q : Int × Array UInt8} (h : q.1 + q.2.size < st.2.1 ∨ st.2.1 + st.2.2.size < q.1) : addStep st q = (st.1 ++ [q], st.2) := by
  unfold addStep; rw [if_pos h]
theorem addStep_yes {st : List (Int × Array UInt8) × Int × Array UInt8} {q : Int × Array UInt8} (h : ¬ (q.1 + q.2.size < st.2.1 ∨ st.2.1 + st.2.2.size < q.1)) : addStep st q = (st.1, joinP st.2.1 st.2.2 q) := by
  unfold addStep; rw [if_neg h]; rfl
theorem FI.step {lo hi : Int} {ps : List (Int × Array UInt8)} {q : Int × Array UInt8} {st : List (Int × Array UInt8) × Int × Array UInt8} (I : FI lo hi (q :: ps) st) :
    FI lo hi ps (addStep st q) ∧ (addStep st q).1.length ≤ st.1.length + 1 ∧ (∀ k (X : Option Int), X = none ∨ rdP q k = none → ((pcAt (addStep st q).1 k).or X).or (rdP (addStep st q).2 k) = ((pcAt st.1 k).or ((rdP q k).or X)).or (rdP st.2 k)) ∧
    (∀ M : Int, hi ≤ M → st.2.1 + st.2.2.size ≤ M → (addStep st q).2.1 + (addStep st q).2.2.size ≤ M) := by
  obtain ⟨gp, pos, jp, sep, lob, jz⟩ := I
  have hq := pos q (by simp)
  by_cases c : q.1 + q.2.size < st.2.1 ∨ st.2.1 + st.2.2.size < q.1
  · rw [addStep_no c]
    refine ⟨⟨by simpa using gp, by simpa using pos, jp, fun x hx => ?_, lob, jz⟩, by simp, fun k X _ => ?_, fun M _ h => h⟩
    · rcases List.mem_append.mp hx with hx | hx
      · exact sep x hx
      · rw [List.mem_singleton.mp hx]; exact c
    · dsimp only
      rw [pcAt_append, pcAt_cons, pcAt_nil, Option.or_none, Option.or_assoc (o₁ := pcAt st.1 k)]
  · rw [addStep_yes c]
    have hz := join_size (b := st.2.1) (j := st.2.2) (q := q) (by omega) (by omega)
    have hb : (joinP st.2.1 st.2.2 q).1 = min st.2.1 q.1 := rfl
    have gq : ∀ x ∈ st.1, Gap x q := fun x hx => (List.pairwise_append.mp gp).2.2 x hx q (.head _)
    have hfar : ∀ x ∈ st.1, x.1 + x.2.size < st.2.1 := fun x hx => by
      have h1 := gq x hx
      have h2 := (pos x (by simp [hx])).1
      unfold Gap at h1
      rcases sep x hx with h | h <;> omega
    refine ⟨⟨gp.sublist (by simp), fun x hx => pos x (by simp at hx ⊢; rcases hx with h | h <;> simp [h]), ?_, fun x hx => .inl ?_, ?_, ?_⟩, by simp, fun k X hX => ?_, fun M h1 h2 => ?_⟩
    · dsimp only; omega
    · have h1 := gq x hx
      have h2 := hfar x hx
      unfold Gap at h1
      dsimp only
      omega
    · dsimp only; omega
    · dsimp only; omega
    · dsimp only
      rw [join_rd (by omega) (by omega)]
      rcases hX with e | e
      · rw [e, Option.or_none, Option.or_none, Option.or_assoc (o₁ := pcAt st.1 k)]
      · rw [e, Option.none_or, Option.none_or]
    · dsimp only; omega
theorem FI.fold {lo hi : Int} : ∀ {ps : List (Int × Array UInt8)} {st : List (Int × Array UInt8) × Int × Array UInt8}, FI lo hi ps st →
    FI lo hi [] (ps.foldl addStep st) ∧ (ps.foldl addStep st).1.length ≤ st.1.length + ps.length ∧ (∀ k, (pcAt (ps.foldl addStep st).1 k).or (rdP (ps.foldl addStep st).2 k) = ((pcAt st.1 k).or (pcAt ps k)).or (rdP st.2 k)) ∧
    (∀ M : Int, hi ≤ M → st.2.1 + st.2.2.size ≤ M → (ps.foldl addStep st).2.1 + (ps.foldl addStep st).2.2.size ≤ M)
  | [], st, I => ⟨I, by simp, fun k => by rw [pcAt_nil, Option.or_none]; rfl, fun M _ h => h⟩
  | q :: ps, st, I => by
    obtain ⟨I1, l1, v1, m1⟩ := I.step
    obtain ⟨I2, l2, v2, m2⟩ := I1.fold
    refine ⟨I2, by rw [List.foldl_cons, List.length_cons]; omega, fun k => ?_, fun M h1 h2 => m2 M h1 (m1 M h1 h2)⟩
    rw [List.foldl_cons, v2 k, pcAt_cons]
    refine v1 k _ ?_
    by_cases c : k < q.1 + q.2.size
    · refine .inl (pcAt_none fun x hx => rdP_lt ?_)
      have := (List.pairwise_cons.mp (List.pairwise_append.mp I.gp).2.1).1 x hx
      unfold Gap at this
      omega
    · exact .inr (rdP_ge (by omega))
theorem ins_split {fs : List (Int × Array UInt8)} {b : Int × Array UInt8} (gp : fs.Pairwise Gap) (hb : 0 < b.2.size) (sep : ∀ q ∈ fs, q.1 + q.2.size < b.1 ∨ b.1 + b.2.size < q.1) :
    ∃ A B, fs = A ++ B ∧ insPc fs b = A ++ b :: B ∧ (∀ q ∈ A, q.1 + q.2.size < b.1) ∧ ∀ q ∈ B, b.1 + b.2.size < q.1 := by
  have hs : fs.Pairwise fun x y => x.1 < y.1 := gp.imp fun {x y} h => by unfold Gap at h; omega
  have hne : ∀ q ∈ fs, q.1 ≠ b.1 := fun q hq e => by rcases sep q hq with h | h <;> omega
  refine ⟨fs.take (placeOf fs b.1), fs.drop (placeOf fs b.1), (List.take_append_drop _ _).symm, rfl, fun q hq => ?_, fun q hq => ?_⟩
  · obtain ⟨i, hi⟩ := List.getElem?_of_mem hq
    rw [List.getElem?_take] at hi
    by_cases c : i < placeOf fs b.1
    · rw [if_pos c] at hi
      have := (place_lt hs hne hi).mpr c
      rcases sep q (List.mem_of_getElem? hi) with h | h
      · exact h
      · omega
    · rw [if_neg c] at hi; cases hi
  · obtain ⟨i, hi⟩ := List.getElem?_of_mem hq
    rw [List.getElem?_drop] at hi
    have := place_lt hs hne hi
    rcases sep q (List.mem_of_getElem? hi) with h | h
    · have := this.mp (by omega); omega
    · exact h
/-- what is known of the pieces after one more -/
structure AddOk (told hi : Int) (n : Nat) (ps : List (Int × Array UInt8)) (off : Int) (data : Array UInt8) (R : List (Int × Array UInt8)) : Prop where
  gp : R.Pairwise Gap
  pos : ∀ q ∈ R, 0 < q.2.size ∧ told ≤ q.1
  sz : ∀ q ∈ R, q.2.size ≤ (hi - told).toNat + 5
  len : R.length ≤ n + 1
  val : ∀ k, pcAt R k = (pcAt ps k).or (rdP (off, data) k)
  en : ∀ M : Int, hi ≤ M → off + data.size ≤ M → ∀ q ∈ R, q.1 + q.2.size ≤ M
theorem add_ok {told hi off : Int} {ps : List (Int × Array UInt8)} {data : Array UInt8} (hth : told ≤ hi) (gp : ps.Pairwise Gap) (pos : ∀ q ∈ ps, 0 < q.2.size ∧ told < q.1 ∧ q.1 + q.2.size ≤ hi) (ho : told ≤ off) (hd : data.size ≤ 5) :
    AddOk told hi ps.length ps off data (addPiece ps off data) ∧ (0 < data.size → (ps.foldl addStep ([], off, data)).1.Pairwise fun x y => x.1 < y.1) ∧ (0 < data.size → ∀ q ∈ (ps.foldl addStep ([], off, data)).1, q.1 ≠ (ps.foldl addStep ([], off, data)).2.1) := by
  by_cases c : data.size = 0
  · refine ⟨?_, fun h => by omega, fun h => by omega⟩
    have e : addPiece ps off data = ps := by unfold addPiece; rw [if_pos c]
    rw [e]
    refine ⟨gp, fun q hq => ⟨(pos q hq).1, by have := (pos q hq).2.1; omega⟩, fun q hq => by have := pos q hq; omega, by omega, fun k => by rw [rdP_nil c, Option.or_none], fun M h1 _ q hq => by have := pos q hq; omega⟩
  · have I : FI told hi ps ([], off, data) := ⟨gp, pos, by show 0 < data.size; omega, (fun _ h => nomatch h), ho, .inl hd⟩
    obtain ⟨I1, l1, v1, m1⟩ := I.fold
    have e : addPiece ps off data = insPc (ps.foldl addStep ([], off, data)).1 ((ps.foldl addStep ([], off, data)).2.1, (ps.foldl addStep ([], off, data)).2.2) := by unfold addPiece; rw [if_neg c]
    rw [e]
    generalize ps.foldl addStep ([], off, data) = st at I1 l1 v1 m1
    obtain ⟨gp1, pos1, jp, sep, lob, jz⟩ := I1
    rw [List.append_nil] at gp1 pos1
    obtain ⟨fs, b, j⟩ := st
    dsimp only at gp1 pos1 jp sep lob jz l1 v1 m1 ⊢
    obtain ⟨A, B, eAB, eI, hA, hB⟩ := ins_split (b := (b, j)) gp1 jp sep
    rw [eI]
    subst eAB
    dsimp only at hA hB
    obtain ⟨gA, gB, gAB⟩ := List.pairwise_append.mp gp1
    refine ⟨⟨?_, fun q hq => ?_, fun q hq => ?_, ?_, fun k => ?_, fun M h1 h2 q hq => ?_⟩, fun _ => gp1.imp fun {x y} h => by unfold Gap at h; omega, fun _ q hq e => by rcases sep q hq with h | h <;> omega⟩
    · refine List.pairwise_append.mpr ⟨gA, List.pairwise_cons.mpr ⟨fun x hx => hB x hx, gB⟩, fun x hx y hy => ?_⟩
      rcases List.mem_cons.mp hy with rfl | hy
      · exact hA x hx
      · exact gAB x hx y hy
    · rcases List.mem_append.mp hq with hq | hq
      · have := pos1 q (by simp [hq]); omega
      · rcases List.mem_cons.mp hq with rfl | hq
        · exact ⟨jp, lob⟩
        · have := pos1 q (by simp [hq]); omega
    · rcases List.mem_append.mp hq with hq | hq
      · have := pos1 q (by simp [hq]); omega
      · rcases List.mem_cons.mp hq with rfl | hq
        · dsimp only; omega
        · have := pos1 q (by simp [hq]); omega
    · simp only [List.length_append, List.length_cons, List.length_nil] at l1 ⊢; omega
    · have v := v1 k
      rw [pcAt_nil, Option.none_or] at v
      rw [← v, pcAt_append, pcAt_append, pcAt_cons, Option.or_assoc]
      congr 1
      by_cases cc : k < b + j.size
      · rw [pcAt_none (l := B) fun q hq => rdP_lt (by have := hB q hq; omega), Option.or_none, Option.none_or]
      · rw [rdP_ge (q := (b, j)) (by dsimp only; omega), Option.or_none, Option.none_or]
    · have m := m1 M h1 h2
      rcases List.mem_append.mp hq with hq | hq
      · have := pos1 q (by simp [hq]); omega
      · rcases List.mem_cons.mp hq with rfl | hq
        · exact m
        · have := pos1 q (by simp [hq]); omega
theorem take_far {told : Int} : ∀ {l : List (Int × Array UInt8)} {f : Array UInt8} {acc : List (Int × Array UInt8)}, (∀ q ∈ l, told < q.1) → l.foldl (takeStep told) (f, acc) = (f, acc ++ l)
  | [], _, _, _ => by simp
  | q :: l, f, acc, h => by
    have h1 := h q (.head _)
    have e : takeStep told (f, acc) q = (f, acc ++ [q]) := by unfold takeStep; rw [if_neg (by omega), if_pos (by omega)]
    rw [List.foldl_cons, e, take_far fun x hx => h x (.tail _ hx)]
    simp
/-- what is known of what is taken -/
structure TakeOk (told : Int) (R : List (Int × Array UInt8)) (fd : Array UInt8) (lf : List (Int × Array UInt8)) : Prop where
  gp : lf.Pairwise Gap
  mem : ∀ q ∈ lf, q ∈ R ∧ told + fd.size < q.1
  len : lf.length ≤ R.length
  val : ∀ k, told ≤ k → pcAt R k = if k < told + fd.size then (fd[(k - told).toNat]?).map (fun c => (c.toNat : Int)) else pcAt lf k
  fd : fd = #[] ∨ (told, fd) ∈ R
theorem take_ok {told : Int} {R : List (Int × Array UInt8)} (gp : R.Pairwise Gap) (pos : ∀ q ∈ R, 0 < q.2.size ∧ told ≤ q.1) : TakeOk told R (R.foldl (takeStep told) (#[], [])).1 (R.foldl (takeStep told) (#[], [])).2 := by
  cases R with
  | nil => exact ⟨.nil, (fun _ h => nomatch h), Nat.le_refl _, fun k hk => by rw [if_neg (by show ¬ k < told + ((#[] : Array UInt8).size : Int); simp; omega)]; rfl, .inl rfl⟩
  | cons h t =>
    have hh := pos h (.head _)
    have gh := List.pairwise_cons.mp gp
    have ht : ∀ q ∈ t, told < q.1 := fun q hq => by have := gh.1 q hq; unfold Gap at this; omega
    by_cases c : h.1 = told
    · have e : takeStep told (#[], []) h = (h.2, []) := by
        unfold takeStep
        rw [if_pos (by omega), c, Int.sub_self, picked_zero]
      rw [List.foldl_cons, e, take_far ht, List.nil_append]
      refine ⟨gh.2, fun q hq => ⟨.tail _ hq, ?_⟩, by simp, fun k hk => ?_, .inr ?_⟩
      · have := gh.1 q hq; unfold Gap at this; dsimp only; omega
      · rw [pcAt_cons]
        by_cases ck : k < told + h.2.size
        · rw [if_pos ck]
          have hk2 : (k - told).toNat < h.2.size := by omega
          unfold rdP
          rw [if_pos (by omega), c, Array.getElem?_eq_getElem hk2]
          rfl
        · rw [if_neg ck, rdP_ge (by omega), Option.none_or]
      · rw [← c]; exact .head _
    · have hl : ∀ q ∈ h :: t, told < q.1 := fun q hq => by
        rcases List.mem_cons.mp hq with rfl | hq
        · omega
        · exact ht q hq
      rw [take_far hl, List.nil_append]
      refine ⟨gp, fun q hq => ⟨hq, ?_⟩, Nat.le_refl _, fun k hk => ?_, .inl rfl⟩
      · have := hl q hq; simp; omega
      · rw [if_neg (by simp; omega)]
section
variable {lim told off : Int} {i : Nat} {ps : List (Int × Array UInt8)} {whole data : Array UInt8} {f : Int → Option Int}
theorem cut_ok (h : ¬ off + data.size ≤ told) (hd : data.size ≤ 5) : told ≤ (cutAt told off data).1 ∧ (cutAt told off data).2.size ≤ 5 ∧ (cutAt told off data).1 + (cutAt told off data).2.size = off + data.size ∧
    ∀ k, told ≤ k → rdP (cutAt told off data) k = rdP (off, data) k := by
  unfold cutAt
  by_cases c : off < told
  · rw [if_pos c]
    have hz := size_from (b := data) (a := told - off) (by omega)
    refine ⟨Int.le_refl _, by dsimp only; omega, by dsimp only; omega, fun k hk => ?_⟩
    rw [rdP_le (q := (told, _)) hk, rdP_le (q := (off, data)) (by show off ≤ k; omega)]
    dsimp only
    rw [picked_from (by omega), List.getElem?_drop]
    rw [toNat_cut (Int.le_of_lt c) hk]
  · rw [if_neg c]
    exact ⟨by dsimp only; omega, hd, rfl, fun _ _ => rfl⟩
theorem cut_low (hd : data.size ≤ 5) : told ≤ (cutAt told off data).1 ∧ (cutAt told off data).2.size ≤ 5 := by
  unfold cutAt
  by_cases c : off < told
  · rw [if_pos c]
    have hz := size_from (b := data) (a := told - off) (by omega)
    exact ⟨Int.le_refl _, by dsimp only; omega⟩
  · rw [if_neg c]
    exact ⟨by dsimp only; omega, hd⟩
theorem inv_gap (I : LawInv lim i told ps whole f) : ps.Pairwise Gap := I.gap
theorem inv_pos (I : LawInv lim i told ps whole f) : ∀ q ∈ ps, 0 < q.2.size ∧ told < q.1 ∧ q.1 + q.2.size ≤ told + lim := I.szp
theorem inv_add (I : LawInv lim i told ps whole f) (hd : data.size ≤ 5) : AddOk told (told + (lim.toNat : Int)) ps.length ps (cutAt told off data).1 (cutAt told off data).2 (addPiece ps (cutAt told off data).1 (cutAt told off data).2) ∧
    (0 < (cutAt told off data).2.size → (ps.foldl addStep ([], (cutAt told off data).1, (cutAt told off data).2)).1.Pairwise fun x y => x.1 < y.1) ∧
    (0 < (cutAt told off data).2.size → ∀ q ∈ (ps.foldl addStep ([], (cutAt told off data).1, (cutAt told off data).2)).1, q.1 ≠ (ps.foldl addStep ([], (cutAt told off data).1, (cutAt told off data).2)).2.1) :=
  add_ok (by omega) (inv_gap I) (fun q hq => by have := inv_pos I q hq; omega) (cut_low hd).1 (cut_low hd).2
theorem inv_take (I : LawInv lim i told ps whole f) (hd : data.size ≤ 5) : TakeOk told (addPiece ps (cutAt told off data).1 (cutAt told off data).2) ((addPiece ps (cutAt told off data).1 (cutAt told off data).2).foldl (takeStep told) (#[], [])).1
    ((addPiece ps (cutAt told off data).1 (cutAt told off data).2).foldl (takeStep told) (#[], [])).2 := take_ok (inv_add (off := off) I hd).1.gp (inv_add (off := off) I hd).1.pos
theorem inv_fd (I : LawInv lim i told ps whole f) (hl : lim ≤ 13) (hd : data.size ≤ 5) : ((addPiece ps (cutAt told off data).1 (cutAt told off data).2).foldl (takeStep told) (#[], [])).1.size ≤ 99 := by
  rcases (inv_take (off := off) I hd).fd with e | e
  · rw [e]; simp
  · have := (inv_add (off := off) I hd).1.sz _ e
    dsimp only at this
    omega
theorem plain_ok (I : LawInv lim i told ps whole f) (hi : i < 9) (hl : lim ≤ 13) (hd : data.size ≤ 5) : PcsOk told ps off data := by
  have a := inv_add (off := off) I hd
  have hn := I.lenp
  refine ⟨fun q hq => ?_, by omega, a.2.1, a.2.2, fun q hq => ?_, ?_, inv_fd I hl hd⟩
  · have := inv_pos I q hq; omega
  · have := a.1.sz q hq; omega
  · have := a.1.len; omega
theorem plain_str (I : LawInv lim i told ps whole f) (hi : i < 9) (hl : lim ≤ 13) (hd : data.size ≤ 5) : (strF told ps off data).foldl (takeStep told) (#[], []) = ((arrF told ps off data).1, (arrF told ps off data).2.2) ∧ (arrF told ps off data).2.1 = told + (arrF told ps off data).1.size ∧
  (∀ q ∈ strF told ps off data, q.2.size ≤ 1000) ∧ (strF told ps off data).length ≤ 1000 ∧ (arrF told ps off data).1.size ≤ 99 := by
  have hn := I.lenp
  by_cases c : off + data.size ≤ told
  · have e1 : strF told ps off data = ps := by unfold strF; rw [if_pos c]
    have e2 : arrF told ps off data = (#[], told, ps) := by unfold arrF; rw [if_pos c]
    rw [e1, e2, take_far fun q hq => (inv_pos I q hq).2.1]
    exact ⟨rfl, by simp, fun q hq => by have := inv_pos I q hq; omega, by omega, by simp⟩
  · have e1 : strF told ps off data = addPiece ps (cutAt told off data).1 (cutAt told off data).2 := by unfold strF; rw [if_neg c]
    rw [e1, arrF_no c]
    have a := inv_add (off := off) I hd
    exact ⟨rfl, rfl, fun q hq => by have := a.1.sz q hq; omega, by have := a.1.len; omega, inv_fd I hl hd⟩
theorem plain_strE {P : Addr → Obj → Prop} {vs : List Value} (_ : PcsIn P vs (arrF told ps off data).2.2) (I : LawInv lim i told ps whole f) (hi : i < 9) (hl : lim ≤ 13) (hd : data.size ≤ 5) {G : Prop} (k : (strF told ps off data).foldl (takeStep told) (#[], []) = ((arrF told ps off data).1, (arrF told ps off data).2.2) → (arrF told ps off data).2.1 = told + (arrF told ps off data).1.size →
  (∀ q ∈ strF told ps off data, q.2.size ≤ 1000) → (strF told ps off data).length ≤ 1000 → (arrF told ps off data).1.size ≤ 99 → G) : G :=
  let ⟨a, b, c, d, e⟩ := plain_str (off := off) I hi hl hd
  k a b c d e
theorem fill_at {n : Nat} {k : Int} (hn : n = data.size) : fillF f off data n k = (f k).or (rdP (off, data) k) := by
  subst hn
  unfold fillF rdP
  cases f k <;> rfl
theorem fill_none {n : Nat} {k : Int} (hn : n = data.size) (h : f k = none → rdP (off, data) k = none) : fillF f off data n k = f k := by
  rw [fill_at hn]
  cases e : f k with
  | none => rw [h e]; rfl
  | some v => rfl
theorem inv_some (I : LawInv lim i told ps whole f) {k : Int} (h0 : 0 ≤ k) (h1 : k < told) : f k = (whole[k.toNat]?).map (fun c => (c.toNat : Int)) ∧ f k ≠ none := by
  have e := I.cov k
  rw [if_pos ⟨h0, h1⟩] at e
  have hs := I.size
  have hlt : k.toNat < whole.size := by omega
  refine ⟨e, ?_⟩
  rw [e, Array.getElem?_eq_getElem hlt]
  simp
theorem plain_next (I : LawInv lim i told ps whole f) (hi : i < 9) (hl : lim ≤ 13) (hd : data.size ≤ 5) (h0 : 0 ≤ off) (hlet : off + data.size ≤ told + lim) :
  LawInv lim (i + 1) (arrF told ps off data).2.1 (arrF told ps off data).2.2 (whole ++ (arrF told ps off data).1) (fillF f off data data.size) := by
  have hs := I.size
  have hn := I.lenp
  have hz := I.sizeLe
  by_cases c : off + data.size ≤ told
  · have e2 : arrF told ps off data = (#[], told, ps) := by unfold arrF; rw [if_pos c]
    have ef : ∀ k, fillF f off data data.size k = f k := fun k => fill_none rfl fun e => by
      by_cases q : off ≤ k ∧ k < off + data.size
      · exact absurd e (inv_some I (k := k) (by omega) (by omega)).2
      · unfold rdP; rw [if_neg (by dsimp only; omega)]
    rw [e2]
    dsimp only
    rw [Array.append_empty]
    exact ⟨hs, by omega, by omega, I.szp, I.gap, fun k => by rw [ef k]; exact I.cov k⟩
  · rw [arrF_no c]
    have a := (inv_add (off := off) I hd).1
    have t := inv_take (off := off) I hd
    obtain ⟨c1, c2, c3, c4⟩ := cut_ok c hd
    have en := a.en (told + lim) (by omega) (by omega)
    generalize addPiece ps (cutAt told off data).1 (cutAt told off data).2 = R at a t en
    generalize R.foldl (takeStep told) (#[], []) = T at t
    obtain ⟨fd, lf⟩ := T
    dsimp only at t ⊢
    have hfd : told + fd.size ≤ told + lim := by
      rcases t.fd with e | e
      · rw [e]; simp; omega
      · exact en _ e
    refine ⟨by rw [Array.size_append]; omega, by omega, ?_, fun q hq => ?_, t.gp, fun k => ?_⟩
    · have := t.len; have := a.len; omega
    · have h1 := t.mem q hq
      have h2 := a.pos q h1.1
      have h3 := en q h1.1
      omega
    · rw [fill_at rfl]
      by_cases k1 : 0 ≤ k ∧ k < told
      · obtain ⟨v1, v2⟩ := inv_some I k1.1 k1.2
        have : ((f k).or (rdP (off, data) k)) = f k := by
          cases e : f k with
          | none => exact absurd e v2
          | some v => rfl
        rw [this, if_pos (by omega), v1, Array.getElem?_append_left (by omega)]
      · have ef : f k = pcAt ps k := by rw [I.cov k, if_neg k1]
        by_cases k2 : k < told
        · have hk0 : k < 0 := by omega
          rw [if_neg (by omega), ef, pcAt_none (l := ps) fun q hq => rdP_lt (by have := inv_pos I q hq; omega), rdP_lt (by show k < off; omega), pcAt_none (l := lf) fun q hq => rdP_lt (by have := t.mem q hq; omega)]
          rfl
        · rw [ef, ← c4 k (by omega), ← a.val k, t.val k (by omega)]
          by_cases k3 : k < told + fd.size
          · rw [if_pos k3, if_pos (by omega), Array.getElem?_append_right (by omega)]
            have e := toNat_cut (show (0 : Int) ≤ told by omega) (show told ≤ k by omega)
            rw [Int.sub_zero, Int.sub_zero] at e
            rw [← e, ← hs, Int.toNat_natCast, Nat.add_sub_cancel_left]
          · rw [if_neg k3, if_neg (by omega)]
theorem plain_keep (I : LawInv lim i told ps whole f) : LawInv lim (i + 1) told ps whole f := by
  obtain ⟨a, b, c, d, e, k⟩ := I
  exact ⟨a, by omega, by omega, d, e, k⟩
end
-- 88_ends
/-- a turn that was refused -/
theorem turn_end_no {prog : Program} {w : World} {g h' : Heap} {L it : Addr} {o oO oM : Obj} {C : LawC} {S : LawD} {i tk : Nat} {m m' : Str → Option Value} {s₁ : Shared} {Q : Flow → Shared → Prop} {news : List (Addr × Obj)} {c : Int} {ti u1 : Tok} {L2 : Int} {vO vM : Option Value}
    (St : LawF g L C) (ok : LawOk prog w g C i S m) (F : Fr g L h' m') (N : News g L h' news) (ho : o.cls = .type "range_iterator") (hne : ∀ a ∈ [C.b, C.dx, C.dy, C.df, C.cO, C.cM, C.x, C.y, C.ai, C.cF], a ≠ it)
    (mit : (it, o) ∈ news) (mb : (C.b, W.listOf #[.ref C.ai, .int c ti] C.nb) ∈ news) (mdx : (C.dx, cryD w.params C.kc S.t1 S.t2 C.lim S.told S.lw) ∈ news) (mdy : (C.dy, recD w.params C.kr u1 S.u2 S.u3 L2 S.lp S.told S.high) ∈ news)
    (mdf : (C.df, S.oD) ∈ news) (mO : (C.cO, oO) ∈ news) (mM : (C.cM, oM) ∈ news) (mx : (C.x, instObj 91 C.dx) ∈ news) (my : (C.y, instObj 189 C.dy) ∈ news) (mai : (C.ai, W.listOf C.ws.toArray C.na) ∈ news) (mcF : (C.cF, C.oF) ∈ news) (mtl : ∀ q ∈ S.tl, q ∈ news)
    (n1 : m' "box" = some (.ref C.b)) (n2 : m' "limit" = some (.int C.lim C.tlim)) (n3 : m' "whole" = some (.bytes S.whole S.tw)) (n4 : m' "crypto" = some (.ref C.x)) (n5 : m' "part" = some (.ref C.y))
    (c0 : 0 ≤ c) (c1 : c ≤ 3 * ((i + 1 : Nat) : Int) + 2) (cO : oO.data = .cell vO) (cM : oM.data = .cell vM) (hL2 : L2 ≤ S.told + C.lim) : TurnEnd g L it o (LawJ prog w g C (i + 1)) s₁ Q .next { s₁ with heap := h', toks := tk } :=
  turn_end (S := { S with c := c, ti := ti, u1 := u1, L2 := L2, oO := oO, oM := oM, vO := vO, vM := vM, tl := [] }) St F (N _ mit) ho hne (N.get mb) (N.get mdx) (N.get mdy) (N.get mdf) (N.get mO) (N.get mM) (N.get mx) (N.get my) (N.get mai) (N.get mcF)
    (list_at F N ok.hl mtl) (list_at F N ok.hl2 mtl) (pcs_at (P := fun _ _ => True) F N ok.hp mtl) (pcs_at (P := fun _ _ => True) F N ok.hp2 mtl) n1 n2 n3 n4 n5 c0 c1 ok.dict ok.flat ok.rd (Nat.le_trans ok.dlen (by omega)) cO cM hL2 ok.high (plain_keep ok.inv)
/-- a turn that was let -/
theorem turn_end_let {prog : Program} {w : World} {g h' : Heap} {L it : Addr} {o oO oM oD : Obj} {C : LawC} {S : LawD} {i tk nw np : Nat} {m m' : Str → Option Value} {s₁ : Shared} {Q : Flow → Shared → Prop} {news : List (Addr × Obj)} {c told high : Int} {ti t1 t2 u1 u2 u3 tw : Tok} {L2 : Int} {vO vM : Option Value}
    {lw lp : Addr} {vs vs2 : List Value} {ps : List (Int × Array UInt8)} {whole : Array UInt8} {kvs : List (Int × Value)} {D : List (PyData × PyData)} {f : Int → Option Int}
    (St : LawF g L C) (ok : LawOk prog w g C i S m) (F : Fr g L h' m') (N : News g L h' news) (ho : o.cls = .type "range_iterator") (hne : ∀ a ∈ [C.b, C.dx, C.dy, C.df, C.cO, C.cM, C.x, C.y, C.ai, C.cF], a ≠ it)
    (mit : (it, o) ∈ news) (mb : (C.b, W.listOf #[.ref C.ai, .int c ti] C.nb) ∈ news) (mdx : (C.dx, cryD w.params C.kc t1 t2 C.lim told lw) ∈ news) (mdy : (C.dy, recD w.params C.kr u1 u2 u3 L2 lp told high) ∈ news)
    (mdf : (C.df, oD) ∈ news) (mO : (C.cO, oO) ∈ news) (mM : (C.cM, oM) ∈ news) (mx : (C.x, instObj 91 C.dx) ∈ news) (my : (C.y, instObj 189 C.dy) ∈ news) (mai : (C.ai, W.listOf C.ws.toArray C.na) ∈ news) (mcF : (C.cF, C.oF) ∈ news)
    (hlw : h'.get? lw = some (W.listOf vs.toArray nw)) (hlp : h'.get? lp = some (W.listOf vs2.toArray np)) (hp : PcsIn (AtH h') vs ps) (hp2 : PcsIn (AtH h') vs2 ps)
    (n1 : m' "box" = some (.ref C.b)) (n2 : m' "limit" = some (.int C.lim C.tlim)) (n3 : m' "whole" = some (.bytes whole tw)) (n4 : m' "crypto" = some (.ref C.x)) (n5 : m' "part" = some (.ref C.y))
    (c0 : 0 ≤ c) (c1 : c ≤ 3 * ((i + 1 : Nat) : Int) + 2) (cO : oO.data = .cell vO) (cM : oM.data = .cell vM) (hL2 : L2 ≤ told + C.lim) (hh : 0 ≤ high)
    (dict : oD.IsDictOf (intKind prog w) kvs) (flat : PyProof.V.FlatPairs PyData.int kvs D) (rd : Rd D f) (dlen : D.length ≤ 5 * (i + 1)) (inv : LawInv C.lim (i + 1) told ps whole f) : TurnEnd g L it o (LawJ prog w g C (i + 1)) s₁ Q .next { s₁ with heap := h', toks := tk } :=
  turn_end (S := ⟨lw, lp, vs, vs2, nw, np, c, ti, t1, t2, u1, u2, u3, told, L2, high, oD, oO, oM, vO, vM, kvs, D, f, ps, whole, tw, []⟩) St F (N _ mit) ho hne (N.get mb) (N.get mdx) (N.get mdy) (N.get mdf) (N.get mO) (N.get mM) (N.get mx) (N.get my) (N.get mai) (N.get mcF)
    hlw hlp hp hp2 n1 n2 n3 n4 n5 c0 c1 dict flat rd dlen cO cM hL2 hh inv
-- 88b_open
theorem nw_tl {g h : Heap} {L : Addr} {q : Addr × Obj} {l : List (Addr × Obj)} (N : News g L h (q :: l)) : News g L h l := fun p hp => N p (.tail _ hp)
/-- the order of the places, all pairs that are asked -/
structure Ord10 (cF cO cM ai b df dx x dy y : Nat) : Prop where
  k1 : cF < cO
  k2 : cO < cM
  k3 : cM < ai
  k4 : ai < b
  k5 : b < df
  k6 : df < dx
  k7 : dx < x
  k8 : x < dy
  k9 : dy < y
  l1 : cO < b
  l2 : cM < b
  l3 : cF < b
  l4 : b < dx
  l5 : b < dy
  l6 : b < x
  l7 : b < y
  m1 : df < x
  m2 : df < dy
  m3 : df < y
  m4 : dx < dy
  m5 : dx < y
theorem ord10 {cF cO cM ai b df dx x dy y : Nat} (h : cF < cO ∧ cO < cM ∧ cM < ai ∧ ai < b ∧ b < df ∧ df < dx ∧ dx < x ∧ x < dy ∧ dy < y) : Ord10 cF cO cM ai b df dx x dy y := by
  obtain ⟨k1, k2, k3, k4, k5, k6, k7, k8, k9⟩ := h
  have l2 := Nat.lt_trans k3 k4
  have l1 := Nat.lt_trans k2 l2
  have l4 := Nat.lt_trans k5 k6
  have l6 := Nat.lt_trans l4 k7
  have l5 := Nat.lt_trans l6 k8
  have m1 := Nat.lt_trans k6 k7
  have m2 := Nat.lt_trans m1 k8
  have m4 := Nat.lt_trans k7 k8
  exact ⟨k1, k2, k3, k4, k5, k6, k7, k8, k9, l1, l2, Nat.lt_trans k1 l1, l4, l5, l6, Nat.lt_trans l5 k9, m1, m2, Nat.lt_trans m2 k9, m4, Nat.lt_trans m4 k9⟩
theorem law_apartE {g : Heap} {L : Addr} {C : LawC} {cO cM : Addr} (St : LawF g L C) (e2 : C.cO = cO) (e3 : C.cM = cM) {G : Prop}
    (k : @Ne Nat C.b C.dx → @Ne Nat C.b C.dy → @Ne Nat C.b C.df → @Ne Nat cO C.b → @Ne Nat cM C.b → @Ne Nat C.dx C.dy → @Ne Nat C.df C.dx → @Ne Nat cO C.dx → @Ne Nat cM C.dx → @Ne Nat C.df C.dy → @Ne Nat cO C.dy → @Ne Nat cM C.dy → @Ne Nat cO C.df → @Ne Nat cM C.df → @Ne Nat cO cM → @Ne Nat C.ai C.b → G) : G := by
  subst e2 e3
  have o := ord10 St.chain
  have n : ∀ {a c : Nat}, a < c → a ≠ c := fun h => Nat.ne_of_lt h
  exact k (n o.l4) (n o.l5) (n o.k5) (n o.l1) (n o.l2) (n o.m4) (n o.k6) (n (Nat.lt_trans o.l1 o.l4)) (n (Nat.lt_trans o.l2 o.l4)) (n o.m2) (n (Nat.lt_trans o.l1 o.l5)) (n (Nat.lt_trans o.l2 o.l5)) (n (Nat.lt_trans o.l1 o.k5)) (n (Nat.lt_trans o.l2 o.k5)) (n o.k2) (n o.k4)
/-- a turn begins: what changes stands ahead, the rest behind a name -/
theorem turn_openE {prog : Program} {w : World} {g h : Heap} {L it : Addr} {o : Obj} {C : LawC} {S : LawD} {i : Nat} {m : Str → Option Value} {P : Params} {cF cO cM : Addr} {G : Prop} (St : LawF g L C) (ok : LawOk prog w g C i S m) (e1 : C.cF = cF) (e2 : C.cO = cO) (e3 : C.cM = cM)
    (hne : ∀ a ∈ [C.b, C.dx, C.dy, C.df, C.cO, C.cM, C.x, C.y, C.ai, C.cF], a ≠ it) (N : News g L h ((it, o) :: ledg P C S))
    (k : ∀ TL, News g L h ((C.b, W.listOf #[.ref C.ai, .int S.c S.ti] C.nb) :: (C.dx, cryD P C.kc S.t1 S.t2 C.lim S.told S.lw) :: (C.dy, recD P C.kr S.u1 S.u2 S.u3 S.L2 S.lp S.told S.high) :: (C.df, S.oD) :: (cO, S.oO) :: (cM, S.oM) :: TL) →
      (C.x, instObj 91 C.dx) ∈ TL → (C.y, instObj 189 C.dy) ∈ TL → (C.ai, W.listOf C.ws.toArray C.na) ∈ TL → (cF, C.oF) ∈ TL → (it, o) ∈ TL → (∀ q ∈ S.tl, q ∈ TL) →
      (∀ q ∈ TL, q.1 ≠ C.b) → (∀ q ∈ TL, q.1 ≠ C.dx) → (∀ q ∈ TL, q.1 ≠ C.dy) → (∀ q ∈ TL, q.1 ≠ C.df) → (∀ q ∈ TL, q.1 ≠ cO) → (∀ q ∈ TL, q.1 ≠ cM) → G) : G := by
  subst e1 e2 e3
  have o' := ord10 St.chain
  have n : ∀ {a c : Nat}, a < c → a ≠ c := fun h => Nat.ne_of_lt h
  have u : ∀ {a c : Nat}, c < a → a ≠ c := fun h => Nat.ne_of_gt h
  obtain ⟨v1, v2, v3, v4, v5, v6, v7, v8, v9, v0⟩ := in10 hne
  refine k ((C.x, instObj 91 C.dx) :: (C.y, instObj 189 C.dy) :: (C.ai, W.listOf C.ws.toArray C.na) :: (C.cF, C.oF) :: (it, o) :: S.tl) (fun q hq => ?_) (.head _) (.tail _ (.head _)) (.tail _ (.tail _ (.head _))) (.tail _ (.tail _ (.tail _ (.head _)))) (.tail _ (.tail _ (.tail _ (.tail _ (.head _))))) (fun q hq => .tail _ (.tail _ (.tail _ (.tail _ (.tail _ hq)))))
    (off_mk (u o'.l6) (off_mk (u o'.l7) (off_mk (n o'.k4) (off_mk (n o'.l3) (off_mk (Ne.symm v1) ok.offB))))) (off_mk (u o'.k7) (off_mk (u o'.m5) (off_mk (n (Nat.lt_trans o'.k4 o'.l4)) (off_mk (n (Nat.lt_trans o'.l3 o'.l4)) (off_mk (Ne.symm v2) ok.offDx))))) (off_mk (n o'.k8) (off_mk (u o'.k9) (off_mk (n (Nat.lt_trans o'.k4 o'.l5)) (off_mk (n (Nat.lt_trans o'.l3 o'.l5)) (off_mk (Ne.symm v3) ok.offDy))))) (off_mk (u o'.m1) (off_mk (u o'.m3) (off_mk (n (Nat.lt_trans o'.k4 o'.k5)) (off_mk (n (Nat.lt_trans o'.l3 o'.k5)) (off_mk (Ne.symm v4) ok.offDf))))) (off_mk (u (Nat.lt_trans o'.l1 o'.l6)) (off_mk (u (Nat.lt_trans o'.l1 o'.l7)) (off_mk (u (Nat.lt_trans o'.k2 o'.k3)) (off_mk (n o'.k1) (off_mk (Ne.symm v5) ok.offO))))) (off_mk (u (Nat.lt_trans o'.l2 o'.l6)) (off_mk (u (Nat.lt_trans o'.l2 o'.l7)) (off_mk (u o'.k3) (off_mk (n (Nat.lt_trans o'.k1 o'.k2)) (off_mk (Ne.symm v6) ok.offM)))))
  have sub : ∀ q ∈ (C.b, W.listOf #[Value.ref C.ai, .int S.c S.ti] C.nb) :: (C.dx, cryD P C.kc S.t1 S.t2 C.lim S.told S.lw) :: (C.dy, recD P C.kr S.u1 S.u2 S.u3 S.L2 S.lp S.told S.high) :: (C.df, S.oD) :: (C.cO, S.oO) :: (C.cM, S.oM) :: (C.x, instObj 91 C.dx) :: (C.y, instObj 189 C.dy) :: (C.ai, W.listOf C.ws.toArray C.na) :: (C.cF, C.oF) :: (it, o) :: S.tl, q ∈ (it, o) :: ledg P C S :=
    all_mk (by k_mem) (all_mk (by k_mem) (all_mk (by k_mem) (all_mk (by k_mem) (all_mk (by k_mem) (all_mk (by k_mem) (all_mk (by k_mem) (all_mk (by k_mem) (all_mk (by k_mem) (all_mk (by k_mem) (all_mk (by k_mem) fun q hq => .tail _ (.tail _ (.tail _ (.tail _ (.tail _ (.tail _ (.tail _ (.tail _ (.tail _ (.tail _ (.tail _ hq))))))))))))))))))))
  exact N q (sub q hq)
-- 89_fill
noncomputable def FillJ (prog : Program) (w : World) (G : Obj → List (Addr × Obj)) (m₀ : Str → Option Value) (f : Int → Option Int) (off : Int) (data : Array UInt8) (K : Nat) (j : Nat) (m : Str → Option Value) (news : List (Addr × Obj)) : Prop :=
  ∃ oD kvs D, news = G oD ∧ (∀ y, y ≠ Str.ofString "at" → y ≠ Str.ofString "octet" → m y = m₀ y) ∧ oD.IsDictOf (intKind prog w) kvs ∧ PyProof.V.FlatPairs PyData.int kvs D ∧ Rd D (fillF f off data j) ∧ D.length ≤ K + j
theorem fill_zero (f : Int → Option Int) (off : Int) (data : Array UInt8) : fillF f off data 0 = f := by
  funext k
  unfold fillF
  split
  · rename_i v e; exact e.symm
  · rename_i e; rw [if_neg (by omega)]; exact e.symm
theorem in_succ {k off : Int} {j : Nat} : (off ≤ k ∧ k < off + ((j + 1 : Nat) : Int)) ↔ ((off ≤ k ∧ k < off + j) ∨ k = off + j) := by omega
theorem fill_succ {f : Int → Option Int} {off : Int} {data : Array UInt8} {j : Nat} {c : UInt8} (h : data[j]? = some c) (k : Int) :
    fillF f off data (j + 1) k = if k = off + j then some (((fillF f off data j k)).getD (c.toNat : Int)) else fillF f off data j k := by
  unfold fillF
  cases hf : f k with
  | some v =>
    dsimp only
    split <;> rfl
  | none =>
    dsimp only
    by_cases e : k = off + j
    · subst e
      rw [if_pos (in_succ.mpr (.inr rfl)), if_pos rfl, if_neg (fun x => Int.lt_irrefl _ x.2)]
      have : (off + (j : Int) - off).toNat = j := by omega
      rw [this, h]
      rfl
    · rw [if_neg e]
      by_cases q : off ≤ k ∧ k < off + j
      · rw [if_pos q, if_pos (in_succ.mpr (.inl q))]
      · rw [if_neg q, if_neg (fun x => (in_succ.mp x).elim q e)]
theorem rd_put {D : List (PyData × PyData)} {f : Int → Option Int} {k v : Int} (h : Rd D f) : Rd (PyProof.V.putD (.int k) (.int v) D) (fun x => if x = k then some v else f x) := by
  intro x
  rw [PyProof.Rows.lookup_putD_int, h x]
  by_cases e : x = k
  · simp [e]
  · simp [e]
theorem updF_self {d : Addr} {o : Obj} {news : List (Addr × Obj)} {G : Obj → List (Addr × Obj)} (U : UpdF d o news G) : news = G o := by
  obtain ⟨pre, post, e0, hg, _⟩ := U.split
  rw [e0, hg]
theorem offs_of {d : Addr} {o o₁ : Obj} {news own : List (Addr × Obj)} {G : Obj → List (Addr × Obj)} (U : UpdF d o news G) (h : ∀ p ∈ G o₁, ∀ q ∈ own, p.1 ≠ q.1) : ∀ o', ∀ p ∈ G o', ∀ q ∈ own, p.1 ≠ q.1 := fun o' p hp q hq => by
  obtain ⟨pre, post, e0, hg, _⟩ := U.split
  rw [hg] at hp h
  rcases List.mem_append.mp hp with hp | hp
  · exact h p (List.mem_append_left _ hp) q hq
  · rcases List.mem_cons.mp hp with rfl | hp
    · exact h (d, o₁) (List.mem_append_right _ (.head _)) q hq
    · exact h p (List.mem_append_right _ (.tail _ hp)) q hq
theorem getD_int {o : Option Int} {c : Int} : (o.map PyData.int).getD (.int c) = .int (o.getD c) := by cases o <;> rfl
section
variable {prog : Program} {w : World} {A : Around} {E : Value → Shared → Prop} {s : Shared} {env : Env} {g : Heap} {body : List Stmt} {Q : Flow → Shared → Prop} {elts : List Expr} {ek : Nat} {ep : Pos}
theorem enum_fill {x : Array UInt8} {t : Tok} {m₀ : Str → Option Value} {news₀ : List (Addr × Obj)} {df : Addr} {oD : Obj} {G : Obj → List (Addr × Obj)} {kvs : List (Int × Value)} {D : List (PyData × PyData)} {f : Int → Option Int} {K : Nat} (off : Int) (hh : A.handled = none)
    (F : Fr g env.locals s.heap m₀) (N : News g env.locals s.heap news₀) (U : UpdF df oD news₀ G) (hd : oD.IsDictOf (intKind prog w) kvs) (hf : PyProof.V.FlatPairs PyData.int kvs D) (hr : Rd D f) (hK : D.length ≤ K)
    (turn : ∀ j c u ti T m₁ oD' kvs' D' h tk own, x[j]? = some c → (∀ y, y ≠ Str.ofString "at" → y ≠ Str.ofString "octet" → m₁ y = m₀ y) → oD'.IsDictOf (intKind prog w) kvs' → PyProof.V.FlatPairs PyData.int kvs' D' → Rd D' (fillF f off x j) → D'.length ≤ K + j → IsTup h T #[.int j ti, .int (c.toNat : Int) u] → (∀ o', ∀ p ∈ G o', ∀ q ∈ own, p.1 ≠ q.1) → Fr g env.locals h m₁ → News g env.locals h (G oD' ++ own) →
      wpAny (model prog w) A (assign (.Tuple elts ek ep) env (.ref T)) (fun _ s₂ => wpAny (model prog w) A (execs body env) (TurnEndO g env.locals own (FillJ prog w G m₀ f off x K (j + 1)) { s with heap := h, toks := tk } Q) (fun _ _ => False) s₂) (fun _ _ => False) { s with heap := h, toks := tk })
    (done : ∀ m₁ oD' kvs' D' h tk, (∀ y, y ≠ Str.ofString "at" → y ≠ Str.ofString "octet" → m₁ y = m₀ y) → oD'.IsDictOf (intKind prog w) kvs' → PyProof.V.FlatPairs PyData.int kvs' D' → Rd D' (fillF f off x x.size) → D'.length ≤ K + x.size → Fr g env.locals h m₁ → News g env.locals h (G oD') → Q .next { s with heap := h, toks := tk }) :
    wpAny (model prog w) A (call (.type "enumerate") [.bytes x t]) (fun xv s₁ => wpAny (model prog w) A (pyIter xv) (fun it s₂ => codeAny (model prog w) A (.forLoop (.Tuple elts ek ep) it body [] env) (fun r s' => match r with | .ok f => Q f s' | .error e => cameBackBy (model prog w) A env E e s') s₂) E s₁) E s :=
  forEnumB hh F N (FillJ prog w G m₀ f off x K) ⟨oD, kvs, D, updF_self U, fun _ _ _ => rfl, hd, hf, by rw [fill_zero]; exact hr, hK⟩
    (fun j c u ti T m₁ news₁ h tk own hx ⟨oD', kvs', D', e, a1, a2, a3, a4, a5⟩ hT ho F₁ N₁ => by subst e; exact turn j c u ti T m₁ oD' kvs' D' h tk own hx a1 a2 a3 a4 a5 hT (offs_of U ho) F₁ N₁)
    (fun m₁ news₁ h tk ⟨oD', kvs', D', e, a1, a2, a3, a4, a5⟩ F₁ N₁ => by subst e; exact done m₁ oD' kvs' D' h tk a1 a2 a3 a4 a5 F₁ N₁)
end
theorem get_off {told off : Int} {ps : List (Int × Array UInt8)} {data : Array UInt8} {r} (_ : arrF told ps off data = r) : ∃ o, o = off := ⟨_, rfl⟩
theorem fill_fin {K k c : Int} {F : Int → Option Int} : (if k = K then some ((F K).getD c) else F k) = if k = K then some ((F k).getD c) else F k := by
  by_cases e : k = K
  · subst e; rfl
  · rw [if_neg e, if_neg e]
-- 89a_ne
section
variable {A : Around} {s : Shared}
open PySem.SeqAt
theorem eqAt_bytes (b c : Array UInt8) (t u : Tok) : EqAt A s (.bytes b t) (.bytes c u) (b.toList == c.toList) := fun prog w E Q h => by
  unfold eqBool
  refine wpAny_holding ?_
  refine wpAny_ite_split (fun hab => ?_) (fun hab => ?_)
  · have e : b = c := by have := eq_of_beq hab; injection this
    subst e
    exact wpAny_bind (wpAny_rule (wpAny_pure (by simpa using h)))
  · exact wpAny_bind (richCompare_gives (typeIs_bytes s b t) (typeIs_bytes s c u) FB.slot_bytes_eq FB.entry_bytes_eq (FB.args_bytes_eq_2 _ _) (gives_bytes_eq b c t u) (fun e => nomatch e) (wpAny_truthy_bool h))
theorem units_in1 : A.in1.units ≤ A.units + 1 := Nat.le_refl _
theorem eqAt_pc {v v' : Value} {q : Int × Array UInt8} (hp : PcIn (AtH s.heap) v q) (hp2 : PcIn (AtH s.heap) v' q) (hu : A.units < cLine) : EqAt A s v v' true := by
  obtain ⟨a, n, t, u, rfl, ha⟩ := hp
  obtain ⟨a', n', t', u', rfl, ha'⟩ := hp2
  by_cases e : a = a'
  · subst e; exact EqAt.same _
  refine EqAt.of_refs e ?_
  have h := RcAt.tuples (A := A) (s := s) (l := a) (b := a') (e := fun _ => true) ⟨_, ha, rfl, _, rfl⟩ ⟨_, ha', rfl, _, rfl⟩ hu (fun j h1 h2 => by
    match j, h1, h2 with
    | 0, _, _ =>
      have := EqAt.int_int (A := A.in1) (s := s) q.1 t q.1 t'
      rw [beq_self_eq_true] at this
      exact this
    | 1, _, _ =>
      have := eqAt_bytes (A := A.in1) (s := s) q.2 q.2 u u'
      rw [beq_self_eq_true] at this
      exact this
    | j + 2, h1, _ => exact absurd h1 (by simp))
  exact h
theorem PcsIn.two {P : Addr → Obj → Prop} {vs vs2 : List Value} {qs : List (Int × Array UInt8)} (h : PcsIn P vs qs) (k : PcsIn P vs2 qs) : ∀ j (h1 : j < vs.length) (h2 : j < vs2.length), ∃ q, PcIn P vs[j] q ∧ PcIn P vs2[j] q := fun j h1 h2 => by
  obtain ⟨q, hq, a⟩ := h.get (List.getElem?_eq_getElem h1)
  obtain ⟨q', hq', b⟩ := k.get (List.getElem?_eq_getElem h2)
  rw [hq] at hq'
  obtain rfl := Option.some.inj hq'
  exact ⟨q, a, b⟩
end
section
variable {prog : Program} {w : World} {A : Around} {E : Value → Shared → Prop} {s : Shared}
open PySem.SeqAt
/-- two lists of the same pieces -/
theorem ne_pcs {lw lp : Addr} {vs vs2 : List Value} {n n2 : Nat} {ps : List (Int × Array UInt8)} {Q : Value → Shared → Prop} (hl : s.heap.get? lw = some (W.listOf (List.toArray vs) n)) (hl2 : s.heap.get? lp = some (W.listOf (List.toArray vs2) n2))
    (hp : PcsIn (AtH s.heap) vs ps) (hp2 : PcsIn (AtH s.heap) vs2 ps) (hu : A.units + 64 < cLine) (h : ∀ tk, Q (.bool false) { s with toks := tk }) : wpAny (model prog w) A (compareOp .NotEq (.ref lw) (.ref lp)) Q E s := by
  have hz : vs.toArray.size = vs2.toArray.size := by simp [hp.length, hp2.length]
  have k := RcNeAt.lists (A := A) (s := s) (l := lw) (b := lp) (e := fun _ => true) ⟨_, hl, rfl, _, rfl⟩ ⟨_, hl2, rfl, _, rfl⟩ hz (by omega) (fun j h1 h2 => by
    obtain ⟨q, a, b⟩ := hp.two hp2 j (by simpa using h1) (by simpa using h2)
    have u1 := units_in1 (A := A)
    have := eqAt_pc (A := A.in1) (s := s) a b (by omega)
    simpa using this)
  have e : (!(List.range vs.toArray.size).all fun _ => true) = false := by simp
  rw [e] at k
  exact k prog w E Q (h s.toks)
/-- a list of pieces beside an empty list -/
theorem ne_nilP {lw lp : Addr} {vs : List Value} {n n2 : Nat} {ps : List (Int × Array UInt8)} {Q : Value → Shared → Prop} (hl : s.heap.get? lw = some (W.listOf (List.toArray vs) n)) (hl2 : s.heap.get? lp = some (W.listOf #[] n2))
    (hp : PcsIn (AtH s.heap) vs ps) (hu : A.units + 64 < cLine) (h : ∀ tk, Q (.bool (decide (0 < ps.length))) { s with toks := tk }) : wpAny (model prog w) A (compareOp .NotEq (.ref lw) (.ref lp)) Q E s := by
  have hlen := hp.length
  by_cases c : 0 < ps.length
  · have k := RcNeAt.lists_lengths (A := A) (s := s) (l := lw) (b := lp) (items := vs.toArray) (items2 := #[]) ⟨_, hl, rfl, _, rfl⟩ ⟨_, hl2, rfl, _, rfl⟩ (by simp; intro e; subst e; simp at hlen; omega) (by omega)
    have h := h s.toks
    rw [decide_eq_true c] at h
    exact k prog w E Q h
  · have hz : vs.toArray.size = (#[] : Array Value).size := by simp; exact List.eq_nil_of_length_eq_zero (by omega)
    have k := RcNeAt.lists (A := A) (s := s) (l := lw) (b := lp) (e := fun _ => true) ⟨_, hl, rfl, _, rfl⟩ ⟨_, hl2, rfl, _, rfl⟩ hz (by omega) (fun j h1 h2 => absurd h2 (by simp))
    have e : (!(List.range vs.toArray.size).all fun _ => true) = false := by simp
    rw [e] at k
    have h := h s.toks
    rw [decide_eq_false c] at h
    exact k prog w E Q h
end
theorem rng_lt {k kk : Int} (h : kk < 0 + ((k - 0).toNat : Int)) (h0 : 0 ≤ k) : kk < k := by omega
theorem rng_at {k kk : Int} {n : Nat} (q : (n : Int) = k) (h0 : 0 ≤ kk) (h : kk < k) : kk.toNat < n := by omega
theorem cov_at {lim told : Int} {i : Nat} {ps : List (Int × Array UInt8)} {whole : Array UInt8} {f : Int → Option Int} (inv : LawInv lim i told ps whole f) {p : Int} (h0 : 0 ≤ p) (h1 : p < told) : ∃ c : UInt8, whole[p.toNat]? = some c ∧ f p = some (c.toNat : Int) := by
  have c2 := inv.cov p
  have c1 := inv.size
  rw [if_pos ⟨h0, h1⟩, Array.getElem?_eq_getElem (rng_at c1 h0 h1)] at c2
  exact ⟨_, Array.getElem?_eq_getElem (rng_at c1 h0 h1), c2⟩
theorem cov_in {lim told : Int} {i : Nat} {ps : List (Int × Array UInt8)} {whole : Array UInt8} {f : Int → Option Int} (inv : LawInv lim i told ps whole f) : KBa.In (List.map (fun p => (f p).getD 0) (rangeKs 0 (told - 0).toNat)) := by
  intro n hn
  obtain ⟨p, hp, rfl⟩ := List.mem_map.mp hn
  obtain ⟨h1, h2⟩ := mem_rangeKs hp
  have c1 := inv.size
  obtain ⟨c, _, e⟩ := cov_at inv (p := p) h1 (by omega)
  rw [e]
  have := c.toNat_lt
  show 0 ≤ (c.toNat : Int) ∧ (c.toNat : Int) < 256
  omega
theorem cov_eq {lim told : Int} {i : Nat} {ps : List (Int × Array UInt8)} {whole : Array UInt8} {f : Int → Option Int} (inv : LawInv lim i told ps whole f) : byteArr (List.map (fun p => (f p).getD 0) (rangeKs 0 (told - 0).toNat)) = whole := by
  have c1 := inv.size
  have e : (told - 0).toNat = whole.size := by omega
  rw [e]
  unfold byteArr rangeKs
  apply Array.ext'
  apply List.ext_getElem
  · simp
  · intro j h1 h2
    have hj : j < whole.size := by simpa using h2
    obtain ⟨c, hc, hf⟩ := cov_at inv (p := (j : Int)) (by omega) (by omega)
    have hc2 : whole[j]? = some c := by simpa using hc
    have hc3 : whole[j] = c := by
      rw [Array.getElem?_eq_getElem hj] at hc2
      exact Option.some.inj hc2
    simp [hf, hc3]
-- the law
set_option maxHeartbeats 200000000 in
theorem law_walk : PySem.Challenge.rw_sa0567_01.Holds := holds_law hd.said (fun said => by
  w_on
  refine holds_open (q := hd.view_39) (loose := []) (Xt := fun s => xlAt hd.view_39 [] s && recOk (RowW.records PySem.Challenge.rw_sa0567_01.row.toRowW) s) (XP := XL hd.view_39 []) (Yf := Hook.obs (kHook hd.heap_39 hd.as hd.asE)) (Ya := Hook.val (kHook hd.heap_39 hd.as hd.asE)) (YP := Hook.says (kHook hd.heap_39 hd.as hd.asE)) (N := 3150) hd.left (Hook.of (kHook hd.heap_39 hd.as hd.asE)) (Hook.keeps (kHook hd.heap_39 hd.as hd.asE)) (fun s e => xl_of s (Bool.and_eq_true_iff.mp e).1) XL.keeps (by rfl) (by rfl) (by rfl) (fun s e => recFacts_of (Bool.and_eq_true_iff.mp e).2) (by rfl) said (by decide +kernel) ⟨rfl, rfl, rfl, rfl, rfl, by decide +kernel⟩ ?hd_w ?hd_c
  case hd_w => w_witness2
  clear said
  k_go0
  k_fold
  iterate 39 walk1
  refine' take_Z rfl ?hr5 ?F5 ?N5 ?X5 ?T5 ?U5 ?ai5 ?l5 ?v5 ?ns5 ?i5 ?z5 ?_
  case hr5 => show callerA.depth + 1 < _; decide
  case F5 => k_asm
  case N5 => k_asm
  case X5 => k_asm
  case T5 => first | assumption | exact topRead_of (by assumption)
  case U5 => k_updF
  case ai5 => k_ne
  case l5 => exact News.isList (by k_asm) (by k_mem)
  case v5 => assumption
  case ns5 => omega
  case i5 => omega
  case z5 => decide
  intro hA tkA vA tvA tiA FA NA lA1 lA2
  try dsimp only at NA
  k_sweep
  iterate 30 walk1
  refine' cry_new_L ?hh ?hr ?F ?N ?X ?T ?_
  case hh => exact rfl
  case hr => show callerA.depth + 1 < _; decide
  case F => k_asm
  case N => k_asm
  case X => k_asm
  case T => exact topRead_of (by assumption)
  intro h1 tk1 x dx lw ka kb kc ta tb F1 N1 l1 l2 l3
  k_sweep
  k_lt l1
  k_lt2 l2
  have n1 : @Ne Nat lw _ := Ne.symm (l3 (_, W.listOf #[Value.ref _, Value.int (0 + 1) _] 0) (by k_mem))
  clear l3
  try dsimp only
  iterate 8 walk1
  refine' rec_new_L ?hh ?hr ?F ?N ?X ?T ?_
  case hh => exact rfl
  case hr => show callerA.depth + 1 < _; decide
  case F => k_asm
  case N => k_asm
  case X => k_asm
  case T => exact topRead_of (by assumption)
  intro h2 tk2 y dy lp kd1 kd2 kd3 kd4 kd5 kd6 kd7 kd8 td te tf F2 N2 l4 l5 l6
  k_sweep
  k_lt l4
  k_lt2 l5
  have n2 : @Ne Nat lp _ := Ne.symm (l6 (_, W.listOf #[Value.ref _, Value.int (0 + 1) _] 0) (by k_mem))
  clear l6
  try dsimp only
  iterate 28 walk1
  refine' take_Z rfl ?hr6 ?F6 ?N6 ?X6 ?T6 ?U6 ?ai6 ?l6 ?v6 ?ns6 ?i6 ?z6 ?_
  case hr6 => show callerA.depth + 1 < _; decide
  case F6 => k_asm
  case N6 => k_asm
  case X6 => k_asm
  case T6 => first | assumption | exact topRead_of (by assumption)
  case U6 => k_updF
  case ai6 => k_ne
  case l6 => exact News.isList (by k_asm) (by k_mem)
  case v6 => assumption
  case ns6 => omega
  case i6 => omega
  case z6 => decide
  intro hB tkB vB tvB tiB FB NB c0 c1
  try dsimp only at NB
  k_sweep
  iterate 3 walk1
  rename_i hE tkE tR uR vR hRng FE NE hkE
  rename Shared => s1
  rename Top _ _ _ _ _ (Shared.heap _) => TT
  rename Frag.In _ (Shared.heap _) => X0
  have T0 := topRead_of TT
  rename IntsAre _ (List.take 40 _) => hints
  rename (List.take 40 _).length = _ => hlen
  refine' law_go (kc := ⟨_, _, _⟩) (kr := ⟨_, _, _, _, _, _, _, _⟩) (vO := none) (vM := none) ?hr ?hhi ?hh ?F ?N ?hin ?hns ?hlim ?hc ?hD ?hF ?hO ?hM ?hsys ?chain ?n1 ?n2 ?n3 ?n4 ?n5 ?turn ?done
  case hr => exact hRng
  case hh => rfl
  case F => exact FE
  case N => exact NE
  case hin => exact hints
  case hhi => exact ⟨by omega, by omega⟩
  case hns => rw [hlen]; omega
  case hlim => exact ⟨by omega, by omega⟩
  case hc => exact ⟨by omega, by omega⟩
  case hD => assumption
  case hF => assumption
  case hsys => assumption
  case chain => exact ⟨by omega, by omega, by omega, by omega, by omega, by omega, by omega, by omega, by omega⟩
  case hO => assumption
  case hM => assumption
  case n1 => rfl
  case n2 => rfl
  case n3 => rfl
  case n4 => rfl
  case n5 => rfl
  case turn =>
    intro C i t S m₁ h tk it o St e1 e2 e3 hi9 ok ho hne htl F N
    generalize Array.size (Heap.objs (Shared.heap s1)) = L0 at e1 e2 e3 St F N ⊢
    generalize Shared.heap s1 = g0 at X0 T0 St ok F N ⊢
    k_fold
    dsimp only
    refine turn_openE St ok e1 e2 e3 hne N fun TL N1 mx my mai mcF mit mtl j1 j2 j3 j4 j5 j6 => ?_
    refine law_apartE St e2 e3 fun p1 p2 p3 p4 p5 p6 p7 p8 p9 pa pb pc pd pe pf pg => ?_
    clear N htl
    have F1 := fr_at F [("box", .ref C.b), ("limit", .int C.lim C.tlim), ("whole", .bytes S.whole S.tw), ("crypto", .ref C.x), ("part", .ref C.y)] (all_mk ok.box (all_mk ok.limit (all_mk ok.whole (all_mk ok.crypto (all_mk ok.part (fun _ h => nomatch h))))))
    clear F
    dsimp only [putAll] at F1
    obtain ⟨ns, hws, hns⟩ := St.hints
    have hl6 := St.lim.1
    have hl13 := St.lim.2
    have c0 := ok.c0
    have c1 := ok.c1
    have hcF := St.cF
    have hcO := ok.cO
    have hcM := ok.cM
    have hdict := ok.dict
    have hflat := ok.flat
    have hsys := St.sys
    iterate 4 (iterate 7 walk1; try dsimp only)
    refine' take_Z rfl ?hr5 ?F5 ?N5 ?X5 ?T5 ?U5 ?ai5 ?l5 ?v5 ?ns5 ?i5 ?z5 ?_
    case hr5 => show callerA.depth + 1 < _; decide
    case F5 => k_asm
    case N5 => k_asm
    case X5 => k_asm
    case T5 => first | assumption | exact topRead_of (by assumption)
    case U5 => k_updF
    case ai5 => k_ne
    case l5 => exact News.isList (by k_asm) (by k_mem)
    case v5 => assumption
    case ns5 => omega
    case i5 => omega
    case z5 => decide
    intro hA tkA vA tvA tiA FA NA lA1 lA2
    try dsimp only at NA
    k_sweep
    iterate 2 (iterate 6 walk1; try dsimp only)
    walk1
    refine' take_Z rfl ?hr6 ?F6 ?N6 ?X6 ?T6 ?U6 ?ai6 ?l6 ?v6 ?ns6 ?i6 ?z6 ?_
    case hr6 => show callerA.depth + 1 < _; decide
    case F6 => k_asm
    case N6 => k_asm
    case X6 => k_asm
    case T6 => first | assumption | exact topRead_of (by assumption)
    case U6 => k_updF
    case ai6 => k_ne
    case l6 => exact News.isList (by k_asm) (by k_mem)
    case v6 => assumption
    case ns6 => omega
    case i6 => omega
    case z6 => decide
    intro hB tkB vB tvB tiB FB NB lB1 lB2
    try dsimp only at NB
    k_sweep
    iterate 4 (iterate 8 walk1; try dsimp only)
    refine' take_Z rfl ?hr7 ?F7 ?N7 ?X7 ?T7 ?U7 ?ai7 ?l7 ?v7 ?ns7 ?i7 ?z7 ?_
    case hr7 => show callerA.depth + 1 < _; decide
    case F7 => k_asm
    case N7 => k_asm
    case X7 => k_asm
    case T7 => first | assumption | exact topRead_of (by assumption)
    case U7 => k_updF
    case ai7 => k_ne
    case l7 => exact News.isList (by k_asm) (by k_mem)
    case v7 => assumption
    case ns7 => omega
    case i7 => omega
    case z7 => decide
    intro hD tkD vD tvD tiD FD ND lD1 lD2
    try dsimp only at ND
    k_sweep
    iterate 22 walk1
    try dsimp only
    generalize hdat : byteArr _ = data
    have hsz : data.size ≤ 5 := by
      rw [← hdat, byteArr_size, List.length_map, rangeKs_length]
      omega
    clear hdat
    rename News _ _ _ _ => N
    replace N := nw_tl (nw_tl N)
    try dsimp only
    iterate 3 (iterate 5 walk1; try dsimp only)
    iterate 2 walk1
    rename Fr _ _ _ _ => F
    rename News _ _ _ _ => N
    refine' raise_limit_L rfl ?hr F N ?X ?T ?hx ?U ?_
    case hr => show callerA.depth + 1 < _; decide
    case X => k_asm
    case T => assumption
    case hx => k_mem
    case U => k_updF
    intro hq tkq tq Fq Nq
    clear F N
    try dsimp only
    iterate 7 (iterate 5 walk1; try dsimp only)
    iterate 2 walk1
    rename LawOk _ _ _ _ _ _ _ => ok
    rename LawF _ _ _ => St
    rename (_ < 9) => hi9
    rename Array.size _ ≤ 5 => hsz
    rename Fr _ _ _ _ => F
    rename News _ _ _ _ => N
    have okp := fun off data hd => plain_ok (off := off) (data := data) ok.inv hi9 St.lim.2 hd
    have ok1 := ok.hl
    have ok2 := ok.hp
    refine' by_one_LN ?hh ?hfr ?hfL ?hkL ?hr ?F ?N ?X ?T ?hx ?U ?hl ?hp ?hd1 ?ok ?hlet ?hno
    case hh => exact rfl
    case hfr => exact rfl
    case hfL => exact rfl
    case hkL => exact (show ScopeKind.function ≠ ScopeKind.module by decide)
    case hr => show callerA.depth + 1 < _; decide
    case F => exact F
    case N => exact N
    case X => k_asm
    case T => first | assumption | k_asm
    case hx => k_mem
    case U => k_updF
    case hl => exact list_at F N ok1 (fun q hq => by repeat (first | exact mtl q hq | apply List.Mem.tail))
    case hp => exact pcs_at (P := fun _ _ => True) F N ok2 (fun q hq => by repeat (first | exact mtl q hq | apply List.Mem.tail))
    case hd1 => omega
    case ok => exact okp _ _ hsz
    case hlet =>
      intro hlet h' tk ft t1' t2' lw' vs' n' hk1 F1 N1 hl1 hp1
      clear F N
      have hL2 := ok.L2
      have ok3 := ok.hl2
      have ok4 := ok.hp2
      refine list_tailPE F1 hl1 hp1 fun tl1 Nt1 pt1 la1 qa1 => ?_
      have at1 : ∀ q ∈ tl1, h'.get? q.1 = some q.2 := fun q hq => (Nt1 q hq).1
      have gdy : h'.get? C.dy = some _ := N1.get (by k_mem)
      have gdf : h'.get? C.df = some S.oD := N1.get (by k_mem)
      have gdx : h'.get? C.dx = some _ := N1.get (by k_mem)
      have y2 := tl_app j2 (pc_off at1 gdx rfl pt1)
      have y3 := tl_app j3 (pc_off at1 gdy rfl pt1)
      have y4 := tl_app j4 (pc_off at1 gdf (by rw [dict_cls hdict]; decide) pt1)
      have N2 : News _ _ _ (_ :: _ :: _ :: _ :: _ :: _ :: (TL ++ tl1)) := led_app N1 Nt1
      clear N1
      refine plain_strE qa1 ok.inv hi9 St.lim.2 hsz fun s1 s2 s3 s4 s5 => ?_
      iterate 12 walk1
      rename Fr _ _ _ _ => F
      rename News _ _ _ _ => N
      refine' by_other_L ?hh ?hr ?F ?N ?X ?T ?hx ?U ?hl ?hp ?hd1 ?hlet ?ok ?hst ?hsl ?hfz ?_
      case hh => exact rfl
      case hr => show callerA.depth + 1 < _; decide
      case F => exact F
      case N => exact N
      case X => k_asm
      case T => first | assumption | k_asm
      case hx => k_mem
      case U => k_updF
      case hl => exact list_at F N ok3 (fun q hq => by repeat (first | exact List.mem_append_left _ (mtl q hq) | apply List.Mem.tail))
      case hp => exact pcs_at (P := fun _ _ => True) F N ok4 (fun q hq => by repeat (first | exact List.mem_append_left _ (mtl q hq) | apply List.Mem.tail))
      case hd1 => omega
      case hlet => omega
      case ok => exact okp _ _ hsz
      case hst => exact s3
      case hsl => exact s4
      case hfz => rw [s1]; exact s5
      intro h2 tk2 ft2 t2b t3b lw2 vs2b n2 hk2 F2 N2b hl2 hp2
      rw [s1] at hp2 N2b ⊢
      clear F N
      refine list_tailPE F2 hl2 hp2 fun tl2 Nt2 pt2 la2 qa2 => ?_
      have at2 : ∀ q ∈ tl2, h2.get? q.1 = some q.2 := fun q hq => (Nt2 q hq).1
      have gdf2 : h2.get? C.df = some S.oD := N2b.get (by k_mem)
      have gdx2 : h2.get? C.dx = some _ := N2b.get (by k_mem)
      have gdy2 : h2.get? C.dy = some _ := N2b.get (by k_mem)
      have z2 := tl_app y2 (pc_off at2 gdx2 rfl pt2)
      have z3 := tl_app y3 (pc_off at2 gdy2 rfl pt2)
      have z4 := tl_app y4 (pc_off at2 gdf2 (by rw [dict_cls hdict]; decide) pt2)
      have N3 : News _ _ _ (_ :: _ :: _ :: _ :: _ :: _ :: (TL ++ tl1 ++ tl2)) := led_app N2b Nt2
      clear N2b
      generalize hA : arrF S.told S.ps _ data = AR at s1 s2 s5 qa1 qa2 N3 ⊢
      obtain ⟨one, told2, ps2⟩ := AR
      dsimp only at s1 s2 s5 qa1 qa2 N3 ⊢
      subst s2
      have okd := ok.rd
      have okl := ok.dlen
      iterate 21 walk1
      refine wpAny_For ?_
      iterate 6 walk1
      rename Fr _ _ _ _ => F
      rename News _ _ _ _ => N
      replace N := nw_tl N
      obtain ⟨off, hoff⟩ := get_off hA
      refine' enum_fill (df := C.df) (oD := S.oD) off ?hh ?F ?N ?U hdict hflat okd okl ?fturn ?fdone
      case hh => exact rfl
      case F => exact F
      case N => exact N
      case U => k_updF
      all_goals subst hoff
      case fturn =>
        intro j c u ti T m₁ oD' kvs' D' h tk own hx hm hd hf hr hl hT ho F1 N1
        have w4 := tl_app z4 (fun q hq e => ho oD' (C.df, oD') (by k_mem) q hq e.symm)
        replace N1 : News _ _ _ (_ :: _ :: _ :: _ :: _ :: _ :: (TL ++ tl1 ++ tl2 ++ own)) := N1
        have hj : j < data.size := (Array.getElem?_eq_some_iff.mp hx).1
        iterate 8 walk1
        k_fold
        dsimp only
        iterate 21 walk1
        dsimp only
        rename PyProof.V.Flat _ _ => hv
        rw [hr, getD_int] at hv
        obtain ⟨tv, rfl⟩ := hv.int_inv
        rename Fr _ _ _ _ => F
        rename News _ _ _ _ => N
        refine' setItem_K PyProof.V.same_int (intKind_is _ _ _ _) ?v ?F ?N ?U ?d ?f ?_ ?z
        case F => exact F
        case N => exact N
        case U => k_updF
        case d => exact hd
        case f => exact hf
        case v => exact PyProof.V.Flat.int _ _
        case z => rw [sizeLine_eq]; omega
        intro h3 o3 F3 N3 hd3 hf3
        repeat' walk1
        change TurnEndO _ _ own _ _ _ Flow.next _
        unfold TurnEndO
        dsimp only
        refine ⟨_, _, _, _, rfl, F3, ?N, ?off, o3, _, _, rfl, ?names, hd3, hf3, ?rd, ?len⟩
        case N => exact N3
        case off => exact ho o3
        case names =>
          intro y h1 h2
          dsimp only
          rw [if_neg h2, if_neg h1]
          exact hm y h1 h2
        case rd =>
          intro k
          rw [rd_put hr k, fill_succ hx k]
          exact congrArg _ fill_fin
        case len => exact Nat.le_trans (PyProof.V.putD_length_le _ _ _) (by omega)
      case fdone =>
        intro m₁ oD' kvs' D' h tk hm hd hf hr hl F1 N1
        dsimp only
        have F := fr_at F1 [("one", .bytes one ft), ("other", .bytes one ft2), ("box", .ref C.b), ("limit", .int C.lim C.tlim), ("whole", .bytes S.whole S.tw), ("crypto", .ref C.x), ("part", .ref C.y)] (all_mk ((hm (Str.ofString "one") (by decide) (by decide)).trans rfl) (all_mk ((hm (Str.ofString "other") (by decide) (by decide)).trans rfl) (all_mk ((hm (Str.ofString "box") (by decide) (by decide)).trans rfl) (all_mk ((hm (Str.ofString "limit") (by decide) (by decide)).trans rfl)
          (all_mk ((hm (Str.ofString "whole") (by decide) (by decide)).trans rfl) (all_mk ((hm (Str.ofString "crypto") (by decide) (by decide)).trans rfl) (all_mk ((hm (Str.ofString "part") (by decide) (by decide)).trans rfl) (fun _ h => nomatch h))))))))
        clear F1
        dsimp only [putAll] at F
        have hw1 := ok.inv.size
        have hw2 := ok.inv.sizeLe
        have hw3 : S.whole.size ≤ 1000 := by omega
        have hw4 : one.size ≤ 1000 := by omega
        iterate 6 walk1
        rw [show (one.toList != one.toList) = false from bne_self_eq_false _]
        iterate 21 walk1
        simp only [ne_eq, not_true_eq_false, decide_false, bne_self_eq_false, decide_true, Bool.not_true]
        iterate 10 walk1
        try dsimp only
        rename Fr _ _ _ _ => F
        rename News _ _ _ _ => N
        have g1 := list_at F N la1 (fun q hq => by repeat (first | exact List.mem_append_left _ (List.mem_append_right _ hq) | apply List.Mem.tail))
        have g2 := list_at F N la2 (fun q hq => by repeat (first | exact List.mem_append_right _ hq | apply List.Mem.tail))
        have pp1 := pcs_at (P := fun _ _ => True) F N qa1 (fun q hq => by repeat (first | exact List.mem_append_left _ (List.mem_append_right _ hq) | apply List.Mem.tail))
        have pp2 := pcs_at (P := fun _ _ => True) F N qa2 (fun q hq => by repeat (first | exact List.mem_append_right _ hq | apply List.Mem.tail))
        refine ne_pcs g1 g2 pp1 pp2 (by show callerA.units + 3 + 64 < cLine; decide) fun tk9 => ?_
        have INV := plain_next ok.inv hi9 St.lim.2 hsz (by split <;> omega) hlet
        rw [hA] at INV
        dsimp only at INV
        have hvl : vs'.length ≤ 1000 := by rw [qa1.length]; have := INV.lenp; omega
        iterate 8 walk1
        rename Fr _ _ _ _ => F
        rename News _ _ _ _ => N
        refine' has_waiting_L ?hh ?hr ?F ?N ?X ?T ?hx ?U ?hl hvl ?_
        case hh => exact rfl
        case hr => show callerA.depth + 1 < _; decide
        case F => exact F
        case N => exact N
        case X => k_asm
        case T => first | assumption | k_asm
        case hx => k_mem
        case U => k_updF
        case hl => exact list_at F N la1 (fun q hq => by repeat (first | exact List.mem_append_left _ (List.mem_append_right _ hq) | apply List.Mem.tail))
        intro h8 tk8 hk8 F8 N8
        clear F N
        try dsimp only
        iterate 7 walk1
        rename Fr _ _ _ _ => F
        rename News _ _ _ _ => N
        have g3 := list_at F N la2 (fun q hq => by repeat (first | exact List.mem_append_right _ hq | apply List.Mem.tail))
        have pp3 := pcs_at (P := fun _ _ => True) F N qa2 (fun q hq => by repeat (first | exact List.mem_append_right _ hq | apply List.Mem.tail))
        refine ne_nilP g3 (N.get (by k_mem)) pp3 (by show callerA.units + 3 + 64 < cLine; decide) fun tk10 => ?_
        rw [qa1.length]
        generalize decide (0 < ps2.length) = bb
        try dsimp only
        have hsz2 : (((S.whole ++ one).size : Nat) : Int) = S.told + one.size := by rw [Array.size_append]; omega
        have hsz3 : (S.whole ++ one).size ≤ 1000 := by rw [Array.size_append]; omega
        have hi0 := ok.c0
        have hi1 := ok.c1
        have okL2 := ok.L2
        have okhigh := ok.high
        iterate 1 walk1
        rw [show (bb != bb) = false from bne_self_eq_false _]
        iterate 20 walk1
        rw [hsz2]
        simp only [bne_self_eq_false, not_true_eq_false, decide_false, decide_true, Bool.not_true]
        iterate 8 walk1
        rename Fr _ _ _ _ => F
        rename News _ _ _ _ => N
        refine' used_to_L rfl ?hr F N ?X ?T ?hx ?U ?_
        case hr => show callerA.depth + 1 < _; decide
        case X => k_asm
        case T => assumption
        case hx => k_mem
        case U => k_updF
        intro hq tkq tq Fq Nq
        clear F N
        iterate 4 walk1
        simp only [bne_self_eq_false, not_true_eq_false, decide_false, decide_true, Bool.not_true]
        repeat' walk1
        rename Fr _ _ _ _ => F
        rename News _ _ _ _ => N
        have z1 := list_at F N la1 (fun q hq => by repeat (first | exact List.mem_append_left _ (List.mem_append_right _ hq) | apply List.Mem.tail))
        have z2' := list_at F N la2 (fun q hq => by repeat (first | exact List.mem_append_right _ hq | apply List.Mem.tail))
        have z3' := pcs_at (P := fun _ _ => True) F N qa1 (fun q hq => by repeat (first | exact List.mem_append_left _ (List.mem_append_right _ hq) | apply List.Mem.tail))
        have z5 := pcs_at (P := fun _ _ => True) F N qa2 (fun q hq => by repeat (first | exact List.mem_append_right _ hq | apply List.Mem.tail))
        refine' turn_end_let St ok F N ?ho hne ?mit ?mb ?mdx ?mdy ?mdf ?mO ?mM ?mx ?my ?mai ?mcF z1 z2' z3' z5 ?n1 ?n2 ?n3 ?n4 ?n5 ?c0 ?c1 ?cO ?cM ?L2 ?high hd hf hr ?dlen INV
        case mb => k_mem
        case mdx => k_mem
        case mdy => k_mem
        case mdf => k_mem
        case mO => rw [e2]; k_mem
        case mM => rw [e3]; k_mem
        case mx => k_mem
        case my => k_mem
        case mai => k_mem
        case mcF => rw [e1]; k_mem
        case mit => k_mem
        case ho => assumption
        case n1 => rfl
        case n2 => rfl
        case n3 => rfl
        case n4 => rfl
        case n5 => rfl
        case c0 => omega
        case c1 => omega
        case cO => assumption
        case cM => assumption
        case L2 => omega
        case high => omega
        case dlen => omega
    case hno =>
      intro hnolet h' tk t Fn Nn
      rename Array.size _ ≤ 5 => hsz
      rename LawOk _ _ _ _ _ _ _ => ok
      rename LawF _ _ _ => St
      have hL2 := ok.L2
      iterate 12 walk1
      rename Fr _ _ _ _ => F
      rename News _ _ _ _ => N
      refine' by_other_no_L ?hh ?hfr ?hfL ?hkL ?hr ?F ?N ?X ?T ?hx ?hd ?hd1 ?hno ?_
      case hh => exact rfl
      case hfr => exact rfl
      case hfL => exact rfl
      case hkL => exact (show ScopeKind.function ≠ ScopeKind.module by decide)
      case hr => show callerA.depth + 1 < _; decide
      case F => exact F
      case N => exact N
      case X => k_asm
      case T => first | assumption | k_asm
      case hx => k_mem
      case hd => k_mem
      case hd1 => omega
      case hno => omega
      intro h2 tk2 tt2 F2 N2
      clear F N
      repeat' walk1
      rename Fr _ _ _ _ => F
      rename News _ _ _ _ => N
      rename (∀ a ∈ _, a ≠ _) => hneA
      have hi0 := ok.c0
      have hi1 := ok.c1
      refine TurnEnd.cont ?_
      refine' turn_end_no St ok F N ?ho hneA ?mit ?mb ?mdx ?mdy ?mdf ?mO ?mM ?mx ?my ?mai ?mcF ?mtl ?n1 ?n2 ?n3 ?n4 ?n5 ?c0 ?c1 ?cO ?cM ?L2
      case mb => k_mem
      case mdx => k_mem
      case mdy => k_mem
      case mdf => k_mem
      case mO => rw [e2]; k_mem
      case mM => rw [e3]; k_mem
      case mx => k_mem
      case my => k_mem
      case mai => k_mem
      case mcF => rw [e1]; k_mem
      case mit => k_mem
      case ho => assumption
      case mtl => exact fun q hq => by repeat (first | exact mtl q hq | apply List.Mem.tail)
      case n1 => rfl
      case n2 => rfl
      case n3 => rfl
      case n4 => rfl
      case n5 => rfl
      case c0 => omega
      case c1 => omega
      case cO => assumption
      case cM => assumption
      case L2 => omega
  case done =>
    intro C n S m₁ h tk St e1 e2 e3 hn9 ok F N
    have F1 := fr_at F [("box", .ref C.b), ("limit", .int C.lim C.tlim), ("whole", .bytes S.whole S.tw), ("crypto", .ref C.x), ("part", .ref C.y)] (all_mk ok.box (all_mk ok.limit (all_mk ok.whole (all_mk ok.crypto (all_mk ok.part (fun _ h => nomatch h))))))
    clear F
    dsimp only [putAll] at F1
    have k1 := St.chain
    have hcF := St.cF
    have hdict := ok.dict
    have hflat := ok.flat
    have hsys := St.sys
    have okd := ok.rd
    have inv := ok.inv
    dsimp only [ledg] at N
    rw [e1] at N
    iterate 5 walk1
    rename Fr _ _ _ _ => F
    rename News _ _ _ _ => N
    refine' While_up (i := Str.ofString "at") (c := fun k => (S.f k).isSome) (k₀ := 0) (K := S.told) F N rfl ?gtest ?gturn ?stop ?done ?hE
    case hE => passes_own
    case gtest =>
      intro k t h1 tk1 hk F1 N1
      iterate 6 walk1
      · rw [okd k]; cases S.f k <;> rfl
      · exact ⟨_, _, rfl, fun _ _ e => e⟩
    case gturn =>
      intro k t h1 tk1 hk hc F1 N1
      repeat' walk1
    case stop =>
      have c1 := inv.size
      have c2 := inv.cov S.told
      refine ⟨by omega, ?_⟩
      dsimp only
      rw [c2, if_neg (by omega)]
      have : pcAt S.ps S.told = none := by
        unfold pcAt
        rw [List.findSome?_eq_none_iff]
        intro q hq
        have := inv.szp q hq
        rw [if_neg (by omega)]
      rw [this]
      rfl
    case done =>
      intro k t h1 tk1 hk0 hk1 hall hend _ F1 N1
      have hk : k = S.told := by
        have c1 := inv.size
        rcases Int.lt_trichotomy k S.told with e | e | e
        · have c2 := inv.cov k
          rw [if_pos ⟨hk0, e⟩] at c2
          rw [c2] at hend
          have hlt : k.toNat < S.whole.size := by omega
          rw [Array.getElem?_eq_getElem hlt] at hend
          cases hend
        · exact e
        · omega
      subst hk
      unfold bindM at F1
      have q1 := inv.size
      have q2 := inv.sizeLe
      have q3 : S.told ≤ 117 := by omega
      have q0 : 0 ≤ S.told := hk0
      iterate 17 walk1
      all_goals first | exact (fun p : Int => (S.f p).getD 0) | skip
      · iterate 3 walk1
        rename_i kk tt I1 oI1 C1 oC1 D1 m1 ys1 h1' tk1' E1 hlo hhi hC hx F1' N1' off1 ne1 hm1
        have hlk : PySem.Spec.lookup (.int kk) S.D = some (.int ((S.f kk).getD 0)) := by
          rw [okd kk]
          have c2 := inv.cov kk
          rw [if_pos ⟨hlo, rng_lt hhi q0⟩] at c2
          rw [c2, Array.getElem?_eq_getElem (rng_at q1 hlo (rng_lt hhi q0))]
          rfl
        refine item_intTab (D := S.D) (TabAt.ofNews N1' (by k_mem) hsys hdict hflat) hlk (fun v hv => ?_)
        obtain ⟨tz, rfl⟩ := hv.int_inv
        iterate 2 walk1
      · iterate 3 walk1
        have hKB := cov_in inv
        iterate 1 walk1
        rw [cov_eq inv]
        iterate 1 walk1
        rw [show (S.whole.toList == S.whole.toList) = true from beq_self_eq_true _]
        repeat' walk1
        first
          | (k_unfold; (try dsimp only); k_end; wrow_close)
          | (show GoodW _ _ _ _ _ (Except.ok (Flow.ret (Value.bool true))) _; k_end; wrow_close))
end Mine

theorem PySem.Challenge.cw_sa0567_01_holds : PySem.Challenge.rw_sa0567_01.Holds :=
  Mine.law_walk
