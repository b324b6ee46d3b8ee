import PyProof.Rows.All
import Wide.All
import OpenK.AllK
import Wide.FinOn
import PySem.Challenge.RW_nz0345_01
open PySem PySem.W PyProof.Rows
set_option Elab.async false
set_option linter.unusedVariables false
set_option linter.unusedSimpArgs false
set_option maxRecDepth 100000
set_option maxHeartbeats 8000000
set_option rowWalk.seconds 0
namespace Mine






noncomputable def at9 (i : Nat) : Stmt := PySem.Challenge.pw_nz0345_01.main.body.getD i (.Pass ⟨0, 0, 0, 0⟩)
noncomputable def inC9 (s : Stmt) (j : Nat) : Stmt := match s with | .ClassDef _ _ _ b .. => b.getD j (.Pass ⟨0, 0, 0, 0⟩) | _ => .Pass ⟨0, 0, 0, 0⟩
@[reducible] noncomputable def fnO {n : Str} {a : Arguments} {b : List Stmt} {d : List PySem.Expr} {r : Option PySem.Expr} {t : List TypeParam} {sc : Scope} {ts : Option Scope} {bi : Str} {po : Pos} {st : Stmt} (_ : st = .FunctionDef n a b d r t sc ts bi po) (qn mn : String) (mt : Tok) (cd : Addr) : Obj :=
  { cls := .type "function", data := .func { name := n, qualname := Str.ofString qn, params := a, body := .stmts b, scope := sc, globals := 3, closure := [], defaults := .none, kwdefaults := .none, pyModule := .str (Str.ofString mn) mt, code := .ref cd } }
@[reducible] noncomputable def en9 (P : Params) (n : String) (t : Tok) (v : Value) : DictEntry := { hash := PyData.keyHash P (Str.ofString n), key := .str (Str.ofString n) t, val := v }
noncomputable def K9 : Params → Frag := fun P =>
  (nat_lit 3, { cls := Value.type "dict", data := Data.dict #[en9 P "__name__" 165 (Value.str (Str.ofString "law_nz0345_01") 523), en9 P "__doc__" 166 (Value.none), en9 P "__package__" 167 (Value.none), en9 P "__loader__" 168 (Value.builtin "__main__.__loader__#opaque"), en9 P "__spec__" 169 (Value.none), en9 P "__annotations__" 170 (Value.ref 6), en9 P "__builtins__" 171 (Value.ref 4), en9 P "__file__" 173 (Value.str (Str.ofString "/claim/cut.py") 172), en9 P "__cached__" 174 (Value.none), en9 P "FLOW_CONTROL_ERROR" 190 (Value.int 3 189), en9 P "STREAM_LIMIT_ERROR" 192 (Value.int 4 191), en9 P "STREAM_STATE_ERROR" 194 (Value.int 5 193), en9 P "QuicError" 227 (Value.ref 31), en9 P "Credit" 298 (Value.ref 86), en9 P "Window" 363 (Value.ref 135), en9 P "CLIENT" 367 (Value.str (Str.ofString "client") 366), en9 P "SERVER" 369 (Value.str (Str.ofString "server") 368), en9 P "SENDING_FRAMES" 373 (Value.ref 140), en9 P "FRAME_TYPES" 389 (Value.ref 141), en9 P "stream_id" 398 (Value.ref 148), en9 P "number_of" 405 (Value.ref 155), en9 P "opener_of" 412 (Value.ref 162), en9 P "is_one_way" 419 (Value.ref 169), en9 P "can_send" 427 (Value.ref 176), en9 P "can_receive" 435 (Value.ref 183), en9 P "StreamIds" 522 (Value.ref 240), en9 P "_law_box" 533 (Value.ref 251), en9 P "_law_take" 541 (Value.ref 258), en9 P "_law_sent" 549 (Value.ref 265), en9 P "_law_came" 557 (Value.ref 272), en9 P "_law_read" 565 (Value.ref 279), en9 P "_law_told" 574 (Value.ref 286), en9 P "_law_heard" 587 (Value.ref 293), en9 P "_law_lost" 597 (Value.ref 300), en9 P "_law_blocked" 607 (Value.ref 307), en9 P "_law_opened" 615 (Value.ref 314), en9 P "_law_step" 625 (Value.ref 321), en9 P "law" 637 (Value.ref 328)] 38 }) ::
  (nat_lit 42, { cls := Value.type "tuple", data := Data.seq #[] }) ::
  (nat_lit 44, { cls := Value.type "tuple", data := Data.seq #[Value.str (Str.ofString "self") 245, Value.str (Str.ofString "limit") 246] }) ::
  (nat_lit 45, { cls := Value.type "tuple", data := Data.seq #[] }) ::
  (nat_lit 47, { cls := Value.type "code", data := Data.fields #[Value.str (Str.ofString "__init__") 242, Value.str (Str.ofString "Credit.__init__") 243, Value.str (Str.ofString "/claim/cut.py") 244, Value.int 15 0, Value.int 2 0, Value.int 0 0, Value.int 0 0, Value.int 3 0, Value.ref 42, Value.bool true, Value.int 181 0, Value.ref 43, Value.none, Value.ref 44, Value.ref 45, Value.ref 46, Value.int 247 0, Value.int 15 0, Value.str (Str.ofString "/claim/cut.py") 248] }) ::
  (nat_lit 48, fnO (st := (inC9 (at9 6) 0)) rfl "Credit.__init__" "quic.flow" 228 47) ::
  (nat_lit 49, { cls := Value.type "tuple", data := Data.seq #[] }) ::
  (nat_lit 51, { cls := Value.type "tuple", data := Data.seq #[Value.str (Str.ofString "self") 253] }) ::
  (nat_lit 52, { cls := Value.type "tuple", data := Data.seq #[] }) ::
  (nat_lit 54, { cls := Value.type "code", data := Data.fields #[Value.str (Str.ofString "room") 250, Value.str (Str.ofString "Credit.room") 251, Value.str (Str.ofString "/claim/cut.py") 252, Value.int 20 0, Value.int 1 0, Value.int 0 0, Value.int 0 0, Value.int 3 0, Value.ref 49, Value.bool true, Value.int 181 0, Value.ref 50, Value.none, Value.ref 51, Value.ref 52, Value.ref 53, Value.int 254 0, Value.int 20 0, Value.str (Str.ofString "/claim/cut.py") 255] }) ::
  (nat_lit 55, fnO (st := (inC9 (at9 6) 1)) rfl "Credit.room" "quic.flow" 228 54) ::
  (nat_lit 56, { cls := Value.type "tuple", data := Data.seq #[] }) ::
  (nat_lit 58, { cls := Value.type "tuple", data := Data.seq #[Value.str (Str.ofString "self") 260, Value.str (Str.ofString "many") 261] }) ::
  (nat_lit 59, { cls := Value.type "tuple", data := Data.seq #[] }) ::
  (nat_lit 61, { cls := Value.type "code", data := Data.fields #[Value.str (Str.ofString "spend") 257, Value.str (Str.ofString "Credit.spend") 258, Value.str (Str.ofString "/claim/cut.py") 259, Value.int 23 0, Value.int 2 0, Value.int 0 0, Value.int 0 0, Value.int 3 0, Value.ref 56, Value.bool true, Value.int 181 0, Value.ref 57, Value.none, Value.ref 58, Value.ref 59, Value.ref 60, Value.int 262 0, Value.int 23 0, Value.str (Str.ofString "/claim/cut.py") 263] }) ::
  (nat_lit 62, fnO (st := (inC9 (at9 6) 2)) rfl "Credit.spend" "quic.flow" 228 61) ::
  (nat_lit 63, { cls := Value.type "tuple", data := Data.seq #[] }) ::
  (nat_lit 65, { cls := Value.type "tuple", data := Data.seq #[Value.str (Str.ofString "self") 268, Value.str (Str.ofString "limit") 269] }) ::
  (nat_lit 66, { cls := Value.type "tuple", data := Data.seq #[] }) ::
  (nat_lit 68, { cls := Value.type "code", data := Data.fields #[Value.str (Str.ofString "raise_to") 265, Value.str (Str.ofString "Credit.raise_to") 266, Value.str (Str.ofString "/claim/cut.py") 267, Value.int 28 0, Value.int 2 0, Value.int 0 0, Value.int 0 0, Value.int 3 0, Value.ref 63, Value.bool true, Value.int 181 0, Value.ref 64, Value.none, Value.ref 65, Value.ref 66, Value.ref 67, Value.int 270 0, Value.int 28 0, Value.str (Str.ofString "/claim/cut.py") 271] }) ::
  (nat_lit 69, fnO (st := (inC9 (at9 6) 3)) rfl "Credit.raise_to" "quic.flow" 228 68) ::
  (nat_lit 70, { cls := Value.type "tuple", data := Data.seq #[] }) ::
  (nat_lit 72, { cls := Value.type "tuple", data := Data.seq #[Value.str (Str.ofString "self") 276] }) ::
  (nat_lit 73, { cls := Value.type "tuple", data := Data.seq #[] }) ::
  (nat_lit 75, { cls := Value.type "code", data := Data.fields #[Value.str (Str.ofString "next_blocked") 273, Value.str (Str.ofString "Credit.next_blocked") 274, Value.str (Str.ofString "/claim/cut.py") 275, Value.int 34 0, Value.int 1 0, Value.int 0 0, Value.int 0 0, Value.int 3 0, Value.ref 70, Value.bool true, Value.int 181 0, Value.ref 71, Value.none, Value.ref 72, Value.ref 73, Value.ref 74, Value.int 277 0, Value.int 34 0, Value.str (Str.ofString "/claim/cut.py") 278] }) ::
  (nat_lit 76, fnO (st := (inC9 (at9 6) 4)) rfl "Credit.next_blocked" "quic.flow" 228 75) ::
  (nat_lit 77, { cls := Value.type "tuple", data := Data.seq #[] }) ::
  (nat_lit 79, { cls := Value.type "tuple", data := Data.seq #[Value.str (Str.ofString "self") 283, Value.str (Str.ofString "limit") 284] }) ::
  (nat_lit 80, { cls := Value.type "tuple", data := Data.seq #[] }) ::
  (nat_lit 82, { cls := Value.type "code", data := Data.fields #[Value.str (Str.ofString "on_blocked_lost") 280, Value.str (Str.ofString "Credit.on_blocked_lost") 281, Value.str (Str.ofString "/claim/cut.py") 282, Value.int 40 0, Value.int 2 0, Value.int 0 0, Value.int 0 0, Value.int 3 0, Value.ref 77, Value.bool true, Value.int 181 0, Value.ref 78, Value.none, Value.ref 79, Value.ref 80, Value.ref 81, Value.int 285 0, Value.int 40 0, Value.str (Str.ofString "/claim/cut.py") 286] }) ::
  (nat_lit 83, fnO (st := (inC9 (at9 6) 5)) rfl "Credit.on_blocked_lost" "quic.flow" 228 82) ::
  (nat_lit 85, { cls := Value.type "dict", data := Data.dict #[en9 P "__module__" 237 (Value.str (Str.ofString "quic.flow") 228), en9 P "__firstlineno__" 241 (Value.int 13 240), en9 P "__init__" 249 (Value.ref 48), en9 P "room" 256 (Value.ref 55), en9 P "spend" 264 (Value.ref 62), en9 P "raise_to" 272 (Value.ref 69), en9 P "next_blocked" 279 (Value.ref 76), en9 P "on_blocked_lost" 287 (Value.ref 83), en9 P "__static_attributes__" 291 (Value.ref 84), en9 P "__dict__" 293 (Value.ref 87), en9 P "__weakref__" 295 (Value.ref 88), en9 P "__doc__" 296 (Value.none)] 4 }) ::
  (nat_lit 86, { cls := Value.type "type", data := Data.cls { name := Str.ofString "Credit", bases := [Value.type "object"], mro := [Value.ref 86, Value.type "object"], ns := 85, qualname := Str.ofString "Credit" }, slots := #[none, none, some (Value.str (Str.ofString "Credit") 230), some (Value.str (Str.ofString "Credit") 238), some (Value.builtin "object.__new__"), some (Value.bool true)] }) ::
  (nat_lit 98, { cls := Value.type "tuple", data := Data.seq #[] }) ::
  (nat_lit 100, { cls := Value.type "tuple", data := Data.seq #[Value.str (Str.ofString "self") 314, Value.str (Str.ofString "size") 315] }) ::
  (nat_lit 101, { cls := Value.type "tuple", data := Data.seq #[] }) ::
  (nat_lit 103, { cls := Value.type "code", data := Data.fields #[Value.str (Str.ofString "__init__") 311, Value.str (Str.ofString "Window.__init__") 312, Value.str (Str.ofString "/claim/cut.py") 313, Value.int 45 0, Value.int 2 0, Value.int 0 0, Value.int 0 0, Value.int 3 0, Value.ref 98, Value.bool true, Value.int 181 0, Value.ref 99, Value.none, Value.ref 100, Value.ref 101, Value.ref 102, Value.int 316 0, Value.int 45 0, Value.str (Str.ofString "/claim/cut.py") 317] }) ::
  (nat_lit 104, fnO (st := (inC9 (at9 7) 0)) rfl "Window.__init__" "quic.flow" 228 103) ::
  (nat_lit 105, { cls := Value.type "tuple", data := Data.seq #[] }) ::
  (nat_lit 107, { cls := Value.type "tuple", data := Data.seq #[Value.str (Str.ofString "self") 322, Value.str (Str.ofString "many") 323] }) ::
  (nat_lit 108, { cls := Value.type "tuple", data := Data.seq #[] }) ::
  (nat_lit 110, { cls := Value.type "code", data := Data.fields #[Value.str (Str.ofString "on_got") 319, Value.str (Str.ofString "Window.on_got") 320, Value.str (Str.ofString "/claim/cut.py") 321, Value.int 52 0, Value.int 2 0, Value.int 0 0, Value.int 0 0, Value.int 3 0, Value.ref 105, Value.bool true, Value.int 181 0, Value.ref 106, Value.none, Value.ref 107, Value.ref 108, Value.ref 109, Value.int 324 0, Value.int 52 0, Value.str (Str.ofString "/claim/cut.py") 325] }) ::
  (nat_lit 111, fnO (st := (inC9 (at9 7) 1)) rfl "Window.on_got" "quic.flow" 228 110) ::
  (nat_lit 112, { cls := Value.type "tuple", data := Data.seq #[] }) ::
  (nat_lit 114, { cls := Value.type "tuple", data := Data.seq #[Value.str (Str.ofString "self") 330, Value.str (Str.ofString "many") 331] }) ::
  (nat_lit 115, { cls := Value.type "tuple", data := Data.seq #[] }) ::
  (nat_lit 117, { cls := Value.type "code", data := Data.fields #[Value.str (Str.ofString "on_read") 327, Value.str (Str.ofString "Window.on_read") 328, Value.str (Str.ofString "/claim/cut.py") 329, Value.int 57 0, Value.int 2 0, Value.int 0 0, Value.int 0 0, Value.int 3 0, Value.ref 112, Value.bool true, Value.int 181 0, Value.ref 113, Value.none, Value.ref 114, Value.ref 115, Value.ref 116, Value.int 332 0, Value.int 57 0, Value.str (Str.ofString "/claim/cut.py") 333] }) ::
  (nat_lit 118, fnO (st := (inC9 (at9 7) 2)) rfl "Window.on_read" "quic.flow" 228 117) ::
  (nat_lit 119, { cls := Value.type "tuple", data := Data.seq #[] }) ::
  (nat_lit 121, { cls := Value.type "tuple", data := Data.seq #[Value.str (Str.ofString "self") 338, Value.str (Str.ofString "is_low") 339] }) ::
  (nat_lit 122, { cls := Value.type "tuple", data := Data.seq #[] }) ::
  (nat_lit 124, { cls := Value.type "code", data := Data.fields #[Value.str (Str.ofString "next_limit") 335, Value.str (Str.ofString "Window.next_limit") 336, Value.str (Str.ofString "/claim/cut.py") 337, Value.int 60 0, Value.int 1 0, Value.int 0 0, Value.int 0 0, Value.int 3 0, Value.ref 119, Value.bool true, Value.int 181 0, Value.ref 120, Value.none, Value.ref 121, Value.ref 122, Value.ref 123, Value.int 340 0, Value.int 60 0, Value.str (Str.ofString "/claim/cut.py") 341] }) ::
  (nat_lit 125, fnO (st := (inC9 (at9 7) 3)) rfl "Window.next_limit" "quic.flow" 228 124) ::
  (nat_lit 126, { cls := Value.type "tuple", data := Data.seq #[] }) ::
  (nat_lit 128, { cls := Value.type "tuple", data := Data.seq #[Value.str (Str.ofString "self") 346, Value.str (Str.ofString "limit") 347] }) ::
  (nat_lit 129, { cls := Value.type "tuple", data := Data.seq #[] }) ::
  (nat_lit 131, { cls := Value.type "code", data := Data.fields #[Value.str (Str.ofString "on_limit_lost") 343, Value.str (Str.ofString "Window.on_limit_lost") 344, Value.str (Str.ofString "/claim/cut.py") 345, Value.int 69 0, Value.int 2 0, Value.int 0 0, Value.int 0 0, Value.int 3 0, Value.ref 126, Value.bool true, Value.int 181 0, Value.ref 127, Value.none, Value.ref 128, Value.ref 129, Value.ref 130, Value.int 348 0, Value.int 69 0, Value.str (Str.ofString "/claim/cut.py") 349] }) ::
  (nat_lit 132, fnO (st := (inC9 (at9 7) 4)) rfl "Window.on_limit_lost" "quic.flow" 228 131) ::
  (nat_lit 134, { cls := Value.type "dict", data := Data.dict #[en9 P "__module__" 306 (Value.str (Str.ofString "quic.flow") 228), en9 P "__firstlineno__" 310 (Value.int 43 309), en9 P "__init__" 318 (Value.ref 104), en9 P "on_got" 326 (Value.ref 111), en9 P "on_read" 334 (Value.ref 118), en9 P "next_limit" 342 (Value.ref 125), en9 P "on_limit_lost" 350 (Value.ref 132), en9 P "__static_attributes__" 356 (Value.ref 133), en9 P "__dict__" 358 (Value.ref 136), en9 P "__weakref__" 360 (Value.ref 137), en9 P "__doc__" 361 (Value.none)] 4 }) ::
  (nat_lit 135, { cls := Value.type "type", data := Data.cls { name := Str.ofString "Window", bases := [Value.type "object"], mro := [Value.ref 135, Value.type "object"], ns := 134, qualname := Str.ofString "Window" }, slots := #[none, none, some (Value.str (Str.ofString "Window") 299), some (Value.str (Str.ofString "Window") 307), some (Value.builtin "object.__new__"), some (Value.bool true)] }) ::
  (nat_lit 140, { cls := Value.type "tuple", data := Data.seq #[Value.str (Str.ofString "stream") 370, Value.str (Str.ofString "reset_stream") 371, Value.str (Str.ofString "stream_data_blocked") 372] }) ::
  (nat_lit 142, { cls := Value.type "tuple", data := Data.seq #[] }) ::
  (nat_lit 144, { cls := Value.type "tuple", data := Data.seq #[Value.str (Str.ofString "number") 393, Value.str (Str.ofString "opener") 394, Value.str (Str.ofString "is_uni") 395] }) ::
  (nat_lit 145, { cls := Value.type "tuple", data := Data.seq #[] }) ::
  (nat_lit 147, { cls := Value.type "code", data := Data.fields #[Value.str (Str.ofString "stream_id") 390, Value.str (Str.ofString "stream_id") 391, Value.str (Str.ofString "/claim/cut.py") 392, Value.int 77 0, Value.int 3 0, Value.int 0 0, Value.int 0 0, Value.int 3 0, Value.ref 142, Value.bool true, Value.int 181 0, Value.ref 143, Value.none, Value.ref 144, Value.ref 145, Value.ref 146, Value.int 396 0, Value.int 77 0, Value.str (Str.ofString "/claim/cut.py") 397] }) ::
  (nat_lit 148, fnO (st := (at9 13)) rfl "stream_id" "quic.streamids" 364 147) ::
  (nat_lit 149, { cls := Value.type "tuple", data := Data.seq #[] }) ::
  (nat_lit 151, { cls := Value.type "tuple", data := Data.seq #[Value.str (Str.ofString "sid") 402] }) ::
  (nat_lit 152, { cls := Value.type "tuple", data := Data.seq #[] }) ::
  (nat_lit 154, { cls := Value.type "code", data := Data.fields #[Value.str (Str.ofString "number_of") 399, Value.str (Str.ofString "number_of") 400, Value.str (Str.ofString "/claim/cut.py") 401, Value.int 79 0, Value.int 1 0, Value.int 0 0, Value.int 0 0, Value.int 3 0, Value.ref 149, Value.bool true, Value.int 181 0, Value.ref 150, Value.none, Value.ref 151, Value.ref 152, Value.ref 153, Value.int 403 0, Value.int 79 0, Value.str (Str.ofString "/claim/cut.py") 404] }) ::
  (nat_lit 155, fnO (st := (at9 14)) rfl "number_of" "quic.streamids" 364 154) ::
  (nat_lit 156, { cls := Value.type "tuple", data := Data.seq #[] }) ::
  (nat_lit 158, { cls := Value.type "tuple", data := Data.seq #[Value.str (Str.ofString "sid") 409] }) ::
  (nat_lit 159, { cls := Value.type "tuple", data := Data.seq #[] }) ::
  (nat_lit 161, { cls := Value.type "code", data := Data.fields #[Value.str (Str.ofString "opener_of") 406, Value.str (Str.ofString "opener_of") 407, Value.str (Str.ofString "/claim/cut.py") 408, Value.int 81 0, Value.int 1 0, Value.int 0 0, Value.int 0 0, Value.int 3 0, Value.ref 156, Value.bool true, Value.int 181 0, Value.ref 157, Value.none, Value.ref 158, Value.ref 159, Value.ref 160, Value.int 410 0, Value.int 81 0, Value.str (Str.ofString "/claim/cut.py") 411] }) ::
  (nat_lit 162, fnO (st := (at9 15)) rfl "opener_of" "quic.streamids" 364 161) ::
  (nat_lit 163, { cls := Value.type "tuple", data := Data.seq #[] }) ::
  (nat_lit 165, { cls := Value.type "tuple", data := Data.seq #[Value.str (Str.ofString "sid") 416] }) ::
  (nat_lit 166, { cls := Value.type "tuple", data := Data.seq #[] }) ::
  (nat_lit 168, { cls := Value.type "code", data := Data.fields #[Value.str (Str.ofString "is_one_way") 413, Value.str (Str.ofString "is_one_way") 414, Value.str (Str.ofString "/claim/cut.py") 415, Value.int 83 0, Value.int 1 0, Value.int 0 0, Value.int 0 0, Value.int 3 0, Value.ref 163, Value.bool true, Value.int 181 0, Value.ref 164, Value.none, Value.ref 165, Value.ref 166, Value.ref 167, Value.int 417 0, Value.int 83 0, Value.str (Str.ofString "/claim/cut.py") 418] }) ::
  (nat_lit 169, fnO (st := (at9 16)) rfl "is_one_way" "quic.streamids" 364 168) ::
  (nat_lit 177, { cls := Value.type "tuple", data := Data.seq #[] }) ::
  (nat_lit 179, { cls := Value.type "tuple", data := Data.seq #[Value.str (Str.ofString "sid") 431, Value.str (Str.ofString "role") 432] }) ::
  (nat_lit 180, { cls := Value.type "tuple", data := Data.seq #[] }) ::
  (nat_lit 182, { cls := Value.type "code", data := Data.fields #[Value.str (Str.ofString "can_receive") 428, Value.str (Str.ofString "can_receive") 429, Value.str (Str.ofString "/claim/cut.py") 430, Value.int 87 0, Value.int 2 0, Value.int 0 0, Value.int 0 0, Value.int 3 0, Value.ref 177, Value.bool true, Value.int 181 0, Value.ref 178, Value.none, Value.ref 179, Value.ref 180, Value.ref 181, Value.int 433 0, Value.int 87 0, Value.str (Str.ofString "/claim/cut.py") 434] }) ::
  (nat_lit 183, fnO (st := (at9 18)) rfl "can_receive" "quic.streamids" 364 182) ::
  (nat_lit 191, { cls := Value.type "tuple", data := Data.seq #[] }) ::
  (nat_lit 193, { cls := Value.type "tuple", data := Data.seq #[Value.str (Str.ofString "self") 451, Value.str (Str.ofString "role") 452, Value.str (Str.ofString "own_limits") 453, Value.str (Str.ofString "peer_limits") 454] }) ::
  (nat_lit 194, { cls := Value.type "tuple", data := Data.seq #[] }) ::
  (nat_lit 196, { cls := Value.type "code", data := Data.fields #[Value.str (Str.ofString "__init__") 448, Value.str (Str.ofString "StreamIds.__init__") 449, Value.str (Str.ofString "/claim/cut.py") 450, Value.int 91 0, Value.int 4 0, Value.int 0 0, Value.int 0 0, Value.int 3 0, Value.ref 191, Value.bool true, Value.int 181 0, Value.ref 192, Value.none, Value.ref 193, Value.ref 194, Value.ref 195, Value.int 455 0, Value.int 91 0, Value.str (Str.ofString "/claim/cut.py") 456] }) ::
  (nat_lit 197, fnO (st := (inC9 (at9 19) 0)) rfl "StreamIds.__init__" "quic.streamids" 364 196) ::
  (nat_lit 198, { cls := Value.type "tuple", data := Data.seq #[] }) ::
  (nat_lit 200, { cls := Value.type "tuple", data := Data.seq #[Value.str (Str.ofString "self") 461, Value.str (Str.ofString "is_uni") 462, Value.str (Str.ofString "at") 463] }) ::
  (nat_lit 201, { cls := Value.type "tuple", data := Data.seq #[] }) ::
  (nat_lit 203, { cls := Value.type "code", data := Data.fields #[Value.str (Str.ofString "open_own") 458, Value.str (Str.ofString "StreamIds.open_own") 459, Value.str (Str.ofString "/claim/cut.py") 460, Value.int 100 0, Value.int 2 0, Value.int 0 0, Value.int 0 0, Value.int 3 0, Value.ref 198, Value.bool true, Value.int 181 0, Value.ref 199, Value.none, Value.ref 200, Value.ref 201, Value.ref 202, Value.int 464 0, Value.int 100 0, Value.str (Str.ofString "/claim/cut.py") 465] }) ::
  (nat_lit 204, fnO (st := (inC9 (at9 19) 1)) rfl "StreamIds.open_own" "quic.streamids" 364 203) ::
  (nat_lit 205, { cls := Value.type "tuple", data := Data.seq #[] }) ::
  (nat_lit 207, { cls := Value.type "tuple", data := Data.seq #[Value.str (Str.ofString "self") 470, Value.str (Str.ofString "is_uni") 471, Value.str (Str.ofString "limit") 472] }) ::
  (nat_lit 208, { cls := Value.type "tuple", data := Data.seq #[] }) ::
  (nat_lit 210, { cls := Value.type "code", data := Data.fields #[Value.str (Str.ofString "raise_limit") 467, Value.str (Str.ofString "StreamIds.raise_limit") 468, Value.str (Str.ofString "/claim/cut.py") 469, Value.int 107 0, Value.int 3 0, Value.int 0 0, Value.int 0 0, Value.int 3 0, Value.ref 205, Value.bool true, Value.int 181 0, Value.ref 206, Value.none, Value.ref 207, Value.ref 208, Value.ref 209, Value.int 473 0, Value.int 107 0, Value.str (Str.ofString "/claim/cut.py") 474] }) ::
  (nat_lit 211, fnO (st := (inC9 (at9 19) 2)) rfl "StreamIds.raise_limit" "quic.streamids" 364 210) ::
  (nat_lit 212, { cls := Value.type "tuple", data := Data.seq #[] }) ::
  (nat_lit 215, { cls := Value.type "code", data := Data.fields #[Value.str (Str.ofString "take_id") 476, Value.str (Str.ofString "StreamIds.take_id") 477, Value.str (Str.ofString "/claim/cut.py") 478, Value.int 110 0, Value.int 3 0, Value.int 0 0, Value.int 0 0, Value.int 3 0, Value.ref 212, Value.bool true, Value.int 181 0, Value.ref 213, Value.none, Value.none, Value.none, Value.ref 214, Value.int 479 0, Value.int 110 0, Value.str (Str.ofString "/claim/cut.py") 480] }) ::
  (nat_lit 216, fnO (st := (inC9 (at9 19) 3)) rfl "StreamIds.take_id" "quic.streamids" 364 215) ::
  (nat_lit 217, { cls := Value.type "tuple", data := Data.seq #[] }) ::
  (nat_lit 219, { cls := Value.type "tuple", data := Data.seq #[Value.str (Str.ofString "self") 485, Value.str (Str.ofString "sid") 486] }) ::
  (nat_lit 220, { cls := Value.type "tuple", data := Data.seq #[] }) ::
  (nat_lit 222, { cls := Value.type "code", data := Data.fields #[Value.str (Str.ofString "on_closed") 482, Value.str (Str.ofString "StreamIds.on_closed") 483, Value.str (Str.ofString "/claim/cut.py") 484, Value.int 126 0, Value.int 2 0, Value.int 0 0, Value.int 0 0, Value.int 3 0, Value.ref 217, Value.bool true, Value.int 181 0, Value.ref 218, Value.none, Value.ref 219, Value.ref 220, Value.ref 221, Value.int 487 0, Value.int 126 0, Value.str (Str.ofString "/claim/cut.py") 488] }) ::
  (nat_lit 223, fnO (st := (inC9 (at9 19) 4)) rfl "StreamIds.on_closed" "quic.streamids" 364 222) ::
  (nat_lit 224, { cls := Value.type "tuple", data := Data.seq #[] }) ::
  (nat_lit 226, { cls := Value.type "tuple", data := Data.seq #[Value.str (Str.ofString "self") 493, Value.str (Str.ofString "is_uni") 494, Value.str (Str.ofString "at") 495] }) ::
  (nat_lit 227, { cls := Value.type "tuple", data := Data.seq #[] }) ::
  (nat_lit 229, { cls := Value.type "code", data := Data.fields #[Value.str (Str.ofString "next_grant") 490, Value.str (Str.ofString "StreamIds.next_grant") 491, Value.str (Str.ofString "/claim/cut.py") 492, Value.int 130 0, Value.int 2 0, Value.int 0 0, Value.int 0 0, Value.int 3 0, Value.ref 224, Value.bool true, Value.int 181 0, Value.ref 225, Value.none, Value.ref 226, Value.ref 227, Value.ref 228, Value.int 496 0, Value.int 130 0, Value.str (Str.ofString "/claim/cut.py") 497] }) ::
  (nat_lit 230, fnO (st := (inC9 (at9 19) 5)) rfl "StreamIds.next_grant" "quic.streamids" 364 229) ::
  (nat_lit 231, { cls := Value.type "tuple", data := Data.seq #[] }) ::
  (nat_lit 233, { cls := Value.type "tuple", data := Data.seq #[Value.str (Str.ofString "self") 502, Value.str (Str.ofString "is_uni") 503, Value.str (Str.ofString "limit") 504] }) ::
  (nat_lit 234, { cls := Value.type "tuple", data := Data.seq #[] }) ::
  (nat_lit 236, { cls := Value.type "code", data := Data.fields #[Value.str (Str.ofString "on_grant_lost") 499, Value.str (Str.ofString "StreamIds.on_grant_lost") 500, Value.str (Str.ofString "/claim/cut.py") 501, Value.int 138 0, Value.int 3 0, Value.int 0 0, Value.int 0 0, Value.int 3 0, Value.ref 231, Value.bool true, Value.int 181 0, Value.ref 232, Value.none, Value.ref 233, Value.ref 234, Value.ref 235, Value.int 505 0, Value.int 138 0, Value.str (Str.ofString "/claim/cut.py") 506] }) ::
  (nat_lit 237, fnO (st := (inC9 (at9 19) 6)) rfl "StreamIds.on_grant_lost" "quic.streamids" 364 236) ::
  (nat_lit 239, { cls := Value.type "dict", data := Data.dict #[en9 P "__module__" 443 (Value.str (Str.ofString "quic.streamids") 364), en9 P "__firstlineno__" 447 (Value.int 89 446), en9 P "__init__" 457 (Value.ref 197), en9 P "open_own" 466 (Value.ref 204), en9 P "raise_limit" 475 (Value.ref 211), en9 P "take_id" 481 (Value.ref 216), en9 P "on_closed" 489 (Value.ref 223), en9 P "next_grant" 498 (Value.ref 230), en9 P "on_grant_lost" 507 (Value.ref 237), en9 P "__static_attributes__" 515 (Value.ref 238), en9 P "__dict__" 517 (Value.ref 241), en9 P "__weakref__" 519 (Value.ref 242), en9 P "__doc__" 520 (Value.none)] 4 }) ::
  (nat_lit 240, { cls := Value.type "type", data := Data.cls { name := Str.ofString "StreamIds", bases := [Value.type "object"], mro := [Value.ref 240, Value.type "object"], ns := 239, qualname := Str.ofString "StreamIds" }, slots := #[none, none, some (Value.str (Str.ofString "StreamIds") 436), some (Value.str (Str.ofString "StreamIds") 444), some (Value.builtin "object.__new__"), some (Value.bool true)] }) ::
  (nat_lit 245, { cls := Value.type "tuple", data := Data.seq #[] }) ::
  (nat_lit 247, { cls := Value.type "tuple", data := Data.seq #[Value.str (Str.ofString "script") 528, Value.str (Str.ofString "seed_here") 529, Value.str (Str.ofString "one") 530] }) ::
  (nat_lit 248, { cls := Value.type "tuple", data := Data.seq #[] }) ::
  (nat_lit 250, { cls := Value.type "code", data := Data.fields #[Value.str (Str.ofString "_law_box") 525, Value.str (Str.ofString "_law_box") 526, Value.str (Str.ofString "/claim/cut.py") 527, Value.int 142 0, Value.int 2 0, Value.int 0 0, Value.int 0 0, Value.int 3 0, Value.ref 245, Value.bool true, Value.int 181 0, Value.ref 246, Value.none, Value.ref 247, Value.ref 248, Value.ref 249, Value.int 531 0, Value.int 142 0, Value.str (Str.ofString "/claim/cut.py") 532] }) ::
  (nat_lit 251, fnO (st := (at9 21)) rfl "_law_box" "law_nz0345_01" 523 250) ::
  (nat_lit 252, { cls := Value.type "tuple", data := Data.seq #[] }) ::
  (nat_lit 254, { cls := Value.type "tuple", data := Data.seq #[Value.str (Str.ofString "box") 537, Value.str (Str.ofString "wide") 538] }) ::
  (nat_lit 255, { cls := Value.type "tuple", data := Data.seq #[] }) ::
  (nat_lit 257, { cls := Value.type "code", data := Data.fields #[Value.str (Str.ofString "_law_take") 534, Value.str (Str.ofString "_law_take") 535, Value.str (Str.ofString "/claim/cut.py") 536, Value.int 146 0, Value.int 2 0, Value.int 0 0, Value.int 0 0, Value.int 3 0, Value.ref 252, Value.bool true, Value.int 181 0, Value.ref 253, Value.none, Value.ref 254, Value.ref 255, Value.ref 256, Value.int 539 0, Value.int 146 0, Value.str (Str.ofString "/claim/cut.py") 540] }) ::
  (nat_lit 258, fnO (st := (at9 22)) rfl "_law_take" "law_nz0345_01" 523 257) ::
  (nat_lit 259, { cls := Value.type "tuple", data := Data.seq #[] }) ::
  (nat_lit 261, { cls := Value.type "tuple", data := Data.seq #[Value.str (Str.ofString "here") 545, Value.str (Str.ofString "many") 546] }) ::
  (nat_lit 262, { cls := Value.type "tuple", data := Data.seq #[] }) ::
  (nat_lit 264, { cls := Value.type "code", data := Data.fields #[Value.str (Str.ofString "_law_sent") 542, Value.str (Str.ofString "_law_sent") 543, Value.str (Str.ofString "/claim/cut.py") 544, Value.int 151 0, Value.int 2 0, Value.int 0 0, Value.int 0 0, Value.int 3 0, Value.ref 259, Value.bool true, Value.int 181 0, Value.ref 260, Value.none, Value.ref 261, Value.ref 262, Value.ref 263, Value.int 547 0, Value.int 151 0, Value.str (Str.ofString "/claim/cut.py") 548] }) ::
  (nat_lit 265, fnO (st := (at9 23)) rfl "_law_sent" "law_nz0345_01" 523 264) ::
  (nat_lit 266, { cls := Value.type "tuple", data := Data.seq #[] }) ::
  (nat_lit 268, { cls := Value.type "tuple", data := Data.seq #[Value.str (Str.ofString "here") 553, Value.str (Str.ofString "at") 554] }) ::
  (nat_lit 269, { cls := Value.type "tuple", data := Data.seq #[] }) ::
  (nat_lit 271, { cls := Value.type "code", data := Data.fields #[Value.str (Str.ofString "_law_came") 550, Value.str (Str.ofString "_law_came") 551, Value.str (Str.ofString "/claim/cut.py") 552, Value.int 157 0, Value.int 2 0, Value.int 0 0, Value.int 0 0, Value.int 3 0, Value.ref 266, Value.bool true, Value.int 181 0, Value.ref 267, Value.none, Value.ref 268, Value.ref 269, Value.ref 270, Value.int 555 0, Value.int 157 0, Value.str (Str.ofString "/claim/cut.py") 556] }) ::
  (nat_lit 272, fnO (st := (at9 24)) rfl "_law_came" "law_nz0345_01" 523 271) ::
  (nat_lit 273, { cls := Value.type "tuple", data := Data.seq #[] }) ::
  (nat_lit 275, { cls := Value.type "tuple", data := Data.seq #[Value.str (Str.ofString "here") 561, Value.str (Str.ofString "many") 562] }) ::
  (nat_lit 276, { cls := Value.type "tuple", data := Data.seq #[] }) ::
  (nat_lit 278, { cls := Value.type "code", data := Data.fields #[Value.str (Str.ofString "_law_read") 558, Value.str (Str.ofString "_law_read") 559, Value.str (Str.ofString "/claim/cut.py") 560, Value.int 159 0, Value.int 2 0, Value.int 0 0, Value.int 0 0, Value.int 3 0, Value.ref 273, Value.bool true, Value.int 181 0, Value.ref 274, Value.none, Value.ref 275, Value.ref 276, Value.ref 277, Value.int 563 0, Value.int 159 0, Value.str (Str.ofString "/claim/cut.py") 564] }) ::
  (nat_lit 279, fnO (st := (at9 25)) rfl "_law_read" "law_nz0345_01" 523 278) ::
  (nat_lit 280, { cls := Value.type "tuple", data := Data.seq #[] }) ::
  (nat_lit 282, { cls := Value.type "tuple", data := Data.seq #[Value.str (Str.ofString "here") 569, Value.str (Str.ofString "limit") 570, Value.str (Str.ofString "streams") 571] }) ::
  (nat_lit 283, { cls := Value.type "tuple", data := Data.seq #[] }) ::
  (nat_lit 285, { cls := Value.type "code", data := Data.fields #[Value.str (Str.ofString "_law_told") 566, Value.str (Str.ofString "_law_told") 567, Value.str (Str.ofString "/claim/cut.py") 568, Value.int 162 0, Value.int 1 0, Value.int 0 0, Value.int 0 0, Value.int 3 0, Value.ref 280, Value.bool true, Value.int 181 0, Value.ref 281, Value.none, Value.ref 282, Value.ref 283, Value.ref 284, Value.int 572 0, Value.int 162 0, Value.str (Str.ofString "/claim/cut.py") 573] }) ::
  (nat_lit 286, fnO (st := (at9 26)) rfl "_law_told" "law_nz0345_01" 523 285) ::
  (nat_lit 287, { cls := Value.type "tuple", data := Data.seq #[] }) ::
  (nat_lit 289, { cls := Value.type "tuple", data := Data.seq #[Value.str (Str.ofString "here") 578, Value.str (Str.ofString "at") 579, Value.str (Str.ofString "is_kept") 580, Value.str (Str.ofString "kind") 581, Value.str (Str.ofString "limit") 582, Value.str (Str.ofString "is_more") 583, Value.str (Str.ofString "right") 584] }) ::
  (nat_lit 290, { cls := Value.type "tuple", data := Data.seq #[] }) ::
  (nat_lit 292, { cls := Value.type "code", data := Data.fields #[Value.str (Str.ofString "_law_heard") 575, Value.str (Str.ofString "_law_heard") 576, Value.str (Str.ofString "/claim/cut.py") 577, Value.int 168 0, Value.int 3 0, Value.int 0 0, Value.int 0 0, Value.int 3 0, Value.ref 287, Value.bool true, Value.int 181 0, Value.ref 288, Value.none, Value.ref 289, Value.ref 290, Value.ref 291, Value.int 585 0, Value.int 168 0, Value.str (Str.ofString "/claim/cut.py") 586] }) ::
  (nat_lit 293, fnO (st := (at9 27)) rfl "_law_heard" "law_nz0345_01" 523 292) ::
  (nat_lit 294, { cls := Value.type "tuple", data := Data.seq #[] }) ::
  (nat_lit 296, { cls := Value.type "tuple", data := Data.seq #[Value.str (Str.ofString "here") 591, Value.str (Str.ofString "at") 592, Value.str (Str.ofString "kind") 593, Value.str (Str.ofString "limit") 594] }) ::
  (nat_lit 297, { cls := Value.type "tuple", data := Data.seq #[] }) ::
  (nat_lit 299, { cls := Value.type "code", data := Data.fields #[Value.str (Str.ofString "_law_lost") 588, Value.str (Str.ofString "_law_lost") 589, Value.str (Str.ofString "/claim/cut.py") 590, Value.int 180 0, Value.int 2 0, Value.int 0 0, Value.int 0 0, Value.int 3 0, Value.ref 294, Value.bool true, Value.int 181 0, Value.ref 295, Value.none, Value.ref 296, Value.ref 297, Value.ref 298, Value.int 595 0, Value.int 180 0, Value.str (Str.ofString "/claim/cut.py") 596] }) ::
  (nat_lit 300, fnO (st := (at9 28)) rfl "_law_lost" "law_nz0345_01" 523 299) ::
  (nat_lit 301, { cls := Value.type "tuple", data := Data.seq #[] }) ::
  (nat_lit 303, { cls := Value.type "tuple", data := Data.seq #[Value.str (Str.ofString "here") 601, Value.str (Str.ofString "goes_lost") 602, Value.str (Str.ofString "credit") 603, Value.str (Str.ofString "due") 604] }) ::
  (nat_lit 304, { cls := Value.type "tuple", data := Data.seq #[] }) ::
  (nat_lit 306, { cls := Value.type "code", data := Data.fields #[Value.str (Str.ofString "_law_blocked") 598, Value.str (Str.ofString "_law_blocked") 599, Value.str (Str.ofString "/claim/cut.py") 600, Value.int 186 0, Value.int 2 0, Value.int 0 0, Value.int 0 0, Value.int 3 0, Value.ref 301, Value.bool true, Value.int 181 0, Value.ref 302, Value.none, Value.ref 303, Value.ref 304, Value.ref 305, Value.int 605 0, Value.int 186 0, Value.str (Str.ofString "/claim/cut.py") 606] }) ::
  (nat_lit 307, fnO (st := (at9 29)) rfl "_law_blocked" "law_nz0345_01" 523 306) ::
  (nat_lit 308, { cls := Value.type "tuple", data := Data.seq #[] }) ::
  (nat_lit 310, { cls := Value.type "tuple", data := Data.seq #[Value.str (Str.ofString "here") 611, Value.str (Str.ofString "sid") 612] }) ::
  (nat_lit 311, { cls := Value.type "tuple", data := Data.seq #[] }) ::
  (nat_lit 313, { cls := Value.type "code", data := Data.fields #[Value.str (Str.ofString "_law_opened") 608, Value.str (Str.ofString "_law_opened") 609, Value.str (Str.ofString "/claim/cut.py") 610, Value.int 196 0, Value.int 1 0, Value.int 0 0, Value.int 0 0, Value.int 3 0, Value.ref 308, Value.bool true, Value.int 181 0, Value.ref 309, Value.none, Value.ref 310, Value.ref 311, Value.ref 312, Value.int 613 0, Value.int 196 0, Value.str (Str.ofString "/claim/cut.py") 614] }) ::
  (nat_lit 314, fnO (st := (at9 30)) rfl "_law_opened" "law_nz0345_01" 523 313) ::
  (nat_lit 315, { cls := Value.type "tuple", data := Data.seq #[] }) ::
  (nat_lit 317, { cls := Value.type "tuple", data := Data.seq #[Value.str (Str.ofString "box") 619, Value.str (Str.ofString "here") 620, Value.str (Str.ofString "form") 621, Value.str (Str.ofString "more") 622] }) ::
  (nat_lit 318, { cls := Value.type "tuple", data := Data.seq #[] }) ::
  (nat_lit 320, { cls := Value.type "code", data := Data.fields #[Value.str (Str.ofString "_law_step") 616, Value.str (Str.ofString "_law_step") 617, Value.str (Str.ofString "/claim/cut.py") 618, Value.int 204 0, Value.int 2 0, Value.int 0 0, Value.int 0 0, Value.int 3 0, Value.ref 315, Value.bool true, Value.int 181 0, Value.ref 316, Value.none, Value.ref 317, Value.ref 318, Value.ref 319, Value.int 623 0, Value.int 204 0, Value.str (Str.ofString "/claim/cut.py") 624] }) ::
  (nat_lit 321, fnO (st := (at9 31)) rfl "_law_step" "law_nz0345_01" 523 320) ::
  (nat_lit 322, { cls := Value.type "tuple", data := Data.seq #[] }) ::
  (nat_lit 324, { cls := Value.type "tuple", data := Data.seq #[Value.str (Str.ofString "script") 629, Value.str (Str.ofString "box") 630, Value.str (Str.ofString "size") 631, Value.str (Str.ofString "streams") 632, Value.str (Str.ofString "here") 633, Value.str (Str.ofString "turn") 634] }) ::
  (nat_lit 325, { cls := Value.type "tuple", data := Data.seq #[] }) ::
  (nat_lit 327, { cls := Value.type "code", data := Data.fields #[Value.str (Str.ofString "law") 626, Value.str (Str.ofString "law") 627, Value.str (Str.ofString "/claim/cut.py") 628, Value.int 224 0, Value.int 1 0, Value.int 0 0, Value.int 0 0, Value.int 3 0, Value.ref 322, Value.bool true, Value.int 181 0, Value.ref 323, Value.none, Value.ref 324, Value.ref 325, Value.ref 326, Value.int 635 0, Value.int 224 0, Value.str (Str.ofString "/claim/cut.py") 636] }) ::
  (nat_lit 328, fnO (st := (at9 32)) rfl "law" "law_nz0345_01" 523 327) ::
  []
def as9 : List Addr := [3, 42, 44, 45, 47, 48, 49, 51, 52, 54, 55, 56, 58, 59, 61, 62, 63, 65, 66, 68, 69, 70, 72, 73, 75, 76, 77, 79, 80, 82, 83, 85, 86, 98, 100, 101, 103, 104, 105, 107, 108, 110, 111, 112, 114, 115, 117, 118, 119, 121, 122, 124, 125, 126, 128, 129, 131, 132, 134, 135, 140, 142, 144, 145, 147, 148, 149, 151, 152, 154, 155, 156, 158, 159, 161, 162, 163, 165, 166, 168, 169, 177, 179, 180, 182, 183, 191, 193, 194, 196, 197, 198, 200, 201, 203, 204, 205, 207, 208, 210, 211, 212, 215, 216, 217, 219, 220, 222, 223, 224, 226, 227, 229, 230, 231, 233, 234, 236, 237, 239, 240, 245, 247, 248, 250, 251, 252, 254, 255, 257, 258, 259, 261, 262, 264, 265, 266, 268, 269, 271, 272, 273, 275, 276, 278, 279, 280, 282, 283, 285, 286, 287, 289, 290, 292, 293, 294, 296, 297, 299, 300, 301, 303, 304, 306, 307, 308, 310, 311, 313, 314, 315, 317, 318, 320, 321, 322, 324, 325, 327, 328]
theorem as9_eq : ∀ P, as9 = (K9 P).map (·.1) := fun _ => rfl
noncomputable def view9 : Program := { PySem.Challenge.pw_nz0345_01 with main := { PySem.Challenge.pw_nz0345_01.main with body := let b := PySem.Challenge.pw_nz0345_01.main.body; (b.drop 1).take 4 ++ ((b.drop 6).take 2 ++ ((b.drop 9).take 11 ++ b.drop 21)) } }
@[reducible] noncomputable def H9 : Hook := kHook K9 as9 as9_eq

def Left9 (w : World) : Prop := (openEnds PySem.W.Fast.tw14364793385576792824 PySem.Challenge.pw_nz0345_01 w 4374).map (fun s => (PySem.W.Fast.tw4187177175401517315 view9 [Str.ofString "FRAME_TYPES"] (PySem.W.Fast.tw5923862056798008813 PySem.Challenge.pw_nz0345_01.main.body) (fun s => xlAt view9 [] s && recOk (RowW.records PySem.Challenge.rw_nz0345_01.row.toRowW) s) true s, Hook.obs H9 s)) = some (openGood view9 [Str.ofString "FRAME_TYPES"], Hook.val H9 w)
theorem left9f (w : World) : Left9 (w.withFollow "special-get-raises" false) := by unfold Left9; kernel_rfl
theorem left9t (w : World) : Left9 (w.withFollow "special-get-raises" true) := by unfold Left9; kernel_rfl
theorem left9 : LeftO PySem.Challenge.pw_nz0345_01 view9 [Str.ofString "FRAME_TYPES"] (fun s => xlAt view9 [] s && recOk (RowW.records PySem.Challenge.rw_nz0345_01.row.toRowW) s) (Hook.obs H9) (Hook.val H9) 4374 := by
  unfold LeftO
  rw [PySem.W.Fast.te14364793385576792824, PySem.W.Fast.te4187177175401517315, PySem.W.Fast.te5923862056798008813]
  exact byRow2 "special-get-raises" left9f left9t
theorem wellSaid9 : PySem.Challenge.rw_nz0345_01.wellSaid = true := by decide +kernel
theorem hd9 {d : DefRec} {kwd : List (Str × PySem.Expr)} (h1 : defOf view9 PySem.Challenge.rw_nz0345_01.row.name = some (d, kwd)) (h2 : PySem.Challenge.rw_nz0345_01.row.prog.theDef PySem.Challenge.rw_nz0345_01.row.name = some (d.params, d.body, d.scope)) (h3 : kwWritten? d.params.kwonlyargs d.params.kw_defaults = some kwd)
    (walk : WalkO view9 [Str.ofString "FRAME_TYPES"] (XL view9 []) (Hook.says H9) PySem.Challenge.rw_nz0345_01.row.toRowW d kwd fun f vs => PySem.call f vs) : PySem.Challenge.rw_nz0345_01.Holds := by
  w_on
  refine holds_law wellSaid9 fun said => ?_
  refine holds_open (q := view9) (loose := [Str.ofString "FRAME_TYPES"]) (Xt := fun s => xlAt view9 [] s && recOk (RowW.records PySem.Challenge.rw_nz0345_01.row.toRowW) s) (XP := XL view9 []) (Yf := Hook.obs H9) (Ya := Hook.val H9) (YP := Hook.says H9) (N := 4374) left9 (Hook.of H9) (Hook.keeps H9) (fun s e => xl_of s (Bool.and_eq_true_iff.mp e).1) XL.keeps h1 h2 h3 (fun s e => recFacts_of (Bool.and_eq_true_iff.mp e).2) (by rfl) (by assumption) (by decide +kernel) ⟨rfl, rfl, rfl, rfl, rfl, by decide +kernel⟩ ?hw walk
  w_witness2
abbrev Led := List (Addr × Obj)

theorem wpAny_weaken {α : Type} {M : Model} {A A' : Around} {t : Sem α} {Q : α → Shared → Prop} {E : Value → Shared → Prop} {s : Shared}
    (h : wpAny M A' t Q E s) (h1 : A.handled = A'.handled) (h2 : A.depth ≤ A'.depth) (h3 : A.frames = A'.frames) (h4 : A.guards = A'.guards) (h5 : A.units ≤ A'.units) : wpAny M A t Q E s :=
  fun Γ p hΓ => h Γ p ⟨hΓ.1.trans h1, Nat.le_trans hΓ.2.1 h2, fun l hl => hΓ.2.2.1 l (h3.trans hl), fun g hg => hΓ.2.2.2.1 g (h4.trans hg), Nat.le_trans hΓ.2.2.2.2 h5⟩

/-- the written addresses differ, and what stands besides has others -/
def Dis2 (as : List Addr) (R : Led) : Prop := as.Nodup ∧ OwnOff R as
/-- what a call of a def of the text does to the part of the ledger that it touches -/
def Spec (w : World) (dp un : Nat) (f : Addr) (args : List Value) (pre ro : Led) (post : Value → Led → Prop) : Prop :=
  ∀ (p : Program) (loose : List Str) (mean : ExcName → Option Value) (mg mb : Str → Option Value) (gd : Option (List Code)) (cn : Str) (cs : Scope) (a : Addr) (ccd : Value) (cl : List (Str × Addr)) (outer : List Env) (A₀ : Around) (base h₀ : Heap) (L : Addr) (m : Str → Option Value) (R : Led) (s : Shared) (Q E : Value → Shared → Prop),
    Below A₀ base outer h₀ → Fr h₀ L s.heap m → (K9 w.params).In h₀ → News h₀ L s.heap (pre ++ R) → Dis2 (pre.map (·.1)) R → (∀ q ∈ ro, q ∈ R) → Top p loose mean mg mb h₀ → cs.kind = .function →
    (∀ r led h' tk', Fr h₀ L h' m → News h₀ L h' (led ++ R) → Dis2 (led.map (·.1)) R → post r led → Q r { s with heap := h', toks := tk' }) →
    wpAny (model PySem.Challenge.rw_nz0345_01.row.prog w) (ktrTop dp un gd cn cs L a ccd cl outer) (call (.ref f) args) Q E s

theorem dis_of {l : Led} {as : List Addr} {R : Led} (O : Dis2 as R) (e : l.map (·.1) = as ++ R.map (·.1)) :
    ∀ a ∈ as, (l.map (·.1)).count a = 1 := by
  intro a ha
  rw [e, List.count_append, O.1.count, if_pos ha]
  have : (R.map (·.1)).count a = 0 := List.count_eq_zero.mpr fun h => by
    obtain ⟨p, hp, rfl⟩ := List.mem_map.mp h
    exact O.2 p hp _ ha rfl
  omega
/-- one entry of the ledger is changed, the others stand -/
inductive At (d : Addr) (o o' : Obj) : List Addr → Led → Led → Prop
  | head {as r} : At d o o' (d :: as) ((d, o) :: r) ((d, o') :: r)
  | tail {a as p r r'} : At d o o' as r r' → At d o o' (a :: as) (p :: r) (p :: r')
theorem At.upd1 {d : Addr} {o o' : Obj} {as : List Addr} {l l' : Led} (h : At d o o' as l l') : (l.map (·.1)).count d = 1 → Upd d o o' l l' := by
  induction h with
  | head =>
    rename_i r
    intro c
    refine .head fun p hp e => ?_
    rw [List.map_cons, List.count_cons_self] at c
    have h9 : 0 < (r.map (·.1)).count d := List.count_pos_iff.mpr (List.mem_map.mpr ⟨p, hp, e⟩)
    omega
  | tail hA ih =>
    rename_i p r r'
    intro c
    have hm : d ∈ r.map (·.1) := by
      clear c ih
      induction hA with
      | head => exact .head _
      | tail _ ih => exact .tail _ ih
    have : 0 < (r.map (·.1)).count d := List.count_pos_iff.mpr hm
    rw [List.map_cons, List.count_cons] at c
    have hne : p.1 ≠ d := fun e => by
      rw [e] at c
      simp only [BEq.rfl, if_true] at c
      omega
    have hb : (p.1 == d) = false := beq_eq_false_iff_ne.mpr hne
    rw [hb] at c
    exact .tail hne (ih (by simpa using c))
theorem At.mem {d : Addr} {o o' : Obj} {as : List Addr} {l l' : Led} (h : At d o o' as l l') : d ∈ as := by
  induction h with
  | head => exact .head _
  | tail _ ih => exact .tail _ ih
theorem At.upd {d : Addr} {o o' : Obj} {l l' : Led} {as : List Addr} {R : Led} (O : Dis2 as R) (e : l.map (·.1) = as ++ R.map (·.1)) (h : At d o o' as l l') : Upd d o o' l l' := h.upd1 (dis_of O e d h.mem)
inductive AtF (d : Addr) (o : Obj) : List Addr → Led → (Obj → Led) → Prop
  | head {as r} : AtF d o (d :: as) ((d, o) :: r) (fun o' => (d, o') :: r)
  | tail {a as p r g} : AtF d o as r g → AtF d o (a :: as) (p :: r) (fun o' => p :: g o')
theorem AtF.mem {d : Addr} {o : Obj} {as : List Addr} {l : Led} {g : Obj → Led} (h : AtF d o as l g) : d ∈ as := by
  induction h with
  | head => exact .head _
  | tail _ ih => exact .tail _ ih
theorem AtF.upd1 {d : Addr} {o : Obj} {as : List Addr} {l : Led} {g : Obj → Led} (h : AtF d o as l g) : (l.map (·.1)).count d = 1 → UpdF d o l g := by
  induction h with
  | head =>
    rename_i r
    intro c
    refine .head fun p hp e => ?_
    rw [List.map_cons, List.count_cons_self] at c
    have h9 : 0 < (r.map (·.1)).count d := List.count_pos_iff.mpr (List.mem_map.mpr ⟨p, hp, e⟩)
    omega
  | tail hA ih =>
    rename_i p r g
    intro c
    have hm : d ∈ r.map (·.1) := by
      clear c ih
      induction hA with
      | head => exact .head _
      | tail _ ih => exact .tail _ ih
    have : 0 < (r.map (·.1)).count d := List.count_pos_iff.mpr hm
    rw [List.map_cons, List.count_cons] at c
    have hne : p.1 ≠ d := fun e => by
      rw [e] at c
      simp only [BEq.rfl, if_true] at c
      omega
    have hb : (p.1 == d) = false := beq_eq_false_iff_ne.mpr hne
    rw [hb] at c
    exact .tail hne (ih (by simpa using c))
theorem AtF.upd {d : Addr} {o : Obj} {l : Led} {g : Obj → Led} {as : List Addr} {R : Led} (O : Dis2 as R) (e : l.map (·.1) = as ++ R.map (·.1)) (h : AtF d o as l g) : UpdF d o l g := h.upd1 (dis_of O e d h.mem)
/-- an entry is taken out of the ledger, its address out of the addresses -/
inductive Rem (p : Addr × Obj) : List Addr → Led → List Addr → Led → Prop
  | head {as r} : Rem p (p.1 :: as) (p :: r) as r
  | tail {a o as r as' r'} : Rem p as r as' r' → Rem p (a :: as) ((a, o) :: r) (a :: as') ((a, o) :: r')
theorem Rem.perm {p : Addr × Obj} {as as' : List Addr} {l l' : Led} (h : Rem p as l as' l') : as.Perm (p.1 :: as') ∧ l.Perm (p :: l') := by
  induction h with
  | head => exact ⟨.refl _, .refl _⟩
  | tail _ ih => exact ⟨(ih.1.cons _).trans (.swap _ _ _), (ih.2.cons _).trans (.swap _ _ _)⟩
inductive Split : Led → List Addr → Led → List Addr → Led → Prop
  | nil {as l} : Split [] as l as l
  | cons {p pre as l as₁ l₁ as' R} : Rem p as l as₁ l₁ → Split pre as₁ l₁ as' R → Split (p :: pre) as l as' R
theorem Split.perm {pre : Led} {as as' : List Addr} {l R : Led} (h : Split pre as l as' R) : as.Perm (pre.map (·.1) ++ as') ∧ l.Perm (pre ++ R) := by
  induction h with
  | nil => exact ⟨.refl _, .refl _⟩
  | cons r _ ih => exact ⟨r.perm.1.trans (ih.1.cons _), r.perm.2.trans (ih.2.cons _)⟩
theorem Split.mem {pre : Led} {as as' : List Addr} {l R : Led} (h : Split pre as l as' R) : ∀ q ∈ pre ++ R, q ∈ l := fun _ hq => h.perm.2.mem_iff.mpr hq
/-- the rest's addresses -/
theorem Split.rest {pre : Led} {as as' : List Addr} {l R R₀ : Led} (h : Split pre as l as' R) (e : l.map (·.1) = as ++ R₀.map (·.1)) : (R.map (·.1)).Perm (as' ++ R₀.map (·.1)) := by
  have h1 := h.perm.2.map (·.1)
  rw [e, List.map_append] at h1
  have h2 := (h.perm.1.append_right (R₀.map (·.1))).symm.trans h1
  rw [List.append_assoc] at h2
  exact ((List.perm_append_left_iff _).mp h2).symm
theorem Split.dis {pre : Led} {as as' : List Addr} {l R R₀ : Led} (h : Split pre as l as' R) (O : Dis2 as R₀) (e : l.map (·.1) = as ++ R₀.map (·.1)) : Dis2 (pre.map (·.1)) R := by
  have h1 := h.perm.1.nodup_iff.mp O.1
  refine ⟨(List.nodup_append.mp h1).1, fun p hp b hb => ?_⟩
  have h2 := (h.rest e).mem_iff.mp (List.mem_map.mpr ⟨p, hp, rfl⟩)
  rcases List.mem_append.mp h2 with h2 | h2
  · exact fun e => (List.nodup_append.mp h1).2.2 b hb p.1 h2 e.symm
  · obtain ⟨q, hq, e⟩ := List.mem_map.mp h2
    rw [← e]
    exact O.2 q hq b (h.perm.1.mem_iff.mpr (List.mem_append.mpr (.inl hb)))
theorem Split.back {pre led : Led} {as as' : List Addr} {l R R₀ : Led} (h : Split pre as l as' R) (O : Dis2 as R₀) (e : l.map (·.1) = as ++ R₀.map (·.1)) (O' : Dis2 (led.map (·.1)) R) : Dis2 (led.map (·.1) ++ as') R₀ := by
  have h1 := h.perm.1.nodup_iff.mp O.1
  have hr := h.rest e
  have hin : ∀ b ∈ as' ++ R₀.map (·.1), ∃ p ∈ R, p.1 = b := fun b hb => by
    obtain ⟨p, hp, e⟩ := List.mem_map.mp (hr.mem_iff.mpr hb)
    exact ⟨p, hp, e⟩
  refine ⟨List.nodup_append.mpr ⟨O'.1, (List.nodup_append.mp h1).2.1, fun a ha b hb e => ?_⟩, fun p hp b hb => ?_⟩
  · obtain ⟨p, hp, e'⟩ := hin b (List.mem_append.mpr (.inl hb))
    exact O'.2 p hp a ha (e'.trans e.symm)
  · rcases List.mem_append.mp hb with hb | hb
    · obtain ⟨q, hq, e'⟩ := hin p.1 (List.mem_append.mpr (.inr (List.mem_map.mpr ⟨p, hp, rfl⟩)))
      rw [← e']
      exact O'.2 q hq b hb
    · exact O.2 p hp b (h.perm.1.mem_iff.mpr (List.mem_append.mpr (.inr hb)))
/-- a new object's address -/
theorem Dis2.push {l : Led} {as : List Addr} {R : Led} {n : Addr} (O : Dis2 as R) (e : l.map (·.1) = as ++ R.map (·.1)) (h : ∀ p ∈ l, p.1 < n) : Dis2 (n :: as) R := by
  have hlt : ∀ b ∈ as ++ R.map (·.1), b < n := fun b hb => by
    rw [← e] at hb
    obtain ⟨p, hp, rfl⟩ := List.mem_map.mp hb
    exact h p hp
  refine ⟨List.nodup_cons.mpr ⟨fun hn => Nat.lt_irrefl _ (hlt n (List.mem_append.mpr (.inl hn))), O.1⟩, fun p hp b hb => ?_⟩
  rcases List.mem_cons.mp hb with rfl | hb
  · exact Nat.ne_of_lt (hlt _ (List.mem_append.mpr (.inr (List.mem_map.mpr ⟨p, hp, rfl⟩))))
  · exact O.2 p hp b hb
theorem News.sub {h₀ h : Heap} {L : Addr} {l l' : Led} (N : News h₀ L h l) (hs : ∀ q ∈ l', q ∈ l) : News h₀ L h l' := fun q hq => N q (hs q hq)
theorem Spec.use {w : World} {dp un : Nat} {f : Addr} {args : List Value} {pre ro : Led} {post : Value → Led → Prop} (S : Spec w dp un f args pre ro post)
    {A : Around} {p : Program} {loose : List Str} {mean : ExcName → Option Value} {mg mb : Str → Option Value} {cn : Str} {cs : Scope} {a : Addr} {ccd : Value} {cl : List (Str × Addr)} {outer : List Env} {A₀ : Around} {base h₀ : Heap} {L : Addr} {m : Str → Option Value} {as as' : List Addr} {news R R₀ : Led} {s : Shared} {Q E : Value → Shared → Prop}
    (hA : A.handled = none) (hf : A.frames = some (envX cn cs L a ccd cl :: outer)) (hd : A.depth ≤ dp) (hu : A.units ≤ un)
    (B : Below A₀ base outer h₀) (F : Fr h₀ L s.heap m) (X : (K9 w.params).In h₀) (N : News h₀ L s.heap news) (O : Dis2 as R₀) (hs : Split pre as news as' R) (e : news.map (·.1) = as ++ R₀.map (·.1)) (hr : ∀ q ∈ ro, q ∈ R) (T : Top p loose mean mg mb h₀) (hk : cs.kind = .function)
    (h : ∀ r led h' tk', Fr h₀ L h' m → News h₀ L h' (led ++ R) → Dis2 (led.map (·.1) ++ as') R₀ → post r led → Q r { s with heap := h', toks := tk' }) :
    wpAny (model PySem.Challenge.rw_nz0345_01.row.prog w) A (call (.ref f) args) Q E s :=
  wpAny_weaken (S p loose mean mg mb A.guards cn cs a ccd cl outer A₀ base h₀ L m R s Q E B F X (News.sub N hs.mem) (hs.dis O e) hr T hk fun r led h' tk' F' N' O' hp => h r led h' tk' F' N' (hs.back O e O') hp) hA hd hf rfl hu
def SubL {α : Type} (l' l : List α) : Prop := ∀ q ∈ l', q ∈ l
theorem SubL.refl {α : Type} {l : List α} : SubL l l := fun _ h => h
theorem SubL.nil {α : Type} {l : List α} : SubL [] l := fun _ h => nomatch h
theorem SubL.skip {α : Type} {l' l : List α} {p : α} (h : SubL l' l) : SubL l' (p :: l) := fun q hq => .tail _ (h q hq)
theorem SubL.cons {α : Type} {l' l : List α} {p : α} (hp : p ∈ l) (h : SubL l' l) : SubL (p :: l') l := fun q hq => by
  rcases List.mem_cons.mp hq with e | hq
  · rw [e]; exact hp
  · exact h q hq
theorem News.subL {h₀ h : Heap} {L : Addr} {l l' : Led} (N : News h₀ L h l) (hs : SubL l' l) : News h₀ L h l' := fun q hq => N q (hs q hq)
theorem lt_ne2 {a b : Nat} {R : Led} (h : AllLt a R) (hab : a ≤ b) : ∀ p ∈ R, p.1 ≠ b := by
  induction R with
  | nil => intro p hp; cases hp
  | cons q r ih =>
    intro p hp
    rcases List.mem_cons.mp hp with e | hp
    · rw [e]; exact Nat.ne_of_lt (Nat.lt_of_lt_of_le h.1 hab)
    · exact ih h.2 p hp
theorem off1_ne {a : Addr} {R : Led} (h : LCg.Off1 a R) : ∀ p ∈ R, p.1 ≠ a := by
  induction R with
  | nil => intro p hp; cases hp
  | cons q r ih =>
    intro p hp
    rcases List.mem_cons.mp hp with e | hp
    · rw [e]; exact h.1
    · exact ih h.2 p hp
theorem Dis2.push2 {l : Led} {as : List Addr} {R : Led} {n : Addr} (O : Dis2 as R) (e : l.map (·.1) = as ++ R.map (·.1)) (h : ∀ p ∈ l, p.1 < n) : Dis2 ((n + 1 + 1) :: (n + 1) :: as) R :=
  Dis2.push (l := (n + 1, instObj 0 0) :: l) (Dis2.push O e fun p hp => Nat.lt_succ_of_lt (h p hp)) (by rw [List.map_cons, e]; rfl) fun p hp => by
    rcases List.mem_cons.mp hp with rfl | hp
    · exact Nat.lt_succ_self _
    · exact Nat.lt_succ_of_lt (Nat.lt_succ_of_lt (h p hp))
inductive RemA (a : Addr) : List Addr → List Addr → Prop
  | head {as} : RemA a (a :: as) as
  | tail {b as as'} : RemA a as as' → RemA a (b :: as) (b :: as')
theorem RemA.perm {a : Addr} {as as' : List Addr} (h : RemA a as as') : as.Perm (a :: as') := by
  induction h with
  | head => exact .refl _
  | tail _ ih => exact (ih.cons _).trans (.swap _ _ _)
/-- some of the addresses, in any order -/
inductive Pick : List Addr → List Addr → Prop
  | nil {as} : Pick [] as
  | cons {a t as as'} : RemA a as as' → Pick t as' → Pick (a :: t) as
theorem Pick.perm {t as : List Addr} (h : Pick t as) : ∃ r, as.Perm (t ++ r) := by
  induction h with
  | nil => exact ⟨_, .refl _⟩
  | cons r _ ih =>
    obtain ⟨q, hq⟩ := ih
    exact ⟨q, r.perm.trans (hq.cons _)⟩
theorem Dis2.pick {t as : List Addr} {R : Led} (O : Dis2 as R) (h : Pick t as) : Dis2 t R := by
  obtain ⟨r, hr⟩ := h.perm
  exact ⟨(List.nodup_append.mp (hr.nodup_iff.mp O.1)).1, fun p hp b hb => O.2 p hp b (hr.mem_iff.mpr (List.mem_append.mpr (.inl hb)))⟩
def OffC (n : Addr) (R : Led) : List Addr → Prop
  | [] => LCg.Off1 n R
  | a :: r => a ≠ n ∧ OffC n R r
theorem Dis2.pushO {as : List Addr} {R : Led} {n : Addr} (O : Dis2 as R) (h : OffC n R as) : Dis2 (n :: as) R := by
  have h1 : ∀ {l : Led}, LCg.Off1 n l → ∀ p ∈ l, p.1 ≠ n := by
    intro l
    induction l with
    | nil => intro _ p hp; cases hp
    | cons q r ih =>
      intro h p hp
      rcases List.mem_cons.mp hp with e | hp
      · rw [e]; exact h.1
      · exact ih h.2 p hp
  have h2 : ∀ {l : List Addr}, OffC n R l → (∀ b ∈ l, b ≠ n) ∧ LCg.Off1 n R := by
    intro l
    induction l with
    | nil => exact fun h => ⟨fun _ hb => (nomatch hb), h⟩
    | cons q r ih =>
      intro h
      refine ⟨fun b hb => ?_, (ih h.2).2⟩
      rcases List.mem_cons.mp hb with e | hb
      · rw [e]; exact h.1
      · exact (ih h.2).1 b hb
  obtain ⟨a, b⟩ := h2 h
  refine ⟨List.nodup_cons.mpr ⟨fun hn => a n hn rfl, O.1⟩, fun p hp c hc => ?_⟩
  rcases List.mem_cons.mp hc with rfl | hc
  · exact h1 b p hp
  · exact O.2 p hp c hc
theorem dis0 {R : Led} : Dis2 [] R := ⟨List.nodup_nil, fun _ _ _ h => nomatch h⟩
theorem Spec.use0 {w : World} {dp un : Nat} {f : Addr} {args : List Value} {ro : Led} {post : Value → Led → Prop} (S : Spec w dp un f args [] ro post)
    {A : Around} {p : Program} {loose : List Str} {mean : ExcName → Option Value} {mg mb : Str → Option Value} {cn : Str} {cs : Scope} {a : Addr} {ccd : Value} {cl : List (Str × Addr)} {outer : List Env} {A₀ : Around} {base h₀ : Heap} {L : Addr} {m : Str → Option Value} {news : Led} {s : Shared} {Q E : Value → Shared → Prop}
    (hA : A.handled = none) (hf : A.frames = some (envX cn cs L a ccd cl :: outer)) (hd : A.depth ≤ dp) (hu : A.units ≤ un)
    (B : Below A₀ base outer h₀) (F : Fr h₀ L s.heap m) (X : (K9 w.params).In h₀) (N : News h₀ L s.heap news) (hr : ∀ q ∈ ro, q ∈ news) (T : Top p loose mean mg mb h₀) (hk : cs.kind = .function)
    (h : ∀ r led h' tk', Fr h₀ L h' m → News h₀ L h' (led ++ news) → post r led → Q r { s with heap := h', toks := tk' }) :
    wpAny (model PySem.Challenge.rw_nz0345_01.row.prog w) A (call (.ref f) args) Q E s :=
  Spec.use S hA hf hd hu B F X N (dis0 (R := news)) .nil rfl hr T hk fun r led h' tk' F' N' _ hp => h r led h' tk' F' N' hp
section
variable {prog : Program} {w : World} {A : Around} {E : Value → Shared → Prop} {s : Shared} {h₀ : Heap} {L D : Addr} {m : Str → Option Value} {news news' : List (Addr × Obj)} {n : Nat}
theorem isL_n {h : Heap} {vs : List Value} (N : News h₀ L h news) (hm : (D, listOf vs.toArray n) ∈ news) : h.IsList D vs.toArray := ⟨_, (N _ hm).1, rfl, n, rfl⟩
theorem len_n {vs : List Value} {Q : Value → Shared → Prop} (N : News h₀ L s.heap news) (hm : (D, listOf vs.toArray n) ∈ news) (hz : vs.length ≤ 1000)
    (h : Q (.int (vs.length : Int) (s.toks + 1)) { s with toks := s.toks + 1 + 1 }) : wpAny (model prog w) A (call (.builtin "len") [.ref D]) Q E s :=
  len_list (isL_n N hm) (by rw [List.size_toArray]; omega) (by rw [List.size_toArray]; exact h)
theorem cut_n : ∀ (vs : List Value) (k : Nat) (h : k < vs.length), kl_cut vs k = some (vs.take k, vs[k], vs.drop (k + 1))
  | [], _, h => absurd h (Nat.not_lt_zero _)
  | _ :: _, 0, _ => rfl
  | v :: r, k + 1, h => by
    have := cut_n r k (by simpa using h)
    unfold kl_cut
    rw [this]
    rfl
theorem popAt_n {vs : List Value} {i : Int} {u : Tok} {Q : Value → Shared → Prop} (F : Fr h₀ L s.heap m) (N : News h₀ L s.heap news) (h0 : 0 ≤ i) (h1 : i < (vs.length : Int)) (hz : vs.length ≤ 1000)
    (U : Upd D (listOf vs.toArray n) (listOf (vs.take i.toNat ++ vs.drop (i.toNat + 1)).toArray (n + 1)) news news')
    (h : ∀ h' v, vs[i.toNat]? = some v → Fr h₀ L h' m → News h₀ L h' news' → Q v { s with heap := h' }) : wpAny (model prog w) A (call (.builtin "list.pop") [.ref D, .int i u]) Q E s := by
  have hl : i.toNat < vs.length := by omega
  refine kl_popAt (k := i.toNat) F N ?_ ?_ (cut_n vs i.toNat hl) U (by show vs.length ≤ _; rw [PySem.sizeLine_eq]; omega) (fun h' F' N' => h h' _ (by rw [List.getElem?_eq_getElem hl]) F' N')
  · unfold Builtin.List.listFitsIndex
    simp only [decide_eq_true_eq, Bool.and_eq_true]
    constructor <;> omega
  · rw [List.size_toArray]
    unfold seqIndex?
    have : ¬ i < 0 := by omega
    simp [this, h1]
end
theorem ints_at {vs : List Value} {ns : List Int} (hi : IntsAre vs ns) : ∀ (k : Nat), k < vs.length → ∃ n t, vs[k]? = some (.int n t) ∧ ns[k]? = some n ∧ IntsAre (vs.take k ++ vs.drop (k + 1)) (ns.take k ++ ns.drop (k + 1)) := by
  induction hi with
  | nil => intro k h; exact absurd h (Nat.not_lt_zero _)
  | cons i t r ih =>
    intro k h
    cases k with
    | zero => exact ⟨i, t, rfl, rfl, by simpa using r⟩
    | succ k =>
      obtain ⟨n, u, a, b, c⟩ := ih k (by simpa using h)
      exact ⟨n, u, by simpa using a, by simpa using b, by simpa using IntsAre.cons i t c⟩
theorem popAt_i {prog : Program} {w : World} {A : Around} {E : Value → Shared → Prop} {s : Shared} {h₀ : Heap} {L D : Addr} {m : Str → Option Value} {news news' : List (Addr × Obj)} {n : Nat}
    {vs : List Value} {ns : List Int} {i : Int} {u : Tok} {Q : Value → Shared → Prop} (F : Fr h₀ L s.heap m) (N : News h₀ L s.heap news) (hi : IntsAre vs ns) (h0 : 0 ≤ i) (h1 : i < (vs.length : Int)) (hz : vs.length ≤ 1000)
    (U : Upd D (listOf vs.toArray n) (listOf (vs.take i.toNat ++ vs.drop (i.toNat + 1)).toArray (n + 1)) news news')
    (h : ∀ h' k t, ns[i.toNat]? = some k → IntsAre (vs.take i.toNat ++ vs.drop (i.toNat + 1)) (ns.take i.toNat ++ ns.drop (i.toNat + 1)) → Fr h₀ L h' m → News h₀ L h' news' → Q (.int k t) { s with heap := h' }) : wpAny (model prog w) A (call (.builtin "list.pop") [.ref D, .int i u]) Q E s := by
  refine popAt_n F N h0 h1 hz U (fun h' v hv F' N' => ?_)
  obtain ⟨k, t, a, b, c⟩ := ints_at hi i.toNat (by omega)
  rw [a] at hv
  cases hv
  exact h h' k t b c F' N'
theorem seed_ok : ∀ (ns : List Int) (a : Int), 0 ≤ a ∧ a < 2147483647 → 0 ≤ ns.foldl (fun a' n' => (a' * 31 + n').fmod 2147483647) a ∧ ns.foldl (fun a' n' => (a' * 31 + n').fmod 2147483647) a < 2147483647
  | [], _, h => h
  | n :: r, a, _ => seed_ok r _ ⟨fmod_lo _ (by decide), fmod_hi _ (by decide)⟩
theorem len40 {vs : List Value} {ns : List Int} (h : IntsAre vs (ns.take 40)) : vs.length ≤ 40 := by
  rw [h.length, List.length_take]; omega
section
variable {prog : Program} {w : World} {A : Around} {E : Value → Shared → Prop} {s : Shared} {h₀ : Heap} {L : Addr} {m : Str → Option Value} {news : List (Addr × Obj)}
theorem min3_n {a b c : Int} {t u x : Tok} {Q : Value → Shared → Prop} (hh : A.handled = none) (F : Fr h₀ L s.heap m) (N : News h₀ L s.heap news)
    (h : ∀ j tj h' tk, j = min a (min b c) → Fr h₀ L h' m → News h₀ L h' news → Q (.int j tj) { s with heap := h', toks := tk }) :
    wpAny (model prog w) A (call (.builtin "min") [.int a t, .int b u, .int c x]) Q E s :=
  min_three_ints hh fun h' tk hk => by
    have F' := F.grownK hk
    have N' := N.grown hk
    split <;> split <;> exact h _ _ h' tk (by omega) F' N'
theorem min2_n {a b : Int} {t u : Tok} {Q : Value → Shared → Prop} (hh : A.handled = none) (F : Fr h₀ L s.heap m) (N : News h₀ L s.heap news)
    (h : ∀ j tj h' tk, j = min a b → Fr h₀ L h' m → News h₀ L h' news → Q (.int j tj) { s with heap := h', toks := tk }) :
    wpAny (model prog w) A (call (.builtin "min") [.int a t, .int b u]) Q E s :=
  min_two_N hh F N fun h' tk F' N' => by
    refine h _ _ h' tk ?_ F' N'
    split <;> omega
theorem max2_n {a b : Int} {t u : Tok} {Q : Value → Shared → Prop} (hh : A.handled = none) (F : Fr h₀ L s.heap m) (N : News h₀ L s.heap news)
    (h : ∀ j tj h' tk, j = max a b → Fr h₀ L h' m → News h₀ L h' news → Q (.int j tj) { s with heap := h', toks := tk }) :
    wpAny (model prog w) A (call (.builtin "max") [.int a t, .int b u]) Q E s :=
  max_two_N hh F N fun h' tk F' N' => by
    refine h _ _ h' tk ?_ F' N'
    split <;> omega
end
theorem ints_snoc {vs : List Value} {ns : List Int} (k : Int) (t : Tok) (h : IntsAre vs ns) : IntsAre (vs ++ [.int k t]) (ns ++ [k]) := by
  induction h with
  | nil => exact .cons k t .nil
  | cons i u _ ih => exact .cons i u ih
theorem popAt_v {prog : Program} {w : World} {A : Around} {E : Value → Shared → Prop} {s : Shared} {h₀ : Heap} {L D : Addr} {m : Str → Option Value} {news news' : List (Addr × Obj)} {n : Nat}
    {vs : List Value} {ns : List Int} {i k : Int} {u : Tok} {Q : Value → Shared → Prop} (F : Fr h₀ L s.heap m) (N : News h₀ L s.heap news) (hi : IntsAre vs ns) (hk : ns[i.toNat]? = some k) (h0 : 0 ≤ i) (hz : vs.length ≤ 1000)
    (U : Upd D (listOf vs.toArray n) (listOf (vs.take i.toNat ++ vs.drop (i.toNat + 1)).toArray (n + 1)) news news')
    (h : ∀ h' t, IntsAre (vs.take i.toNat ++ vs.drop (i.toNat + 1)) (ns.take i.toNat ++ ns.drop (i.toNat + 1)) → Fr h₀ L h' m → News h₀ L h' news' → Q (.int k t) { s with heap := h' }) : wpAny (model prog w) A (call (.builtin "list.pop") [.ref D, .int i u]) Q E s := by
  have hlt : i.toNat < ns.length := (List.getElem?_eq_some_iff.mp hk).1
  have hle := hi.length
  refine popAt_i F N hi h0 (by omega) hz U (fun h' k' t hk' hi' F' N' => ?_)
  rw [hk] at hk'
  cases hk'
  exact h h' t hi' F' N'
section
variable {prog : Program} {w : World} {A : Around} {E : Value → Shared → Prop} {s : Shared} {h₀ : Heap} {L D : Addr} {m : Str → Option Value} {news news' : List (Addr × Obj)} {n : Nat}
theorem item_n {value slice : PySem.Expr} {vs : List Value} {i : Int} {u : Tok} {v : Value} {Q : Value → Shared → Prop} (N : News h₀ L s.heap news) (hm : (D, listOf vs.toArray n) ∈ news) (hv : vs[i.toNat]? = some v) (h0 : 0 ≤ i) (hz : vs.length ≤ 1000) (h : Q v s)
    (hs : subscripted slice false (.ref D) (.int i u) = operate [.ref D, .int i u] (getItem (.ref D) (.int i u)) := by with_unfolding_all rfl) :
    wpAny (model prog w) A (subscriptTail value slice (.ref D) (.int i u)) Q E s := by
  have hlt : i.toNat < vs.length := (List.getElem?_eq_some_iff.mp hv).1
  exact tail_any (isL_n N hm).typeIs slot_list_getitem.lookup (wpAny_getItem_list (isL_n N hm) h0 (by omega) (by simpa using hv) h) hs
theorem popAt_r {vs : List Value} {i : Int} {u : Tok} {v : Value} {Q : Value → Shared → Prop} (F : Fr h₀ L s.heap m) (N : News h₀ L s.heap news) (hv : vs[i.toNat]? = some v) (h0 : 0 ≤ i) (hz : vs.length ≤ 1000)
    (U : Upd D (listOf vs.toArray n) (listOf (vs.take i.toNat ++ vs.drop (i.toNat + 1)).toArray (n + 1)) news news')
    (h : ∀ h', Fr h₀ L h' m → News h₀ L h' news' → Q v { s with heap := h' }) : wpAny (model prog w) A (call (.builtin "list.pop") [.ref D, .int i u]) Q E s := by
  have hlt : i.toNat < vs.length := (List.getElem?_eq_some_iff.mp hv).1
  refine popAt_n F N h0 (by omega) hz U (fun h' v' hv' F' N' => ?_)
  rw [hv] at hv'
  cases hv'
  exact h h' F' N'
end
theorem ret_true {Q : Value → Shared → Prop} {b : Bool} {s : Shared} (hb : b = true) (h : Q (.bool true) s) : Q (.bool b) s := by rw [hb]; exact h
theorem topNotIn_K {prog : Program} {w : World} {A : Around} {E : Value → Shared → Prop} {s : Shared} {h₀ : Heap} {L a : Addr} {m : Str → Option Value} {K : Frag} {l : List Value} {ys : List Str} {dd : Option Addr} {sl : Array (Option Value)} {n : Nat} {x : Str} {u : Tok} {b : Bool} {Q : Value → Shared → Prop}
    (F : Fr h₀ L s.heap m) (X₀ : K.In h₀) (hl : K.lookup a = some ⟨.type "tuple", dd, .seq l.toArray n, sl⟩) (hs : StrsAre l ys) (hb : (!(ys.any (· == x))) = b) (h : Q (.bool b) s) : wpAny (model prog w) A (compareOp .NotIn (.str x u) (.ref a)) Q E s :=
  notin_tuple_strs (tupK (X₀.keeps F.keep) hl) (by simpa using hs) (by rw [hb]; exact h)
theorem fd1 {sid : Int} (h : sid % 4 = 0) : ((sid.fdiv 2).fmod 2 == 1) = false := by
  rw [Int.fdiv_eq_ediv_of_nonneg _ (by decide), Int.fmod_eq_emod_of_nonneg _ (by decide), beq_eq_false_iff_ne]
  omega
theorem fd2 {sid : Int} (h : sid % 4 = 0) : 4 * sid.fdiv 4 = sid := by
  rw [Int.fdiv_eq_ediv_of_nonneg _ (by decide)]
  omega
theorem fd3 {sid : Int} (h : sid % 4 = 0) (h' : sid.fmod 2 = 1) : False := by
  rw [Int.fmod_eq_emod_of_nonneg _ (by decide)] at h'
  omega
theorem one_turn {ys : List Value} {f : Int → Int} {m0 : Int} {n : Nat} (h : IntsAre ys (List.map f (rangeKs m0 n))) (hn : n = 1) : IntsAre ys [f m0] := by
  subst hn
  have e : rangeKs m0 1 = [m0] := by simp [rangeKs]
  rw [e] at h
  exact h
/-- the law's dict `here`, key by key -/
abbrev hereKvs (c wi fl li cl sv : Nat) (rest most lt many over : Int) (t1 t2 t3 t4 t5 : Tok) (told : Value) : List (Str × Value) :=
  [(Str.ofString "credit", .ref c), (Str.ofString "window", .ref wi), (Str.ofString "rest", .int rest t1), (Str.ofString "flying", .ref fl), (Str.ofString "limits", .ref li), (Str.ofString "told", told),
   (Str.ofString "client", .ref cl), (Str.ofString "server", .ref sv), (Str.ofString "most", .int most t2), (Str.ofString "let", .int lt t3), (Str.ofString "many", .int many t4), (Str.ofString "over", .int over t5)]
abbrev HereIs (w : World) (o : Obj) (kvs : List (Str × Value)) : Prop := o.IsDictOf (PySem.strKind PySem.Challenge.rw_nz0345_01.row.prog w) kvs
abbrev ent (w : World) (k : Str) (t : Tok) (v : Value) : DictEntry := ⟨PyData.keyHash w.params k, .str k t, v⟩
abbrev creditObj (w : World) (k1 k2 k3 : Tok) (lim used : Int) (t1 t2 : Tok) (told : Value) : Obj :=
  dictOf [ent w (Str.ofString "limit") k1 (.int lim t1), ent w (Str.ofString "used") k2 (.int used t2), ent w (Str.ofString "told_at") k3 told] 3
abbrev windowObj (w : World) (k1 k2 k3 k4 k5 : Tok) (size lim got used : Int) (t1 t2 t3 t4 : Tok) (owes : Bool) : Obj :=
  dictOf [ent w (Str.ofString "size") k1 (.int size t1), ent w (Str.ofString "limit") k2 (.int lim t2), ent w (Str.ofString "got") k3 (.int got t3), ent w (Str.ofString "used") k4 (.int used t4), ent w (Str.ofString "owes_limit") k5 (.bool owes)] 5
section
variable {c wi fl li cl sv : Nat} {rest most lt many over : Int} {t1 t2 t3 t4 t5 t : Tok} {told v : Value} {k : Int}
theorem st_rest : stored (hereKvs c wi fl li cl sv rest most lt many over t1 t2 t3 t4 t5 told) (Str.ofString "rest") (.int k t) = hereKvs c wi fl li cl sv k most lt many over t t2 t3 t4 t5 told := by rfl
theorem st_told : stored (hereKvs c wi fl li cl sv rest most lt many over t1 t2 t3 t4 t5 told) (Str.ofString "told") v = hereKvs c wi fl li cl sv rest most lt many over t1 t2 t3 t4 t5 v := by rfl
theorem st_most : stored (hereKvs c wi fl li cl sv rest most lt many over t1 t2 t3 t4 t5 told) (Str.ofString "most") (.int k t) = hereKvs c wi fl li cl sv rest k lt many over t1 t t3 t4 t5 told := by rfl
theorem st_let : stored (hereKvs c wi fl li cl sv rest most lt many over t1 t2 t3 t4 t5 told) (Str.ofString "let") (.int k t) = hereKvs c wi fl li cl sv rest most k many over t1 t2 t t4 t5 told := by rfl
theorem st_many : stored (hereKvs c wi fl li cl sv rest most lt many over t1 t2 t3 t4 t5 told) (Str.ofString "many") (.int k t) = hereKvs c wi fl li cl sv rest most lt k over t1 t2 t3 t t5 told := by rfl
theorem st_over : stored (hereKvs c wi fl li cl sv rest most lt many over t1 t2 t3 t4 t5 told) (Str.ofString "over") (.int k t) = hereKvs c wi fl li cl sv rest most lt many k t1 t2 t3 t4 t told := by rfl
end
abbrev sidsObj (w : World) (k1 k2 k3 k4 k5 k6 k7 : Tok) (role : Str) (tr : Tok) (ownL peerL ownM peerM toldL owesL : Nat) : Obj :=
  dictOf [ent w (Str.ofString "role") k1 (.str role tr), ent w (Str.ofString "own_limits") k2 (.ref ownL), ent w (Str.ofString "peer_limits") k3 (.ref peerL), ent w (Str.ofString "own_many") k4 (.ref ownM),
    ent w (Str.ofString "peer_many") k5 (.ref peerM), ent w (Str.ofString "told_limits") k6 (.ref toldL), ent w (Str.ofString "owes_limit") k7 (.ref owesL)] 7
abbrev two (a b : Int) (s t : Tok) (n : Nat) : Obj := listOf #[.int a s, .int b t] n
abbrev twoB (a b : Bool) (n : Nat) : Obj := listOf #[.bool a, .bool b] n
abbrev kindStr (b : Bool) : Str := if b then Str.ofString "data" else Str.ofString "streams"
abbrev tupObj (k : Str) (lim : Int) (tk tl : Tok) : Obj := { cls := .type "tuple", data := .seq #[.str k tk, .int lim tl] }
/-- the limits that are told: the list's items, their tuples, what they say -/
inductive LimsAre : List Value → Led → List (Bool × Int) → Prop
  | nil : LimsAre [] [] []
  | cons {vs T ls} (a : Nat) (b : Bool) (k : Int) (tk tl : Tok) : LimsAre vs T ls → LimsAre (.ref a :: vs) ((a, tupObj (kindStr b) k tk tl) :: T) ((b, k) :: ls)
/-- what Window.next_limit does -/
def NextLimit (size lim used : Int) (owes : Bool) (lim' : Int) (owes' : Bool) (d : List (Bool × Int)) : Prop :=
  (owes = false ∧ ¬ 2 * (lim - used) < size ∧ lim' = lim ∧ owes' = owes ∧ d = []) ∨ ((owes = true ∨ 2 * (lim - used) < size) ∧ owes' = false ∧ (lim' = if 2 * (lim - used) < size then used + size else lim) ∧ d = [(true, lim')])
/-- what StreamIds.next_grant does -/
def NextGrant (told peer : Int) (owes : Bool) (told' : Int) (owes' : Bool) (g : List (Bool × Int)) : Prop :=
  (told = peer ∧ owes = false ∧ told' = told ∧ owes' = owes ∧ g = []) ∨ ((told ≠ peer ∨ owes = true) ∧ told' = peer ∧ owes' = false ∧ g = [(false, peer)])
theorem nl_none {size lim used : Int} {owes : Bool} (h : owes = false) (h' : ¬ 2 * (lim - used) < size) : NextLimit size lim used owes lim owes [] := .inl ⟨h, h', rfl, rfl, rfl⟩
theorem nl_low {size lim used : Int} {owes : Bool} (h' : 2 * (lim - used) < size) : NextLimit size lim used owes (used + size) false [(true, used + size)] := .inr ⟨.inr h', rfl, (if_pos h').symm, rfl⟩
theorem nl_owes {size lim used : Int} {owes : Bool} (h : owes = true) (h' : ¬ 2 * (lim - used) < size) : NextLimit size lim used owes lim false [(true, lim)] := .inr ⟨.inl h, rfl, (if_neg h').symm, rfl⟩
theorem ng_none {told peer : Int} {owes : Bool} (h : told = peer) (h' : owes = false) : NextGrant told peer owes told owes [] := .inl ⟨h, h', rfl, rfl, rfl⟩
theorem ng_ne {told peer : Int} {owes : Bool} (h : told ≠ peer) : NextGrant told peer owes peer false [(false, peer)] := .inr ⟨.inl h, rfl, rfl, rfl⟩
theorem ng_owes {told peer : Int} {owes : Bool} (h : owes = true) : NextGrant told peer owes peer false [(false, peer)] := .inr ⟨.inr h, rfl, rfl, rfl⟩
section
variable {d g : List (Bool × Int)} {k j : Int} {a b : Nat} {tk tl uk ul : Tok}
theorem la_nn (h : d = []) (h' : g = []) : LimsAre [] [] (d ++ g) := by subst h h'; exact .nil
theorem la_dn (h : d = [(true, k)]) (h' : g = []) : LimsAre [.ref a] [(a, tupObj (Str.ofString "data") k tk tl)] (d ++ g) := by subst h h'; exact .cons a true k tk tl .nil
theorem la_ng (h : d = []) (h' : g = [(false, j)]) : LimsAre [.ref b] [(b, tupObj (Str.ofString "streams") j uk ul)] (d ++ g) := by subst h h'; exact .cons b false j uk ul .nil
theorem la_dg (h : d = [(true, k)]) (h' : g = [(false, j)]) : LimsAre [.ref a, .ref b] [(a, tupObj (Str.ofString "data") k tk tl), (b, tupObj (Str.ofString "streams") j uk ul)] (d ++ g) := by subst h h'; exact .cons a true k tk tl (.cons b false j uk ul .nil)
end
/-- a word that is None or an int -/
abbrev optV : Option Int → Tok → Value
  | none, _ => .none
  | some x, t => .int x t
theorem ohere {w : World} {o : Obj} {c wi fl li cl sv : Nat} {rest most lt many many' over : Int} {t1 t2 t3 t4 t5 : Tok} {told : Value} (e : many' = many)
    (h : HereIs w o (hereKvs c wi fl li cl sv rest most lt many over t1 t2 t3 t4 t5 told)) : HereIs w o (hereKvs c wi fl li cl sv rest most lt many' over t1 t2 t3 t4 t5 told) := by rw [e]; exact h
local macro_rules | `(tactic| walk_at $s:str) => `(tactic| k_extra $s)
theorem lines1 : True := by
  k_with "call builtin:len" => ((k_here; (with_reducible show wpAny _ _ (call (Value.builtin "len") [Value.ref _]) _ _ _); k_dflt (refine' len_n ?N ?m ?z ?_; (case N => k_asm); (case m => k_mem); (case z => first | with_reducible assumption | omega | assumption))))
  k_with "call builtin:list.pop" => ((k_here; (with_reducible show wpAny _ _ (call (Value.builtin "list.pop") [Value.ref _, Value.int _ _]) _ _ _); k_dflt (refine' popAt_i ?F ?N ?i ?a ?b ?z ?U ?_; (case F => k_asm); (case N => k_asm); (case U => k_upd); (case i => assumption); (case a => omega); (case b => omega); (case z => first | with_reducible assumption | omega | assumption)); intro h' k' t' hk' hi' F' N'; (try k_sweep)))
  k_with "call builtin:min" => ((k_here; k_dflt (first   | ((with_reducible show wpAny _ _ (call (Value.builtin "min") [Value.int _ _, Value.int _ _, Value.int _ _]) _ _ _); refine' min3_n ?hh ?F ?N ?_; (case hh => with_unfolding_all rfl); (case F => k_asm); (case N => k_asm))   | ((with_reducible show wpAny _ _ (call (Value.builtin "min") [Value.int _ _, Value.int _ _]) _ _ _); refine' min2_n ?hh ?F ?N ?_; (case hh => with_unfolding_all rfl); (case F => k_asm); (case N => k_asm))); intro j' tj' h' tk' hj' F' N'; (try k_sweep)))
  k_with "call builtin:max" => ((k_here; k_dflt ((with_reducible show wpAny _ _ (call (Value.builtin "max") [Value.int _ _, Value.int _ _]) _ _ _); refine' max2_n ?hh ?F ?N ?_; (case hh => with_unfolding_all rfl); (case F => k_asm); (case N => k_asm)); intro j' tj' h' tk' hj' F' N'; (try k_sweep)))
  k_with "call builtin:list.pop" => ((k_here; (with_reducible show wpAny _ _ (call (Value.builtin "list.pop") [Value.ref _, Value.int _ _]) _ _ _); k_dflt (refine' popAt_v ?F ?N ?i ?v ?a ?z ?U ?_; (case F => k_asm); (case N => k_asm); (case U => k_upd); (case i => assumption); (case v => with_reducible assumption); (case a => omega); (case z => first | with_reducible assumption | omega | assumption)); intro h' t' hi' F' N'; (try k_sweep)))
  k_with "call builtin:list.pop" => ((k_here; (with_reducible show wpAny _ _ (call (Value.builtin "list.pop") [Value.ref _, Value.int _ _]) _ _ _); k_dflt (refine' popAt_r ?F ?N ?v ?a ?z ?U ?_; (case F => k_asm); (case N => k_asm); (case U => k_upd); (case v => with_reducible assumption); (case a => omega); (case z => first | with_reducible assumption | omega | assumption)); intro h' F' N'; (try k_sweep)))
  k_with "subscriptTail" => ((k_here; (with_reducible show wpAny _ _ (subscriptTail _ _ (Value.ref _) (Value.int _ _)) _ _ _); k_dflt (refine' item_n ?N ?m ?v ?a ?z ?_ ?s; (case N => k_asm); (case m => k_mem); (case v => with_reducible assumption); (case a => omega); (case z => first | with_reducible assumption | omega | assumption); (case s => with_unfolding_all rfl))))
  k_with "compareOp NotIn str ref" => ((k_here; k_dflt (refine' topNotIn_K ?F ?X ?l ?s ?b ?_; (case F => k_asm); (case X => k_asm); (case l => k_is); (case s => ((repeat constructor); done)); (case b => rfl))))
  exact True.intro
local macro_rules | `(tactic| k_mem) => `(tactic| with_reducible_and_instances assumption)
local macro_rules | `(tactic| k_mem) => `(tactic| ((with_reducible show Rem _ _ _ _ _); first | exact Rem.head | (refine' Rem.tail ?c; (case c => k_mem))))
local macro_rules | `(tactic| k_mem) => `(tactic| ((with_reducible show At _ _ _ _ _ _); first | exact At.head | (refine' At.tail ?c; (case c => k_mem))))
local macro_rules | `(tactic| k_mem) => `(tactic| ((with_reducible show AtF _ _ _ _ _); first | exact AtF.head | (refine' AtF.tail ?c; (case c => k_mem))))
local macro_rules | `(tactic| k_upd) => `(tactic| ((with_reducible show Split _ _ _ _ _); first | exact Split.nil | (refine' Split.cons ?a ?b; (case a => k_mem); (case b => k_upd))))
local macro_rules | `(tactic| k_upd) => `(tactic| ((with_reducible show Upd _ _ _ _ _); (with_reducible rename Dis2 _ _ => kO9); refine' At.upd kO9 ?e ?A; (case A => k_mem); (case e => exact rfl)))
local macro_rules | `(tactic| k_updF) => `(tactic| ((with_reducible show UpdF _ _ _ _); (with_reducible rename Dis2 _ _ => kO9); refine' AtF.upd kO9 ?e ?A; (case A => k_mem); (case e => exact rfl)))
local macro_rules | `(tactic| k_updF) => `(tactic| ((with_reducible show SubL _ _); (repeat' (first | exact SubL.nil | exact SubL.refl | with_reducible refine SubL.cons ?_ ?_ | with_reducible refine SubL.skip ?_)); (all_goals k_mem)))
local macro_rules | `(tactic| k_all) => `(tactic| ((with_reducible rename Dis2 _ _ => kO9); first | exact kO9 | (refine Dis2.pick kO9 ?_; (try dsimp only [List.map, List.cons_append, List.nil_append]); k_upd)))
local macro_rules | `(tactic| k_upd) => `(tactic| ((with_reducible show Pick _ _); first | exact Pick.nil | (refine' Pick.cons ?a ?b; (case a => k_mem); (case b => k_upd))))
local macro_rules | `(tactic| k_mem) => `(tactic| ((with_reducible show RemA _ _ _); first | exact RemA.head | (refine' RemA.tail ?c; (case c => k_mem))))
local macro_rules | `(tactic| k_lt $h) => `(tactic| k_dflt ((with_reducible rename Dis2 _ _ => kO9); (replace kO9 := Dis2.push kO9 (by exact rfl) $h); clear $h))
theorem off1 : True := by
  w_top off
  exact True.intro
theorem take_spec (w : World) (box items : Nat) (vs : List Value) (ns : List Int) (sd wide : Int) (t1 tw : Tok) (e0 e1 : Nat) (hi : IntsAre vs ns) (hw : 0 < wide) (hw2 : wide < 100) (hl : vs.length ≤ 40) (hs : 0 ≤ sd ∧ sd < 2147483647) :
    Spec w 500 500 258 [.ref box, .int wide tw] [(box, listOf #[.ref items, .int sd t1] e0), (items, listOf vs.toArray e1)] []
     (fun r led => ∃ r' t' vs' ns' sd' t1' e0' e1', r = .int r' t' ∧ 0 ≤ r' ∧ r' < wide ∧ 0 ≤ sd' ∧ sd' < 2147483647 ∧ IntsAre vs' ns' ∧ vs'.length ≤ 40 ∧ led = [(box, listOf #[.ref items, .int sd' t1'] e0'), (items, listOf vs'.toArray e1')]) := by
  unfold Spec
  k_fill
  intro p loose mean mg mb gd cn cs a ccd cl outer A₀ base h₀ L m R s Q E B F X N O hro T hk hret
  (try dsimp only [List.cons_append, List.nil_append] at N)
  (try dsimp only [List.map] at O)
  refine wpAny_call ?_
  k_dflt ktr_enter
  k_steps
  · refine hret _ [_, _] _ _ (by assumption) (by assumption) (by k_all) ⟨_, _, _, _, sd, t1, _, _, rfl, fmod_lo _ hw, fmod_hi _ hw, hs.1, hs.2, by assumption, ?_, rfl⟩
    simp only [List.length_append, List.length_take, List.length_drop]
    omega
  · refine hret _ [_, _] _ _ (by assumption) (by assumption) (by k_all) ⟨_, _, vs, ns, _, _, _, _, rfl, fmod_lo _ hw, fmod_hi _ hw, fmod_lo _ (by decide), fmod_hi _ (by decide), hi, hl, rfl⟩
theorem Dis2.push_inst {l : Led} {as : List Addr} {R : Led} {d x : Addr} (O : Dis2 as R) (e : l.map (·.1) = as ++ R.map (·.1)) (h : ∀ p ∈ l, p.1 < d) (hx : d < x) : Dis2 (x :: d :: as) R :=
  Dis2.push (l := (d, instObj 0 0) :: l) (Dis2.push O e h) (by rw [List.map_cons, e]; rfl) fun p hp => by
    rcases List.mem_cons.mp hp with rfl | hp
    · exact hx
    · exact Nat.lt_trans (h p hp) hx
theorem off2 : True := by
  w_top off
  exact True.intro
theorem mkCredit (w : World) (size : Int) (t0 : Tok) :
    Spec w 400 400 86 [.int size t0] [] [] (fun r led => ∃ x d c1 c2 c3 c4 c5, r = .ref x ∧ led = [(x, instObj 86 d), (d, creditObj w c1 c2 c3 size 0 c4 c5 .none)]) := by
  unfold Spec
  k_fill
  intro p loose mean mg mb gd cn cs fa ccd cll outer A₀ base h₀ L m R s Q E B F X N O hro T hcs hret
  (try dsimp only [List.nil_append] at N)
  (try dsimp only [List.map] at O)
  k_dflt (refine' call_cls ?k1 ?k2 ?k3 ?k4 ?k5 ?k6 ?_)
  case k1 => k_asm
  case k2 => k_asm
  case k3 => k_asm
  case k4 => k_is
  case k5 => k_is
  case k6 => k_is
  k_whole
  intro x' d' h' F' N' l1 l2
  replace O := Dis2.push_inst O (by exact rfl) l1 l2
  clear l1 l2 N F
  k_dflt ktr_enter
  k_steps
  all_goals (
    (rename News _ _ _ _ => kN)
    (rename Fr _ _ _ _ => kFr)
    exact hret _ [_, _] _ _ kFr kN (by k_all) ⟨_, _, _, _, _, _, _, rfl, rfl⟩)
theorem off3 : True := by
  w_top off
  exact True.intro
theorem mkWindow (w : World) (size : Int) (t0 : Tok) :
    Spec w 400 400 135 [.int size t0] [] [] (fun r led => ∃ x d k1 k2 k3 k4 k5 u1 u2 u3 u4, r = .ref x ∧ led = [(x, instObj 135 d), (d, windowObj w k1 k2 k3 k4 k5 size size 0 0 u1 u2 u3 u4 false)]) := by
  unfold Spec
  k_fill
  intro p loose mean mg mb gd cn cs fa ccd cll outer A₀ base h₀ L m R s Q E B F X N O hro T hcs hret
  (try dsimp only [List.nil_append] at N)
  (try dsimp only [List.map] at O)
  k_dflt (refine' call_cls ?k1 ?k2 ?k3 ?k4 ?k5 ?k6 ?_)
  case k1 => k_asm
  case k2 => k_asm
  case k3 => k_asm
  case k4 => k_is
  case k5 => k_is
  case k6 => k_is
  k_whole
  intro x' d' h' F' N' l1 l2
  replace O := Dis2.push_inst O (by exact rfl) l1 l2
  clear l1 l2 N F
  k_dflt ktr_enter
  k_steps
  all_goals (
    (rename News _ _ _ _ => kN)
    (rename Fr _ _ _ _ => kFr)
    exact hret _ [_, _] _ _ kFr kN (by k_all) ⟨_, _, _, _, _, _, _, _, _, _, _, rfl, rfl⟩)
theorem off4 : True := by
  w_top off
  exact True.intro
theorem mkSids (w : World) (role : Str) (tr : Tok) (ol pl : Addr) (o0 o1 p0 p1 : Int) (v1 v2 v3 v4 : Tok) (e1 e2 : Nat) :
    Spec w 400 400 240 [.str role tr, .ref ol, .ref pl] [(ol, two o0 o1 v1 v2 e1), (pl, two p0 p1 v3 v4 e2)] [] (fun r led => ∃ x d l1 l2 l3 l4 l5 l6 k1 k2 k3 k4 k5 k6 k7 w1 w2 w3 w4 f1 f2 f3 f4 f5 f6, r = .ref x ∧ led = [(l6, twoB false false f6), (l5, two p0 p1 v3 v4 f5), (l4, two 0 0 w3 w4 f4), (l3, two 0 0 w1 w2 f3), (l2, two p0 p1 v3 v4 f2), (l1, two o0 o1 v1 v2 f1), (x, instObj 240 d), (d, sidsObj w k1 k2 k3 k4 k5 k6 k7 role tr l1 l2 l3 l4 l5 l6), (ol, two o0 o1 v1 v2 e1), (pl, two p0 p1 v3 v4 e2)]) := by
  unfold Spec
  k_fill
  intro p loose mean mg mb gd cn cs fa ccd cll outer A₀ base h₀ L m R s Q E B F X N O hro T hcs hret
  (try dsimp only [List.cons_append, List.nil_append] at N)
  (try dsimp only [List.map] at O)
  k_dflt (refine' call_cls ?k1 ?k2 ?k3 ?k4 ?k5 ?k6 ?_)
  case k1 => k_asm
  case k2 => k_asm
  case k3 => k_asm
  case k4 => k_is
  case k5 => k_is
  case k6 => k_is
  k_whole
  intro x' d' h' F' N' l1 l2
  replace O := Dis2.push_inst O (by exact rfl) l1 l2
  clear l1 l2 N F
  k_dflt ktr_enter
  k_steps
  all_goals (
    (rename News _ _ _ _ => kN)
    (rename Fr _ _ _ _ => kFr)
    exact hret _ [_, _, _, _, _, _, _, _, _, _] _ _ kFr kN (by k_all) ⟨_, _, _, _, _, _, _, _, _, _, _, _, _, _, _, _, _, _, _, _, _, _, _, _, _, rfl, rfl⟩)
theorem lines2 : True := by
  k_with "subscriptTail" => ((k_here; (with_reducible show wpAny _ _ (subscriptTail _ _ (Value.ref _) (Value.str _ _)) _ _ _); k_dflt (refine kda_item (knd := PySem.strKind _ _) (by k_asm) (by k_mem) (by k_asm) (strKind_is _ _ _ _) (by rfl) ?_)))
  k_with "setItem ref str" => ((k_here; k_dflt (refine' kda_set (knd := PySem.strKind _ _) ?F ?N ?U ?d (strKind_is _ _ _ _) ?z ?_; (case F => k_asm); (case N => k_asm); (case U => k_updF); (case d => k_asm); (case z => rw [sizeLine_eq]; exact Nat.le_of_ble_eq_true (by with_unfolding_all rfl))); intro h' o' F' N' hd'; (try dsimp only at N'); (simp only [st_rest, st_told, st_most, st_let, st_many, st_over] at hd'); (try k_sweep)))
  exact True.intro
theorem off5 : True := by
  w_top off
  exact True.intro
theorem nextLimit_spec (w : World) (wiD wi : Nat) (k1 k2 k3 k4 k5 : Tok) (size lim got used : Int) (u1 u2 u3 u4 : Tok) (owes : Bool) :
    Spec w 700 700 125 [.ref wi] [(wiD, windowObj w k1 k2 k3 k4 k5 size lim got used u1 u2 u3 u4 owes), (wi, instObj 135 wiD)] []
     (fun r led => ∃ lim' owes' d u2', NextLimit size lim used owes lim' owes' d ∧ ((r = .none ∧ d = []) ∨ ∃ t, r = .int lim' t ∧ d = [(true, lim')]) ∧
       led = [(wiD, windowObj w k1 k2 k3 k4 k5 size lim' got used u1 u2' u3 u4 owes'), (wi, instObj 135 wiD)]) := by
  unfold Spec
  k_fill
  intro p loose mean mg mb gd cn cs fa ccd cll outer A₀ base h₀ L m R s Q E B F X N O hro T hcs hret
  (try dsimp only [List.cons_append, List.nil_append] at N)
  (try dsimp only [List.map] at O)
  refine wpAny_call ?_
  k_dflt ktr_enter
  (rename Fr _ _ _ _ => kFF)
  replace kFF : Fr _ _ _ (fun y => List.lookup y [(Str.ofString "self", .ref wi)]) := kFF
  k_steps
  all_goals first
    | exact hret _ [_, _] _ _ (by assumption) (by assumption) (by k_all) ⟨_, _, _, _, nl_low (by assumption), Or.inr ⟨_, rfl, rfl⟩, rfl⟩
    | exact hret _ [_, _] _ _ (by assumption) (by assumption) (by k_all) ⟨_, _, _, _, nl_owes (by assumption) (by assumption), Or.inr ⟨_, rfl, rfl⟩, rfl⟩
    | exact hret _ [_, _] _ _ (by assumption) (by assumption) (by k_all) ⟨_, _, _, _, nl_none (by assumption) (by assumption), Or.inl ⟨rfl, rfl⟩, rfl⟩
theorem lines3 : True := by
  k_with "call ref" => ((k_here; (with_reducible show wpAny _ _ (call (Value.ref 125) _ _) _ _ _); (with_reducible rename Dis2 _ _ => kO9); k_dflt (refine' Spec.use (nextLimit_spec _ _ _ _ _ _ _ _ _ _ _ _ _ _ _ _ _) ?zA ?zf ?zd ?zu ?zB ?zF ?zX ?zN kO9 ?zs ?ze ?zr ?zT ?zk ?_; (case zA => exact rfl); (case zf => exact rfl); (case zd => exact Nat.le_of_ble_eq_true rfl); (case zu => exact Nat.le_of_ble_eq_true rfl); (case zF => k_asm); (case zB => k_asm); (case zX => k_asm); (case zN => k_asm); (case zT => k_asm); (case zk => first | exact rfl | assumption);  (case zs => k_upd); (case ze => exact rfl); (case zr => exact fun _ h => nomatch h)); intro r' led' h' tk' F' N' O' hp'; (try clear kO9); rcases hp' with ⟨lim', owes', d', u2', hn', ⟨hq1', hd'⟩ | ⟨tr', hq2', hd'⟩, hq3'⟩; all_goals ( (try subst hq1'); (try subst hq2'); (try subst hq3'); (try dsimp only [List.cons_append, List.nil_append] at N'); (try dsimp only [List.map, List.cons_append, List.nil_append] at O'); (try k_sweep))))
  exact True.intro
theorem off6 : True := by
  w_top off
  exact True.intro
theorem nextGrant_spec (w : World) (svD sv sOwn sPeer sOM sPM sTold sOwes : Nat) (g1 g2 g3 g4 g5 g6 g7 tr : Tok) (p0 p1 q0 q1 : Int) (v1 v2 v3 v4 : Tok) (b0 b1 : Bool) (e1 e2 e3 : Nat) :
    Spec w 700 700 230 [.ref sv, .bool false] [(svD, sidsObj w g1 g2 g3 g4 g5 g6 g7 (Str.ofString "server") tr sOwn sPeer sOM sPM sTold sOwes), (sv, instObj 240 svD), (sPeer, two p0 p1 v1 v2 e1), (sTold, two q0 q1 v3 v4 e2), (sOwes, twoB b0 b1 e3)] []
     (fun r led => ∃ q0' b0' g v3' e2' e3', NextGrant q0 p0 b0 q0' b0' g ∧ ((r = .none ∧ g = []) ∨ ∃ t, r = .int p0 t ∧ g = [(false, p0)]) ∧
       led = [(svD, sidsObj w g1 g2 g3 g4 g5 g6 g7 (Str.ofString "server") tr sOwn sPeer sOM sPM sTold sOwes), (sv, instObj 240 svD), (sPeer, two p0 p1 v1 v2 e1), (sTold, two q0' q1 v3' v4 e2'), (sOwes, twoB b0' b1 e3')]) := by
  unfold Spec
  k_fill
  intro p loose mean mg mb gd cn cs fa ccd cll outer A₀ base h₀ L m R s Q E B F X N O hro T hcs hret
  (try dsimp only [List.cons_append, List.nil_append] at N)
  (try dsimp only [List.map] at O)
  refine wpAny_call ?_
  k_dflt ktr_enter
  (rename Fr _ _ _ _ => kFF)
  replace kFF : Fr _ _ _ (fun y => List.lookup y [(Str.ofString "is_uni", .bool false), (Str.ofString "self", .ref sv)]) := kFF
  k_steps
  all_goals first
    | exact hret _ [_, _, _, _, _] _ _ (by assumption) (by assumption) (by k_all) ⟨_, _, _, _, _, _, ng_ne (by assumption), Or.inr ⟨_, rfl, rfl⟩, rfl⟩
    | exact hret _ [_, _, _, _, _] _ _ (by assumption) (by assumption) (by k_all) ⟨_, _, _, _, _, _, ng_owes (by assumption), Or.inr ⟨_, rfl, rfl⟩, rfl⟩
    | exact hret _ [_, _, _, _, _] _ _ (by assumption) (by assumption) (by k_all) ⟨_, _, _, _, _, _, ng_none (by assumption) (by assumption), Or.inl ⟨rfl, rfl⟩, rfl⟩
theorem lines4 : True := by
  k_with "call ref" => ((k_here; (with_reducible show wpAny _ _ (call (Value.ref 230) _ _) _ _ _); (with_reducible rename Dis2 _ _ => kO9); k_dflt (refine' Spec.use (nextGrant_spec _ _ _ _ _ _ _ _ _ _ _ _ _ _ _ _ _ _ _ _ _ _ _ _ _ _ _ _ _ _) ?zA ?zf ?zd ?zu ?zB ?zF ?zX ?zN kO9 ?zs ?ze ?zr ?zT ?zk ?_; (case zA => exact rfl); (case zf => exact rfl); (case zd => exact Nat.le_of_ble_eq_true rfl); (case zu => exact Nat.le_of_ble_eq_true rfl); (case zF => k_asm); (case zB => k_asm); (case zX => k_asm); (case zN => k_asm); (case zT => k_asm); (case zk => first | exact rfl | assumption);  (case zs => k_upd); (case ze => exact rfl); (case zr => exact fun _ h => nomatch h)); intro r' led' h' tk' F' N' O' hp'; (try clear kO9); rcases hp' with ⟨q0', b0', g', v3', e2', e3', hn', ⟨hq1', hg'⟩ | ⟨tr', hq2', hg'⟩, hq3'⟩; all_goals ( (try subst hq1'); (try subst hq2'); (try subst hq3'); (try dsimp only [List.cons_append, List.nil_append] at N'); (try dsimp only [List.map, List.cons_append, List.nil_append] at O'); (try k_sweep))))
  exact True.intro
theorem off7 : True := by
  w_top off
  exact True.intro
theorem isOneWay_spec (w : World) (sid : Int) (t0 : Tok) (hs : sid % 4 = 0) :
    Spec w 900 900 169 [.int sid t0] [] []
     (fun r led => r = .bool false ∧ led = []) := by
  unfold Spec
  k_fill
  intro p loose mean mg mb gd cn cs fa ccd cll outer A₀ base h₀ L m R s Q E B F X N O hro T hcs hret
  (try dsimp only [List.cons_append, List.nil_append] at N)
  (try dsimp only [List.map] at O)
  refine wpAny_call ?_
  k_dflt ktr_enter
  (rename Fr _ _ _ _ => kFF)
  replace kFF : Fr _ _ _ (fun y => List.lookup y [(Str.ofString "sid", .int sid t0)]) := kFF
  k_steps
  rw [fd1 hs]
  exact hret _ [] _ _ (by assumption) (by assumption) (by k_all) ⟨rfl, rfl⟩
theorem lines5 : True := by
  k_with "call ref" => ((k_here; (with_reducible show wpAny _ _ (call (Value.ref 169) _ _) _ _ _); k_dflt (refine' Spec.use0 (isOneWay_spec _ _ _ ?yhs) ?zA ?zf ?zd ?zu ?zB ?zF ?zX ?zN ?zr ?zT ?zk ?_; (case zA => exact rfl); (case zf => exact rfl); (case zd => exact Nat.le_of_ble_eq_true rfl); (case zu => exact Nat.le_of_ble_eq_true rfl); (case zF => k_asm); (case zB => k_asm); (case zX => k_asm); (case zN => k_asm); (case zT => k_asm); (case zk => first | exact rfl | assumption);  (case yhs => first | with_reducible assumption | omega | assumption); (case zr => exact fun _ h => nomatch h)); intro r' led' h' tk' F' N' hp'; rcases hp' with ⟨hq1', hq2'⟩; all_goals ( (try subst hq1'); (try subst hq2'); (try dsimp only [List.cons_append, List.nil_append] at N');  (try k_sweep))))
  exact True.intro
theorem off8 : True := by
  w_top off
  exact True.intro
theorem numberOf_spec (w : World) (sid : Int) (t0 : Tok) (hs : sid % 4 = 0) :
    Spec w 900 900 155 [.int sid t0] [] []
     (fun r led => ∃ v tv, r = .int v tv ∧ 4 * v = sid ∧ led = []) := by
  unfold Spec
  k_fill
  intro p loose mean mg mb gd cn cs fa ccd cll outer A₀ base h₀ L m R s Q E B F X N O hro T hcs hret
  (try dsimp only [List.cons_append, List.nil_append] at N)
  (try dsimp only [List.map] at O)
  refine wpAny_call ?_
  k_dflt ktr_enter
  (rename Fr _ _ _ _ => kFF)
  replace kFF : Fr _ _ _ (fun y => List.lookup y [(Str.ofString "sid", .int sid t0)]) := kFF
  k_steps
  exact hret _ [] _ _ (by assumption) (by assumption) (by k_all) ⟨_, _, rfl, fd2 hs, rfl⟩
theorem lines6 : True := by
  k_with "call ref" => ((k_here; (with_reducible show wpAny _ _ (call (Value.ref 155) _ _) _ _ _); k_dflt (refine' Spec.use0 (numberOf_spec _ _ _ ?yhs) ?zA ?zf ?zd ?zu ?zB ?zF ?zX ?zN ?zr ?zT ?zk ?_; (case zA => exact rfl); (case zf => exact rfl); (case zd => exact Nat.le_of_ble_eq_true rfl); (case zu => exact Nat.le_of_ble_eq_true rfl); (case zF => k_asm); (case zB => k_asm); (case zX => k_asm); (case zN => k_asm); (case zT => k_asm); (case zk => first | exact rfl | assumption);  (case yhs => first | with_reducible assumption | omega | assumption); (case zr => exact fun _ h => nomatch h)); intro r' led' h' tk' F' N' hp'; rcases hp' with ⟨v', tv', hq1', hv', hq2'⟩; all_goals ( (try subst hq1'); (try subst hq2'); (try dsimp only [List.cons_append, List.nil_append] at N');  (try k_sweep))))
  exact True.intro
theorem off9 : True := by
  w_top off
  exact True.intro
theorem openerOf_spec (w : World) (sid : Int) (t0 : Tok) (hs : sid % 4 = 0) :
    Spec w 900 900 162 [.int sid t0] [] []
     (fun r led => ∃ tv, r = .str (Str.ofString "client") tv ∧ led = []) := by
  unfold Spec
  k_fill
  intro p loose mean mg mb gd cn cs fa ccd cll outer A₀ base h₀ L m R s Q E B F X N O hro T hcs hret
  (try dsimp only [List.cons_append, List.nil_append] at N)
  (try dsimp only [List.map] at O)
  refine wpAny_call ?_
  k_dflt ktr_enter
  (rename Fr _ _ _ _ => kFF)
  replace kFF : Fr _ _ _ (fun y => List.lookup y [(Str.ofString "sid", .int sid t0)]) := kFF
  k_steps
  · exact (fd3 hs (by assumption)).elim
  · exact hret _ [] _ _ (by assumption) (by assumption) (by k_all) ⟨_, rfl, rfl⟩
theorem lines7 : True := by
  k_with "call ref" => ((k_here; (with_reducible show wpAny _ _ (call (Value.ref 162) _ _) _ _ _); k_dflt (refine' Spec.use0 (openerOf_spec _ _ _ ?yhs) ?zA ?zf ?zd ?zu ?zB ?zF ?zX ?zN ?zr ?zT ?zk ?_; (case zA => exact rfl); (case zf => exact rfl); (case zd => exact Nat.le_of_ble_eq_true rfl); (case zu => exact Nat.le_of_ble_eq_true rfl); (case zF => k_asm); (case zB => k_asm); (case zX => k_asm); (case zN => k_asm); (case zT => k_asm); (case zk => first | exact rfl | assumption);  (case yhs => first | with_reducible assumption | omega | assumption); (case zr => exact fun _ h => nomatch h)); intro r' led' h' tk' F' N' hp'; rcases hp' with ⟨tv', hq1', hq2'⟩; all_goals ( (try subst hq1'); (try subst hq2'); (try dsimp only [List.cons_append, List.nil_append] at N');  (try k_sweep))))
  exact True.intro
theorem off10 : True := by
  w_top off
  exact True.intro
theorem streamId_spec (w : World) (n : Int) (t0 t1 : Tok) :
    Spec w 900 900 148 [.int n t0, .str (Str.ofString "client") t1, .bool false] [] []
     (fun r led => ∃ tv, r = .int (4 * n) tv ∧ led = []) := by
  unfold Spec
  k_fill
  intro p loose mean mg mb gd cn cs fa ccd cll outer A₀ base h₀ L m R s Q E B F X N O hro T hcs hret
  (try dsimp only [List.cons_append, List.nil_append] at N)
  (try dsimp only [List.map] at O)
  refine wpAny_call ?_
  k_dflt ktr_enter
  (rename Fr _ _ _ _ => kFF)
  replace kFF : Fr _ _ _ (fun y => List.lookup y [(Str.ofString "is_uni", .bool false), (Str.ofString "opener", .str (Str.ofString "client") t1), (Str.ofString "number", .int n t0)]) := kFF
  k_steps
  rw [show 4 * n + 0 + 0 = 4 * n by omega]
  exact hret _ [] _ _ (by assumption) (by assumption) (by k_all) ⟨_, rfl, rfl⟩
theorem lines8 : True := by
  k_with "call ref" => ((k_here; (with_reducible show wpAny _ _ (call (Value.ref 148) _ _) _ _ _); k_dflt (refine' Spec.use0 (streamId_spec _ _ _ _) ?zA ?zf ?zd ?zu ?zB ?zF ?zX ?zN ?zr ?zT ?zk ?_; (case zA => exact rfl); (case zf => exact rfl); (case zd => exact Nat.le_of_ble_eq_true rfl); (case zu => exact Nat.le_of_ble_eq_true rfl); (case zF => k_asm); (case zB => k_asm); (case zX => k_asm); (case zN => k_asm); (case zT => k_asm); (case zk => first | exact rfl | assumption);  (case zr => exact fun _ h => nomatch h)); intro r' led' h' tk' F' N' hp'; rcases hp' with ⟨tv', hq1', hq2'⟩; all_goals ( (try subst hq1'); (try subst hq2'); (try dsimp only [List.cons_append, List.nil_append] at N');  (try k_sweep))))
  exact True.intro
theorem off11 : True := by
  w_top off
  exact True.intro
theorem canReceive_spec (w : World) (sid : Int) (t0 t1 : Tok) (hs : sid % 4 = 0) :
    Spec w 800 800 183 [.int sid t0, .str (Str.ofString "server") t1] [] []
     (fun r led => r = .bool true ∧ led = []) := by
  unfold Spec
  k_fill
  intro p loose mean mg mb gd cn cs fa ccd cll outer A₀ base h₀ L m R s Q E B F X N O hro T hcs hret
  (try dsimp only [List.cons_append, List.nil_append] at N)
  (try dsimp only [List.map] at O)
  refine wpAny_call ?_
  k_dflt ktr_enter
  (rename Fr _ _ _ _ => kFF)
  replace kFF : Fr _ _ _ (fun y => List.lookup y [(Str.ofString "role", .str (Str.ofString "server") t1), (Str.ofString "sid", .int sid t0)]) := kFF
  k_steps
  exact hret _ [] _ _ (by assumption) (by assumption) (by k_all) ⟨rfl, rfl⟩
theorem lines9 : True := by
  k_with "call ref" => ((k_here; (with_reducible show wpAny _ _ (call (Value.ref 183) _ _) _ _ _); k_dflt (refine' Spec.use0 (canReceive_spec _ _ _ _ ?yhs) ?zA ?zf ?zd ?zu ?zB ?zF ?zX ?zN ?zr ?zT ?zk ?_; (case zA => exact rfl); (case zf => exact rfl); (case zd => exact Nat.le_of_ble_eq_true rfl); (case zu => exact Nat.le_of_ble_eq_true rfl); (case zF => k_asm); (case zB => k_asm); (case zX => k_asm); (case zN => k_asm); (case zT => k_asm); (case zk => first | exact rfl | assumption);  (case yhs => first | with_reducible assumption | omega | assumption); (case zr => exact fun _ h => nomatch h)); intro r' led' h' tk' F' N' hp'; rcases hp' with ⟨hq1', hq2'⟩; all_goals ( (try subst hq1'); (try subst hq2'); (try dsimp only [List.cons_append, List.nil_append] at N');  (try k_sweep))))
  exact True.intro
theorem off12 : True := by
  w_top off
  exact True.intro
theorem openOwn_spec (w : World) (clD cl cOwn cPeer cOM cPM cTold cOwes : Nat) (y1 y2 y3 y4 y5 y6 y7 yr : Tok) (o0 o1 m0 m1 : Int) (v1 v2 v3 v4 : Tok) (e1 e2 : Nat) :
    Spec w 700 700 204 [.ref cl, .bool false] [(clD, sidsObj w y1 y2 y3 y4 y5 y6 y7 (Str.ofString "client") yr cOwn cPeer cOM cPM cTold cOwes), (cl, instObj 240 clD), (cOwn, two o0 o1 v1 v2 e1), (cOM, two m0 m1 v3 v4 e2)] []
     (fun r led => ∃ m0' v3' e2', ((¬ m0 < o0 ∧ m0' = m0 ∧ r = .none) ∨ (m0 < o0 ∧ m0' = m0 + 1 ∧ ∃ v tv, r = .int v tv ∧ v = 4 * m0)) ∧
       led = [(clD, sidsObj w y1 y2 y3 y4 y5 y6 y7 (Str.ofString "client") yr cOwn cPeer cOM cPM cTold cOwes), (cl, instObj 240 clD), (cOwn, two o0 o1 v1 v2 e1), (cOM, two m0' m1 v3' v4 e2')]) := by
  unfold Spec
  k_fill
  intro p loose mean mg mb gd cn cs fa ccd cll outer A₀ base h₀ L m R s Q E B F X N O hro T hcs hret
  (try dsimp only [List.cons_append, List.nil_append] at N)
  (try dsimp only [List.map] at O)
  refine wpAny_call ?_
  k_dflt ktr_enter
  (rename Fr _ _ _ _ => kFF)
  replace kFF : Fr _ _ _ (fun y => List.lookup y [(Str.ofString "is_uni", .bool false), (Str.ofString "self", .ref cl)]) := kFF
  k_steps
  · exact hret _ [_, _, _, _] _ _ (by assumption) (by assumption) (by k_all) ⟨_, _, _, Or.inl ⟨by omega, rfl, rfl⟩, rfl⟩
  · refine hret _ [_, _, _, _] _ _ (by assumption) (by assumption) (by k_all) ⟨m0 + 1, _, _, Or.inr ⟨by omega, rfl, _, _, rfl, ?_⟩, rfl⟩
    show 4 * (m0 + 1 - 1) = 4 * m0
    omega
theorem lines10 : True := by
  k_with "call ref" => ((k_here; (with_reducible show wpAny _ _ (call (Value.ref 204) _ _) _ _ _); (with_reducible rename Dis2 _ _ => kO9); k_dflt (refine' Spec.use (openOwn_spec _ _ _ _ _ _ _ _ _ _ _ _ _ _ _ _ _ _ _ _ _ _ _ _ _ _ _) ?zA ?zf ?zd ?zu ?zB ?zF ?zX ?zN kO9 ?zs ?ze ?zr ?zT ?zk ?_; (case zA => exact rfl); (case zf => exact rfl); (case zd => exact Nat.le_of_ble_eq_true rfl); (case zu => exact Nat.le_of_ble_eq_true rfl); (case zF => k_asm); (case zB => k_asm); (case zX => k_asm); (case zN => k_asm); (case zT => k_asm); (case zk => first | exact rfl | assumption);  (case zs => k_upd); (case ze => exact rfl); (case zr => exact fun _ h => nomatch h)); intro r' led' h' tk' F' N' O' hp'; (try clear kO9); rcases hp' with ⟨m0', v3', e2', ⟨hlt', hm', hq1'⟩ | ⟨hlt', hm', v', tv', hq2', hv'⟩, hq3'⟩; all_goals ( (try subst hq1'); (try subst hq2'); (try subst hq3'); (try dsimp only [List.cons_append, List.nil_append] at N'); (try dsimp only [List.map, List.cons_append, List.nil_append] at O'); (try k_sweep))))
  exact True.intro
theorem off13 : True := by
  w_top off
  exact True.intro
theorem takeId_spec (w : World) (svD sv sOwn sPeer sOM sPM sTold sOwes : Nat) (g1 g2 g3 g4 g5 g6 g7 tr : Tok) (m0 m1 q0 q1 : Int) (v1 v2 v3 v4 : Tok) (e1 e2 : Nat) (ts tn : Tok) (sid : Int) (hs : sid = 4 * m0) (hm : 0 ≤ m0) (hq : m0 < q0) (hz : m0 < 1000) :
    Spec w 700 700 216 [.ref sv, .str (Str.ofString "stream") ts, .int sid tn] [(svD, sidsObj w g1 g2 g3 g4 g5 g6 g7 (Str.ofString "server") tr sOwn sPeer sOM sPM sTold sOwes), (sv, instObj 240 svD), (sPM, two m0 m1 v1 v2 e1), (sTold, two q0 q1 v3 v4 e2)] []
     (fun r led => ∃ x v1' e1' ex ys m0', r = .ref x ∧ m0' = m0 + 1 ∧ IntsAre ys [4 * m0] ∧
       led = [(svD, sidsObj w g1 g2 g3 g4 g5 g6 g7 (Str.ofString "server") tr sOwn sPeer sOM sPM sTold sOwes), (sv, instObj 240 svD), (sPM, two m0' m1 v1' v2 e1'), (sTold, two q0 q1 v3 v4 e2), (x, listOf ys.toArray ex)]) := by
  unfold Spec
  k_fill
  intro p loose mean mg mb gd cn cs fa ccd cll outer A₀ base h₀ L m R s Q E B F X N O hro T hcs hret
  (try dsimp only [List.cons_append, List.nil_append] at N)
  (try dsimp only [List.map] at O)
  refine wpAny_call ?_
  k_dflt (refine' code_defC ?k1 ?k2 ?k3 ?k4 ?k5 ?kA ?kF ?kK ?k6 ?k7 ?k8 ?k9 ?kB ?kD ?_ ?c2 ?c3 ?c4; (case kA => exact rfl); (case kF => exact rfl); (case kK => assumption); (case k1 => k_asm); (case k2 => k_asm); (case k3 => k_asm); (case k4 => k_asm); (case k5 => k_asm); (case k6 => k_is); (case k7 => k_is); (case k8 => ktr_room); (case k9 => exact BindsTo.of_eq rfl); (case kB => exact rfl); (case kD => decide +kernel); (case c2 => exact rfl); (case c3 => exact rfl); (case c4 => exact rfl); k_whole)
  intro g' L' h' tk' cells' FG' F' N' Y' B' X' T' l1
  (with_reducible rename Dis2 _ _ => kO9)
  replace kO9 := Dis2.push2 kO9 (by exact rfl) l1
  clear l1
  k_cells Y'
  (try dsimp only [List.cons_append, List.nil_append] at N')
  (try dsimp only)
  (try k_fold)
  (repeat (with_reducible rename (_ ∧ _) => hcj; obtain ⟨hca, hcb⟩ := hcj))
  k_steps
  (with_reducible rename (_ ≠ _ ∧ _) => o9)
  (with_reducible rename Dis2 _ _ => kO9)
  replace kO9 := Dis2.pushO kO9 o9
  (repeat (with_reducible rename (_ ∧ _) => hcj; obtain ⟨hca, hcb⟩ := hcj))
  (rename News _ _ _ _ => kN)
  (rename IntsAre _ (List.map _ (rangeKs _ _)) => hys)
  (rename (4 * _ = sid) => hv)
  (rename (_ = max _ _) => hj)
  have hys' := one_turn hys (by omega)
  refine' hret _ _ _ _ ?kF (News.subL kN ?kS) ?kO ⟨_, _, _, _, _, _, rfl, ?p1, hys', rfl⟩
  (case kF => assumption)
  (case kS => ((simp only [List.cons_append, List.nil_append]); k_updF))
  (case p1 => omega)
  (case kO => k_all)
theorem lines11 : True := by
  k_with "call ref" => ((k_here; (with_reducible show wpAny _ _ (call (Value.ref 216) _ _) _ _ _); (with_reducible rename Dis2 _ _ => kO9); k_dflt (refine' Spec.use (takeId_spec _ _ _ _ _ _ _ _ _ _ _ _ _ _ _ _ _ _ _ _ _ _ _ _ _ _ _ _ _ _ ?yhs ?yhm ?yhq ?yhz) ?zA ?zf ?zd ?zu ?zB ?zF ?zX ?zN kO9 ?zs ?ze ?zr ?zT ?zk ?_; (case zA => exact rfl); (case zf => exact rfl); (case zd => exact Nat.le_of_ble_eq_true rfl); (case zu => exact Nat.le_of_ble_eq_true rfl); (case zF => k_asm); (case zB => k_asm); (case zX => k_asm); (case zN => k_asm); (case zT => k_asm); (case zk => first | exact rfl | assumption);  (case zs => k_upd); (case ze => exact rfl); (case yhs => first | with_reducible assumption | omega | assumption); (case yhm => first | with_reducible assumption | omega | assumption); (case yhq => first | with_reducible assumption | omega | assumption); (case yhz => first | with_reducible assumption | omega | assumption); (case zr => exact fun _ h => nomatch h)); intro r' led' h' tk' F' N' O' hp'; (try clear kO9); rcases hp' with ⟨x', v1', e1', ex', ys', m0', hq1', hm', hy', hq2'⟩; all_goals ( (try subst hq1'); (try subst hq2'); (try dsimp only [List.cons_append, List.nil_append] at N'); (try dsimp only [List.map, List.cons_append, List.nil_append] at O'); (try k_sweep))))
  exact True.intro
theorem off14 : True := by
  w_top off
  exact True.intro
theorem onClosed_spec (w : World) (svD sv sOwn sPeer sOM sPM sTold sOwes : Nat) (g1 g2 g3 g4 g5 g6 g7 tr : Tok) (p0 p1 : Int) (v1 v2 : Tok) (e1 : Nat) (sid : Int) (t0 : Tok) (hs : sid % 4 = 0) :
    Spec w 700 700 223 [.ref sv, .int sid t0] [(svD, sidsObj w g1 g2 g3 g4 g5 g6 g7 (Str.ofString "server") tr sOwn sPeer sOM sPM sTold sOwes), (sv, instObj 240 svD), (sPeer, two p0 p1 v1 v2 e1)] []
     (fun r led => ∃ p0' v1' e1', r = .none ∧ p0' = p0 + 1 ∧
       led = [(svD, sidsObj w g1 g2 g3 g4 g5 g6 g7 (Str.ofString "server") tr sOwn sPeer sOM sPM sTold sOwes), (sv, instObj 240 svD), (sPeer, two p0' p1 v1' v2 e1')]) := by
  unfold Spec
  k_fill
  intro p loose mean mg mb gd cn cs fa ccd cll outer A₀ base h₀ L m R s Q E B F X N O hro T hcs hret
  (try dsimp only [List.cons_append, List.nil_append] at N)
  (try dsimp only [List.map] at O)
  refine wpAny_call ?_
  k_dflt ktr_enter
  (rename Fr _ _ _ _ => kFF)
  replace kFF : Fr _ _ _ (fun y => List.lookup y [(Str.ofString "sid", .int sid t0), (Str.ofString "self", .ref sv)]) := kFF
  k_steps
  exact hret _ [_, _, _] _ _ (by assumption) (by assumption) (by k_all) ⟨p0 + 1, _, _, rfl, rfl, rfl⟩
theorem off15 : True := by
  w_top off
  exact True.intro
theorem sent_spec (w : World) (here crD crI wi fl li cl sv : Nat) (oH : Obj) (rest most lt many over : Int) (t1 t2 t3 t4 t5 : Tok) (told : Value) (hH : HereIs w oH (hereKvs crI wi fl li cl sv rest most lt many over t1 t2 t3 t4 t5 told)) (c1 c2 c3 : Tok) (clim cused : Int) (c4 c5 : Tok) (toldAt : Value) (vs : List Value) (ns : List Int) (e : Nat) (hi : IntsAre vs ns) (hl : vs.length ≤ 900) (k : Int) (tk : Tok) (hk : 0 ≤ k) (hr : 0 ≤ rest) (hu : cused ≤ clim) :
    Spec w 500 500 265 [.ref here, .int k tk] [(here, oH), (crD, creditObj w c1 c2 c3 clim cused c4 c5 toldAt), (crI, instObj 86 crD), (fl, listOf vs.toArray e)] []
     (fun r led => ∃ j oH' t1' c5' vs' ns' e', r = .none ∧ j = min k (min (clim - cused) rest) ∧ HereIs w oH' (hereKvs crI wi fl li cl sv (rest - j) most lt many over t1' t2 t3 t4 t5 told) ∧ IntsAre vs' ns' ∧ (ns' = if 0 < j then ns ++ [j] else ns) ∧
       led = [(here, oH'), (crD, creditObj w c1 c2 c3 clim (cused + j) c4 c5' toldAt), (crI, instObj 86 crD), (fl, listOf vs'.toArray e')]) := by
  unfold Spec
  k_fill
  intro p loose mean mg mb gd cn cs fa ccd cll outer A₀ base h₀ L m R s Q E B F X N O hro T hcs hret
  (try dsimp only [List.cons_append, List.nil_append] at N)
  (try dsimp only [List.map] at O)
  refine wpAny_call ?_
  k_dflt ktr_enter
  (rename Fr _ _ _ _ => kFF)
  replace kFF : Fr _ _ _ (fun y => List.lookup y [(Str.ofString "many", .int k tk), (Str.ofString "here", .ref here)]) := kFF
  k_steps
  · (rename News _ _ _ _ => kN)
    simp only [List.push_toArray] at kN
    refine hret _ [_, _, _, _] _ _ (by assumption) (by assumption) (by k_all) ⟨_, _, _, _, vs ++ [_], ns ++ [_], _, rfl, by assumption, by assumption, ints_snoc _ _ hi, ?_, rfl⟩
    rw [if_pos (by assumption)]
  · refine hret _ [_, _, _, _] _ _ (by assumption) (by assumption) (by k_all) ⟨_, _, _, _, vs, ns, _, rfl, by assumption, by assumption, hi, ?_, rfl⟩
    rw [if_neg (by assumption)]
theorem off16 : True := by
  w_top off
  exact True.intro
theorem came_spec (w : World) (here crI wiD wi fl li cl sv : Nat) (oH : Obj) (rest most lt many over : Int) (t1 t2 t3 t4 t5 : Tok) (told : Value) (hH : HereIs w oH (hereKvs crI wi fl li cl sv rest most lt many over t1 t2 t3 t4 t5 told)) (k1 k2 k3 k4 k5 : Tok) (size lim got used : Int) (u1 u2 u3 u4 : Tok) (owes : Bool) (vs : List Value) (ns : List Int) (e : Nat) (hi : IntsAre vs ns) (hl : vs.length ≤ 1000) (at_ v : Int) (ta : Tok) (ha : 0 ≤ at_) (hv : ns[at_.toNat]? = some v) (hb : got + v ≤ lim) :
    Spec w 500 500 272 [.ref here, .int at_ ta] [(here, oH), (wiD, windowObj w k1 k2 k3 k4 k5 size lim got used u1 u2 u3 u4 owes), (wi, instObj 135 wiD), (fl, listOf vs.toArray e)] []
     (fun r led => ∃ u3' vs' e', r = .none ∧ IntsAre vs' (ns.take at_.toNat ++ ns.drop (at_.toNat + 1)) ∧
       led = [(here, oH), (wiD, windowObj w k1 k2 k3 k4 k5 size lim (got + v) used u1 u2 u3' u4 owes), (wi, instObj 135 wiD), (fl, listOf vs'.toArray e')]) := by
  unfold Spec
  k_fill
  intro p loose mean mg mb gd cn cs fa ccd cll outer A₀ base h₀ L m R s Q E B F X N O hro T hcs hret
  (try dsimp only [List.cons_append, List.nil_append] at N)
  (try dsimp only [List.map] at O)
  refine wpAny_call ?_
  k_dflt ktr_enter
  (rename Fr _ _ _ _ => kFF)
  replace kFF : Fr _ _ _ (fun y => List.lookup y [(Str.ofString "at", .int at_ ta), (Str.ofString "here", .ref here)]) := kFF
  k_steps
  refine hret _ [_, _, _, _] _ _ (by assumption) (by assumption) (by k_all) ⟨_, _, _, rfl, by assumption, rfl⟩
theorem off17 : True := by
  w_top off
  exact True.intro
theorem read_spec (w : World) (here crI wiD wi fl li cl sv : Nat) (oH : Obj) (rest most lt many over : Int) (t1 t2 t3 t4 t5 : Tok) (told : Value) (hH : HereIs w oH (hereKvs crI wi fl li cl sv rest most lt many over t1 t2 t3 t4 t5 told)) (k1 k2 k3 k4 k5 : Tok) (size lim got used : Int) (u1 u2 u3 u4 : Tok) (owes : Bool) (k : Int) (tk : Tok) :
    Spec w 500 500 279 [.ref here, .int k tk] [(here, oH), (wiD, windowObj w k1 k2 k3 k4 k5 size lim got used u1 u2 u3 u4 owes), (wi, instObj 135 wiD)] []
     (fun r led => ∃ j u4', r = .none ∧ j = min k (got - used) ∧
       led = [(here, oH), (wiD, windowObj w k1 k2 k3 k4 k5 size lim got (used + j) u1 u2 u3 u4' owes), (wi, instObj 135 wiD)]) := by
  unfold Spec
  k_fill
  intro p loose mean mg mb gd cn cs fa ccd cll outer A₀ base h₀ L m R s Q E B F X N O hro T hcs hret
  (try dsimp only [List.cons_append, List.nil_append] at N)
  (try dsimp only [List.map] at O)
  refine wpAny_call ?_
  k_dflt ktr_enter
  (rename Fr _ _ _ _ => kFF)
  replace kFF : Fr _ _ _ (fun y => List.lookup y [(Str.ofString "many", .int k tk), (Str.ofString "here", .ref here)]) := kFF
  k_steps
  refine hret _ [_, _, _] _ _ (by assumption) (by assumption) (by k_all) ⟨_, _, rfl, by assumption, rfl⟩
theorem off18 : True := by
  w_top off
  exact True.intro
theorem told_spec (w : World) (here crI wiD wi fl li cl svD sv sOwn sPeer sOM sPM sTold sOwes : Nat) (oH : Obj) (rest most lt many over : Int) (t1 t2 t3 t4 t5 : Tok) (told : Value) (hH : HereIs w oH (hereKvs crI wi fl li cl sv rest most lt many over t1 t2 t3 t4 t5 told)) (k1 k2 k3 k4 k5 : Tok) (size lim got used : Int) (u1 u2 u3 u4 : Tok) (owes : Bool) (vs : List Value) (e : Nat) (hl : vs.length ≤ 900) (g1 g2 g3 g4 g5 g6 g7 tr : Tok) (p0 p1 q0 q1 : Int) (v1 v2 v3 v4 : Tok) (b0 b1 : Bool) (e1 e2 e3 : Nat) :
    Spec w 500 500 286 [.ref here] [(here, oH), (wiD, windowObj w k1 k2 k3 k4 k5 size lim got used u1 u2 u3 u4 owes), (wi, instObj 135 wiD), (li, listOf vs.toArray e), (svD, sidsObj w g1 g2 g3 g4 g5 g6 g7 (Str.ofString "server") tr sOwn sPeer sOM sPM sTold sOwes), (sv, instObj 240 svD), (sPeer, two p0 p1 v1 v2 e1), (sTold, two q0 q1 v3 v4 e2), (sOwes, twoB b0 b1 e3)] []
     (fun r led => ∃ lim' owes' q0' b0' d g vs' tups u2' v3' e' e2' e3', r = .none ∧ NextLimit size lim used owes lim' owes' d ∧ NextGrant q0 p0 b0 q0' b0' g ∧ LimsAre vs' tups (d ++ g) ∧
       led = [(here, oH), (wiD, windowObj w k1 k2 k3 k4 k5 size lim' got used u1 u2' u3 u4 owes'), (wi, instObj 135 wiD), (li, listOf (vs ++ vs').toArray e'), (svD, sidsObj w g1 g2 g3 g4 g5 g6 g7 (Str.ofString "server") tr sOwn sPeer sOM sPM sTold sOwes), (sv, instObj 240 svD), (sPeer, two p0 p1 v1 v2 e1), (sTold, two q0' q1 v3' v4 e2'), (sOwes, twoB b0' b1 e3')] ++ tups) := by
  unfold Spec
  k_fill
  intro p loose mean mg mb gd cn cs fa ccd cll outer A₀ base h₀ L m R s Q E B F X N O hro T hcs hret
  (try dsimp only [List.cons_append, List.nil_append] at N)
  (try dsimp only [List.map] at O)
  refine wpAny_call ?_
  k_dflt ktr_enter
  (rename Fr _ _ _ _ => kFF)
  replace kFF : Fr _ _ _ (fun y => List.lookup y [(Str.ofString "here", .ref here)]) := kFF
  k_steps
  all_goals (
    (rename News _ _ _ _ => kN)
    (try simp only [List.push_toArray, List.append_assoc, List.cons_append, List.nil_append] at kN)
    (repeat (with_reducible rename (_ ∧ _) => hcj; obtain ⟨hca, hcb⟩ := hcj))
    first
      | (refine' hret _ _ _ _ ?kF (News.subL kN ?kS) ?kO ⟨_, _, _, _, _, _, _, _, _, _, _, _, _, rfl, ?n1, ?n2, la_dg ?w1 ?w2, rfl⟩; (case n1 => assumption); (case n2 => assumption); (case w1 => assumption); (case w2 => assumption))
      | (refine' hret _ _ _ _ ?kF (News.subL kN ?kS) ?kO ⟨_, _, _, _, _, _, _, _, _, _, _, _, _, rfl, ?n1, ?n2, la_dn ?w1 ?w2, rfl⟩; (case n1 => assumption); (case n2 => assumption); (case w1 => assumption); (case w2 => assumption))
      | (refine' hret _ _ _ _ ?kF (News.subL kN ?kS) ?kO ⟨_, _, _, _, _, _, _, _, _, _, _, _, _, rfl, ?n1, ?n2, la_ng ?w1 ?w2, rfl⟩; (case n1 => assumption); (case n2 => assumption); (case w1 => assumption); (case w2 => assumption))
      | (refine' hret _ _ _ _ ?kF (News.subL kN ?kS) ?kO ⟨_, _, _, _, _, _, [], _, _, _, _, _, _, rfl, ?n1, ?n2, la_nn ?w1 ?w2, rfl⟩; (case n1 => assumption); (case n2 => assumption); (case w1 => assumption); (case w2 => assumption))
    (case kF => assumption)
    (case kS => ((simp only [List.cons_append, List.nil_append, List.append_nil]); k_updF))
    (case kO => k_all))
theorem off19 : True := by
  w_top off
  exact True.intro
theorem heardD_spec (w : World) (here crD crI wi fl li clD cl sv cOwn cPeer cOM cPM cTold cOwes tp : Nat) (oH : Obj) (rest most lt many over : Int) (t1 t2 t3 t4 t5 : Tok) (told : Value) (hH : HereIs w oH (hereKvs crI wi fl li cl sv rest most lt many over t1 t2 t3 t4 t5 told)) (c1 c2 c3 : Tok) (clim cused : Int) (c4 c5 : Tok) (toldAt : Value) (vs : List Value) (e : Nat) (hl : vs.length ≤ 1000) (g1 g2 g3 g4 g5 g6 g7 tr : Tok) (o0 o1 : Int) (v1 v2 : Tok) (e1 : Nat) (at_ : Int) (ta : Tok) (kept : Bool) (k : Int) (tk tl : Tok) (ha : 0 ≤ at_) (hv : vs[at_.toNat]? = some (.ref tp)) (hm1 : most = clim) (hm2 : lt = o0) :
    Spec w 500 500 293 [.ref here, .int at_ ta, .bool kept] [(here, oH), (crD, creditObj w c1 c2 c3 clim cused c4 c5 toldAt), (crI, instObj 86 crD), (li, listOf vs.toArray e), (clD, sidsObj w g1 g2 g3 g4 g5 g6 g7 (Str.ofString "client") tr cOwn cPeer cOM cPM cTold cOwes), (cl, instObj 240 clD), (cOwn, two o0 o1 v1 v2 e1)] [(tp, tupObj (Str.ofString "data") k tk tl)]
     (fun r led => ∃ oH' clim' c4' most' t2' o0' v1' e1' lt' t3' vs' e', r = .bool true ∧ (clim' = if true = true then max clim k else clim) ∧ most' = clim' ∧ (o0' = if true = true then o0 else max o0 k) ∧ lt' = o0' ∧ HereIs w oH' (hereKvs crI wi fl li cl sv rest most' lt' many over t1 t2' t3' t4 t5 told) ∧
       (vs' = if kept = true then vs else vs.take at_.toNat ++ vs.drop (at_.toNat + 1)) ∧
       led = [(here, oH'), (crD, creditObj w c1 c2 c3 clim' cused c4' c5 toldAt), (crI, instObj 86 crD), (li, listOf vs'.toArray e'), (clD, sidsObj w g1 g2 g3 g4 g5 g6 g7 (Str.ofString "client") tr cOwn cPeer cOM cPM cTold cOwes), (cl, instObj 240 clD), (cOwn, two o0' o1 v1' v2 e1')]) := by
  unfold Spec
  k_fill
  intro p loose mean mg mb gd cn cs fa ccd cll outer A₀ base h₀ L m R s Q E B F X N O hro T hcs hret
  (try dsimp only [List.cons_append, List.nil_append] at N)
  (try dsimp only [List.map] at O)
  have hrm := hro _ (List.Mem.head _)
  refine wpAny_call ?_
  k_dflt ktr_enter
  (rename Fr _ _ _ _ => kFF)
  replace kFF : Fr _ _ _ (fun y => List.lookup y [(Str.ofString "is_kept", .bool kept), (Str.ofString "at", .int at_ ta), (Str.ofString "here", .ref here)]) := kFF
  k_steps
  all_goals first
    | (exfalso; (rename ((_ == decide _) = false) => hbb); (by_cases hq : most < k) <;> (first | (simp [hq] at hbb; done) | omega))
    | (refine ret_true (by (try rw [beq_iff_eq]); omega) ?_
       refine' hret _ [_, _, _, _, _, _, _] _ _ (by assumption) (by assumption) (by k_all) ⟨_, _, _, _, _, _, _, _, _, _, _, _, rfl, ?p1, ?p2, ?p3, ?p4, (by assumption), ?p5, rfl⟩
       (case p1 => first | (rw [if_pos rfl]; omega) | (rw [if_neg (by decide)]))
       (case p2 => omega)
       (case p3 => first | (rw [if_pos rfl]) | (rw [if_neg (by decide)]; omega))
       (case p4 => omega)
       (case p5 => first | exact (if_pos (by assumption)).symm | exact (if_neg (by (rename (kept = false) => hkk); rw [hkk]; decide)).symm))
theorem lines12 : True := by
  k_with "call ref" => ((k_here; (with_reducible show wpAny _ _ (call (Value.ref 293) _ _) _ _ _); (with_reducible rename Dis2 _ _ => kO9); k_dflt (refine' Spec.use (heardD_spec _ _ _ _ _ _ _ _ _ _ _ _ _ _ _ _ _ _ _ _ _ _ _ _ _ _ _ _ _ ?yhH _ _ _ _ _ _ _ _ _ _ ?yhl _ _ _ _ _ _ _ _ _ _ _ _ _ _ _ _ _ _ _ ?yha ?yhv ?yhm1 ?yhm2) ?zA ?zf ?zd ?zu ?zB ?zF ?zX ?zN kO9 ?zs ?ze ?zr ?zT ?zk ?_; (case zA => exact rfl); (case zf => exact rfl); (case zd => exact Nat.le_of_ble_eq_true rfl); (case zu => exact Nat.le_of_ble_eq_true rfl); (case zF => k_asm); (case zB => k_asm); (case zX => k_asm); (case zN => k_asm); (case zT => k_asm); (case zk => first | exact rfl | assumption);  (case yhH => first | with_reducible assumption | assumption); (case zs => k_upd); (case ze => exact rfl); (case yhl => first | with_reducible assumption | omega | assumption); (case yha => first | with_reducible assumption | omega | assumption); (case yhv => first | with_reducible assumption | omega | assumption); (case yhm1 => first | with_reducible assumption | omega | assumption); (case yhm2 => first | with_reducible assumption | omega | assumption); (case zr => exact fun _ h => nomatch h)); intro r' led' h' tk' F' N' O' hp'; (try clear kO9); rcases hp' with X; all_goals ( (try dsimp only [List.cons_append, List.nil_append] at N'); (try dsimp only [List.map, List.cons_append, List.nil_append] at O'); (try k_sweep))))
  exact True.intro
theorem off20 : True := by
  w_top off
  exact True.intro
theorem heardS_spec (w : World) (here crD crI wi fl li clD cl sv cOwn cPeer cOM cPM cTold cOwes tp : Nat) (oH : Obj) (rest most lt many over : Int) (t1 t2 t3 t4 t5 : Tok) (told : Value) (hH : HereIs w oH (hereKvs crI wi fl li cl sv rest most lt many over t1 t2 t3 t4 t5 told)) (c1 c2 c3 : Tok) (clim cused : Int) (c4 c5 : Tok) (toldAt : Value) (vs : List Value) (e : Nat) (hl : vs.length ≤ 1000) (g1 g2 g3 g4 g5 g6 g7 tr : Tok) (o0 o1 : Int) (v1 v2 : Tok) (e1 : Nat) (at_ : Int) (ta : Tok) (kept : Bool) (k : Int) (tk tl : Tok) (ha : 0 ≤ at_) (hv : vs[at_.toNat]? = some (.ref tp)) (hm1 : most = clim) (hm2 : lt = o0) :
    Spec w 500 500 293 [.ref here, .int at_ ta, .bool kept] [(here, oH), (crD, creditObj w c1 c2 c3 clim cused c4 c5 toldAt), (crI, instObj 86 crD), (li, listOf vs.toArray e), (clD, sidsObj w g1 g2 g3 g4 g5 g6 g7 (Str.ofString "client") tr cOwn cPeer cOM cPM cTold cOwes), (cl, instObj 240 clD), (cOwn, two o0 o1 v1 v2 e1)] [(tp, tupObj (Str.ofString "streams") k tk tl)]
     (fun r led => ∃ oH' clim' c4' most' t2' o0' v1' e1' lt' t3' vs' e', r = .bool true ∧ (clim' = if false = true then max clim k else clim) ∧ most' = clim' ∧ (o0' = if false = true then o0 else max o0 k) ∧ lt' = o0' ∧ HereIs w oH' (hereKvs crI wi fl li cl sv rest most' lt' many over t1 t2' t3' t4 t5 told) ∧
       (vs' = if kept = true then vs else vs.take at_.toNat ++ vs.drop (at_.toNat + 1)) ∧
       led = [(here, oH'), (crD, creditObj w c1 c2 c3 clim' cused c4' c5 toldAt), (crI, instObj 86 crD), (li, listOf vs'.toArray e'), (clD, sidsObj w g1 g2 g3 g4 g5 g6 g7 (Str.ofString "client") tr cOwn cPeer cOM cPM cTold cOwes), (cl, instObj 240 clD), (cOwn, two o0' o1 v1' v2 e1')]) := by
  unfold Spec
  k_fill
  intro p loose mean mg mb gd cn cs fa ccd cll outer A₀ base h₀ L m R s Q E B F X N O hro T hcs hret
  (try dsimp only [List.cons_append, List.nil_append] at N)
  (try dsimp only [List.map] at O)
  have hrm := hro _ (List.Mem.head _)
  refine wpAny_call ?_
  k_dflt ktr_enter
  (rename Fr _ _ _ _ => kFF)
  replace kFF : Fr _ _ _ (fun y => List.lookup y [(Str.ofString "is_kept", .bool kept), (Str.ofString "at", .int at_ ta), (Str.ofString "here", .ref here)]) := kFF
  k_steps
  all_goals first
    | (exfalso; (rename ((_ == decide _) = false) => hbb); (by_cases hq : most < k) <;> (first | (simp [hq] at hbb; done) | omega))
    | (refine ret_true (by (try rw [beq_iff_eq]); omega) ?_
       refine' hret _ [_, _, _, _, _, _, _] _ _ (by assumption) (by assumption) (by k_all) ⟨_, _, _, _, _, _, _, _, _, _, _, _, rfl, ?p1, ?p2, ?p3, ?p4, (by assumption), ?p5, rfl⟩
       (case p1 => first | (rw [if_pos rfl]; omega) | (rw [if_neg (by decide)]))
       (case p2 => omega)
       (case p3 => first | (rw [if_pos rfl]) | (rw [if_neg (by decide)]; omega))
       (case p4 => omega)
       (case p5 => first | exact (if_pos (by assumption)).symm | exact (if_neg (by (rename (kept = false) => hkk); rw [hkk]; decide)).symm))
theorem lines13 : True := by
  k_with "call ref" => ((k_here; (with_reducible show wpAny _ _ (call (Value.ref 293) _ _) _ _ _); (with_reducible rename Dis2 _ _ => kO9); k_dflt (refine' Spec.use (heardS_spec _ _ _ _ _ _ _ _ _ _ _ _ _ _ _ _ _ _ _ _ _ _ _ _ _ _ _ _ _ ?yhH _ _ _ _ _ _ _ _ _ _ ?yhl _ _ _ _ _ _ _ _ _ _ _ _ _ _ _ _ _ _ _ ?yha ?yhv ?yhm1 ?yhm2) ?zA ?zf ?zd ?zu ?zB ?zF ?zX ?zN kO9 ?zs ?ze ?zr ?zT ?zk ?_; (case zA => exact rfl); (case zf => exact rfl); (case zd => exact Nat.le_of_ble_eq_true rfl); (case zu => exact Nat.le_of_ble_eq_true rfl); (case zF => k_asm); (case zB => k_asm); (case zX => k_asm); (case zN => k_asm); (case zT => k_asm); (case zk => first | exact rfl | assumption);  (case yhH => first | with_reducible assumption | assumption); (case zs => k_upd); (case ze => exact rfl); (case yhl => first | with_reducible assumption | omega | assumption); (case yha => first | with_reducible assumption | omega | assumption); (case yhv => first | with_reducible assumption | omega | assumption); (case yhm1 => first | with_reducible assumption | omega | assumption); (case yhm2 => first | with_reducible assumption | omega | assumption); (case zr => exact fun _ h => nomatch h)); intro r' led' h' tk' F' N' O' hp'; (try clear kO9); rcases hp' with X; all_goals ( (try dsimp only [List.cons_append, List.nil_append] at N'); (try dsimp only [List.map, List.cons_append, List.nil_append] at O'); (try k_sweep))))
  exact True.intro
theorem off21 : True := by
  w_top off
  exact True.intro
theorem heard_spec (w : World) (b : Bool) (here crD crI wi fl li clD cl sv cOwn cPeer cOM cPM cTold cOwes tp : Nat) (oH : Obj) (rest most lt many over : Int) (t1 t2 t3 t4 t5 : Tok) (told : Value) (hH : HereIs w oH (hereKvs crI wi fl li cl sv rest most lt many over t1 t2 t3 t4 t5 told)) (c1 c2 c3 : Tok) (clim cused : Int) (c4 c5 : Tok) (toldAt : Value) (vs : List Value) (e : Nat) (hl : vs.length ≤ 1000) (g1 g2 g3 g4 g5 g6 g7 tr : Tok) (o0 o1 : Int) (v1 v2 : Tok) (e1 : Nat) (at_ : Int) (ta : Tok) (kept : Bool) (k : Int) (tk tl : Tok) (ha : 0 ≤ at_) (hv : vs[at_.toNat]? = some (.ref tp)) (hm1 : most = clim) (hm2 : lt = o0) :
    Spec w 500 500 293 [.ref here, .int at_ ta, .bool kept] [(here, oH), (crD, creditObj w c1 c2 c3 clim cused c4 c5 toldAt), (crI, instObj 86 crD), (li, listOf vs.toArray e), (clD, sidsObj w g1 g2 g3 g4 g5 g6 g7 (Str.ofString "client") tr cOwn cPeer cOM cPM cTold cOwes), (cl, instObj 240 clD), (cOwn, two o0 o1 v1 v2 e1)] [(tp, tupObj (kindStr b) k tk tl)]
     (fun r led => ∃ oH' clim' c4' most' t2' o0' v1' e1' lt' t3' vs' e', r = .bool true ∧ (clim' = if b = true then max clim k else clim) ∧ most' = clim' ∧ (o0' = if b = true then o0 else max o0 k) ∧ lt' = o0' ∧ HereIs w oH' (hereKvs crI wi fl li cl sv rest most' lt' many over t1 t2' t3' t4 t5 told) ∧
       (vs' = if kept = true then vs else vs.take at_.toNat ++ vs.drop (at_.toNat + 1)) ∧
       led = [(here, oH'), (crD, creditObj w c1 c2 c3 clim' cused c4' c5 toldAt), (crI, instObj 86 crD), (li, listOf vs'.toArray e'), (clD, sidsObj w g1 g2 g3 g4 g5 g6 g7 (Str.ofString "client") tr cOwn cPeer cOM cPM cTold cOwes), (cl, instObj 240 clD), (cOwn, two o0' o1 v1' v2 e1')]) := by
  cases b
  · exact heardS_spec w here crD crI wi fl li clD cl sv cOwn cPeer cOM cPM cTold cOwes tp oH rest most lt many over t1 t2 t3 t4 t5 told hH c1 c2 c3 clim cused c4 c5 toldAt vs e hl g1 g2 g3 g4 g5 g6 g7 tr o0 o1 v1 v2 e1 at_ ta kept k tk tl ha hv hm1 hm2
  · exact heardD_spec w here crD crI wi fl li clD cl sv cOwn cPeer cOM cPM cTold cOwes tp oH rest most lt many over t1 t2 t3 t4 t5 told hH c1 c2 c3 clim cused c4 c5 toldAt vs e hl g1 g2 g3 g4 g5 g6 g7 tr o0 o1 v1 v2 e1 at_ ta kept k tk tl ha hv hm1 hm2
theorem off22 : True := by
  w_top off
  exact True.intro
theorem lostD_spec (w : World) (here crI wiD wi fl li cl svD sv sOwn sPeer sOM sPM sTold sOwes tp : Nat) (oH : Obj) (rest most lt many over : Int) (t1 t2 t3 t4 t5 : Tok) (told : Value) (hH : HereIs w oH (hereKvs crI wi fl li cl sv rest most lt many over t1 t2 t3 t4 t5 told)) (k1 k2 k3 k4 k5 : Tok) (size lim got used : Int) (u1 u2 u3 u4 : Tok) (owes : Bool) (vs : List Value) (e : Nat) (hl : vs.length ≤ 1000) (g1 g2 g3 g4 g5 g6 g7 tr : Tok) (q0 q1 : Int) (v3 v4 : Tok) (b0 b1 : Bool) (e2 e3 : Nat) (at_ : Int) (ta : Tok) (k : Int) (tk tl : Tok) (ha : 0 ≤ at_) (hv : vs[at_.toNat]? = some (.ref tp)) :
    Spec w 500 500 300 [.ref here, .int at_ ta] [(here, oH), (wiD, windowObj w k1 k2 k3 k4 k5 size lim got used u1 u2 u3 u4 owes), (wi, instObj 135 wiD), (li, listOf vs.toArray e), (svD, sidsObj w g1 g2 g3 g4 g5 g6 g7 (Str.ofString "server") tr sOwn sPeer sOM sPM sTold sOwes), (sv, instObj 240 svD), (sTold, two q0 q1 v3 v4 e2), (sOwes, twoB b0 b1 e3)] [(tp, tupObj (Str.ofString "data") k tk tl)]
     (fun r led => ∃ owes' b0' e' e3', r = .none ∧ (owes' = if true = true ∧ k = lim then true else owes) ∧ (b0' = if true = false ∧ k = q0 then true else b0) ∧
       led = [(here, oH), (wiD, windowObj w k1 k2 k3 k4 k5 size lim got used u1 u2 u3 u4 owes'), (wi, instObj 135 wiD), (li, listOf (vs.take at_.toNat ++ vs.drop (at_.toNat + 1)).toArray e'), (svD, sidsObj w g1 g2 g3 g4 g5 g6 g7 (Str.ofString "server") tr sOwn sPeer sOM sPM sTold sOwes), (sv, instObj 240 svD), (sTold, two q0 q1 v3 v4 e2), (sOwes, twoB b0' b1 e3')]) := by
  unfold Spec
  k_fill
  intro p loose mean mg mb gd cn cs fa ccd cll outer A₀ base h₀ L m R s Q E B F X N O hro T hcs hret
  (try dsimp only [List.cons_append, List.nil_append] at N)
  (try dsimp only [List.map] at O)
  have hrm := hro _ (List.Mem.head _)
  refine wpAny_call ?_
  k_dflt ktr_enter
  (rename Fr _ _ _ _ => kFF)
  replace kFF : Fr _ _ _ (fun y => List.lookup y [(Str.ofString "at", .int at_ ta), (Str.ofString "here", .ref here)]) := kFF
  k_steps
  all_goals (
    refine' hret _ [_, _, _, _, _, _, _, _] _ _ (by assumption) (by assumption) (by k_all) ⟨_, _, _, _, rfl, ?p1, ?p2, rfl⟩
    (case p1 => first | exact (if_pos ⟨rfl, by omega⟩).symm | exact (if_neg (fun h => absurd h.1 (by decide))).symm | exact (if_neg (fun h => by omega)).symm)
    (case p2 => first | exact (if_pos ⟨rfl, by omega⟩).symm | exact (if_neg (fun h => absurd h.1 (by decide))).symm | exact (if_neg (fun h => by omega)).symm))
theorem lines14 : True := by
  k_with "call ref" => ((k_here; (with_reducible show wpAny _ _ (call (Value.ref 300) _ _) _ _ _); (with_reducible rename Dis2 _ _ => kO9); k_dflt (refine' Spec.use (lostD_spec _ _ _ _ _ _ _ _ _ _ _ _ _ _ _ _ _ _ _ _ _ _ _ _ _ _ _ _ _ ?yhH _ _ _ _ _ _ _ _ _ _ _ _ _ _ _ _ ?yhl _ _ _ _ _ _ _ _ _ _ _ _ _ _ _ _ _ _ _ _ _ ?yha ?yhv) ?zA ?zf ?zd ?zu ?zB ?zF ?zX ?zN kO9 ?zs ?ze ?zr ?zT ?zk ?_; (case zA => exact rfl); (case zf => exact rfl); (case zd => exact Nat.le_of_ble_eq_true rfl); (case zu => exact Nat.le_of_ble_eq_true rfl); (case zF => k_asm); (case zB => k_asm); (case zX => k_asm); (case zN => k_asm); (case zT => k_asm); (case zk => first | exact rfl | assumption);  (case yhH => first | with_reducible assumption | assumption); (case zs => k_upd); (case ze => exact rfl); (case yhl => first | with_reducible assumption | omega | assumption); (case yha => first | with_reducible assumption | omega | assumption); (case yhv => first | with_reducible assumption | omega | assumption); (case zr => ((refine List.forall_mem_singleton.mpr ?_); (repeat (first | with_reducible assumption | exact List.mem_append.mpr (.inl (by with_reducible assumption)) | refine List.mem_cons_of_mem _ ?_))))); intro r' led' h' tk' F' N' O' hp'; (try clear kO9); rcases hp' with ⟨owes', b0', e', e3', hq1', ho', hb', hq2'⟩; all_goals ( (try subst hq1'); (try subst hq2'); (try dsimp only [List.cons_append, List.nil_append] at N'); (try dsimp only [List.map, List.cons_append, List.nil_append] at O'); (try k_sweep))))
  exact True.intro
theorem off23 : True := by
  w_top off
  exact True.intro
theorem lostS_spec (w : World) (here crI wiD wi fl li cl svD sv sOwn sPeer sOM sPM sTold sOwes tp : Nat) (oH : Obj) (rest most lt many over : Int) (t1 t2 t3 t4 t5 : Tok) (told : Value) (hH : HereIs w oH (hereKvs crI wi fl li cl sv rest most lt many over t1 t2 t3 t4 t5 told)) (k1 k2 k3 k4 k5 : Tok) (size lim got used : Int) (u1 u2 u3 u4 : Tok) (owes : Bool) (vs : List Value) (e : Nat) (hl : vs.length ≤ 1000) (g1 g2 g3 g4 g5 g6 g7 tr : Tok) (q0 q1 : Int) (v3 v4 : Tok) (b0 b1 : Bool) (e2 e3 : Nat) (at_ : Int) (ta : Tok) (k : Int) (tk tl : Tok) (ha : 0 ≤ at_) (hv : vs[at_.toNat]? = some (.ref tp)) :
    Spec w 500 500 300 [.ref here, .int at_ ta] [(here, oH), (wiD, windowObj w k1 k2 k3 k4 k5 size lim got used u1 u2 u3 u4 owes), (wi, instObj 135 wiD), (li, listOf vs.toArray e), (svD, sidsObj w g1 g2 g3 g4 g5 g6 g7 (Str.ofString "server") tr sOwn sPeer sOM sPM sTold sOwes), (sv, instObj 240 svD), (sTold, two q0 q1 v3 v4 e2), (sOwes, twoB b0 b1 e3)] [(tp, tupObj (Str.ofString "streams") k tk tl)]
     (fun r led => ∃ owes' b0' e' e3', r = .none ∧ (owes' = if false = true ∧ k = lim then true else owes) ∧ (b0' = if false = false ∧ k = q0 then true else b0) ∧
       led = [(here, oH), (wiD, windowObj w k1 k2 k3 k4 k5 size lim got used u1 u2 u3 u4 owes'), (wi, instObj 135 wiD), (li, listOf (vs.take at_.toNat ++ vs.drop (at_.toNat + 1)).toArray e'), (svD, sidsObj w g1 g2 g3 g4 g5 g6 g7 (Str.ofString "server") tr sOwn sPeer sOM sPM sTold sOwes), (sv, instObj 240 svD), (sTold, two q0 q1 v3 v4 e2), (sOwes, twoB b0' b1 e3')]) := by
  unfold Spec
  k_fill
  intro p loose mean mg mb gd cn cs fa ccd cll outer A₀ base h₀ L m R s Q E B F X N O hro T hcs hret
  (try dsimp only [List.cons_append, List.nil_append] at N)
  (try dsimp only [List.map] at O)
  have hrm := hro _ (List.Mem.head _)
  refine wpAny_call ?_
  k_dflt ktr_enter
  (rename Fr _ _ _ _ => kFF)
  replace kFF : Fr _ _ _ (fun y => List.lookup y [(Str.ofString "at", .int at_ ta), (Str.ofString "here", .ref here)]) := kFF
  k_steps
  all_goals (
    refine' hret _ [_, _, _, _, _, _, _, _] _ _ (by assumption) (by assumption) (by k_all) ⟨_, _, _, _, rfl, ?p1, ?p2, rfl⟩
    (case p1 => first | exact (if_pos ⟨rfl, by omega⟩).symm | exact (if_neg (fun h => absurd h.1 (by decide))).symm | exact (if_neg (fun h => by omega)).symm)
    (case p2 => first | exact (if_pos ⟨rfl, by omega⟩).symm | exact (if_neg (fun h => absurd h.1 (by decide))).symm | exact (if_neg (fun h => by omega)).symm))
theorem lines15 : True := by
  k_with "call ref" => ((k_here; (with_reducible show wpAny _ _ (call (Value.ref 300) _ _) _ _ _); (with_reducible rename Dis2 _ _ => kO9); k_dflt (refine' Spec.use (lostS_spec _ _ _ _ _ _ _ _ _ _ _ _ _ _ _ _ _ _ _ _ _ _ _ _ _ _ _ _ _ ?yhH _ _ _ _ _ _ _ _ _ _ _ _ _ _ _ _ ?yhl _ _ _ _ _ _ _ _ _ _ _ _ _ _ _ _ _ _ _ _ _ ?yha ?yhv) ?zA ?zf ?zd ?zu ?zB ?zF ?zX ?zN kO9 ?zs ?ze ?zr ?zT ?zk ?_; (case zA => exact rfl); (case zf => exact rfl); (case zd => exact Nat.le_of_ble_eq_true rfl); (case zu => exact Nat.le_of_ble_eq_true rfl); (case zF => k_asm); (case zB => k_asm); (case zX => k_asm); (case zN => k_asm); (case zT => k_asm); (case zk => first | exact rfl | assumption);  (case yhH => first | with_reducible assumption | assumption); (case zs => k_upd); (case ze => exact rfl); (case yhl => first | with_reducible assumption | omega | assumption); (case yha => first | with_reducible assumption | omega | assumption); (case yhv => first | with_reducible assumption | omega | assumption); (case zr => ((refine List.forall_mem_singleton.mpr ?_); (repeat (first | with_reducible assumption | exact List.mem_append.mpr (.inl (by with_reducible assumption)) | refine List.mem_cons_of_mem _ ?_))))); intro r' led' h' tk' F' N' O' hp'; (try clear kO9); rcases hp' with ⟨owes', b0', e', e3', hq1', ho', hb', hq2'⟩; all_goals ( (try subst hq1'); (try subst hq2'); (try dsimp only [List.cons_append, List.nil_append] at N'); (try dsimp only [List.map, List.cons_append, List.nil_append] at O'); (try k_sweep))))
  exact True.intro
theorem off24 : True := by
  w_top off
  exact True.intro
theorem lost_spec (w : World) (b : Bool) (here crI wiD wi fl li cl svD sv sOwn sPeer sOM sPM sTold sOwes tp : Nat) (oH : Obj) (rest most lt many over : Int) (t1 t2 t3 t4 t5 : Tok) (told : Value) (hH : HereIs w oH (hereKvs crI wi fl li cl sv rest most lt many over t1 t2 t3 t4 t5 told)) (k1 k2 k3 k4 k5 : Tok) (size lim got used : Int) (u1 u2 u3 u4 : Tok) (owes : Bool) (vs : List Value) (e : Nat) (hl : vs.length ≤ 1000) (g1 g2 g3 g4 g5 g6 g7 tr : Tok) (q0 q1 : Int) (v3 v4 : Tok) (b0 b1 : Bool) (e2 e3 : Nat) (at_ : Int) (ta : Tok) (k : Int) (tk tl : Tok) (ha : 0 ≤ at_) (hv : vs[at_.toNat]? = some (.ref tp)) :
    Spec w 500 500 300 [.ref here, .int at_ ta] [(here, oH), (wiD, windowObj w k1 k2 k3 k4 k5 size lim got used u1 u2 u3 u4 owes), (wi, instObj 135 wiD), (li, listOf vs.toArray e), (svD, sidsObj w g1 g2 g3 g4 g5 g6 g7 (Str.ofString "server") tr sOwn sPeer sOM sPM sTold sOwes), (sv, instObj 240 svD), (sTold, two q0 q1 v3 v4 e2), (sOwes, twoB b0 b1 e3)] [(tp, tupObj (kindStr b) k tk tl)]
     (fun r led => ∃ owes' b0' e' e3', r = .none ∧ (owes' = if b = true ∧ k = lim then true else owes) ∧ (b0' = if b = false ∧ k = q0 then true else b0) ∧
       led = [(here, oH), (wiD, windowObj w k1 k2 k3 k4 k5 size lim got used u1 u2 u3 u4 owes'), (wi, instObj 135 wiD), (li, listOf (vs.take at_.toNat ++ vs.drop (at_.toNat + 1)).toArray e'), (svD, sidsObj w g1 g2 g3 g4 g5 g6 g7 (Str.ofString "server") tr sOwn sPeer sOM sPM sTold sOwes), (sv, instObj 240 svD), (sTold, two q0 q1 v3 v4 e2), (sOwes, twoB b0' b1 e3')]) := by
  cases b
  · exact lostS_spec w here crI wiD wi fl li cl svD sv sOwn sPeer sOM sPM sTold sOwes tp oH rest most lt many over t1 t2 t3 t4 t5 told hH k1 k2 k3 k4 k5 size lim got used u1 u2 u3 u4 owes vs e hl g1 g2 g3 g4 g5 g6 g7 tr q0 q1 v3 v4 b0 b1 e2 e3 at_ ta k tk tl ha hv
  · exact lostD_spec w here crI wiD wi fl li cl svD sv sOwn sPeer sOM sPM sTold sOwes tp oH rest most lt many over t1 t2 t3 t4 t5 told hH k1 k2 k3 k4 k5 size lim got used u1 u2 u3 u4 owes vs e hl g1 g2 g3 g4 g5 g6 g7 tr q0 q1 v3 v4 b0 b1 e2 e3 at_ ta k tk tl ha hv
theorem off25 : True := by
  w_top off
  exact True.intro
theorem blockedN_spec (w : World) (here crD crI wi fl li cl sv : Nat) (oH : Obj) (rest most lt many over : Int) (t1 t2 t3 t4 t5 : Tok) (c1 c2 c3 : Tok) (clim cused : Int) (c4 c5 : Tok) (tt tt2 : Tok) (hH : HereIs w oH (hereKvs crI wi fl li cl sv rest most lt many over t1 t2 t3 t4 t5 (optV (none) tt))) (goes : Bool) (hu : cused ≤ clim) :
    Spec w 500 500 307 [.ref here, .bool goes] [(here, oH), (crD, creditObj w c1 c2 c3 clim cused c4 c5 (optV (none) tt2)), (crI, instObj 86 crD)] []
     (fun r led => ∃ oH' o' tt' tt2', r = .bool true ∧ HereIs w oH' (hereKvs crI wi fl li cl sv rest most lt many over t1 t2 t3 t4 t5 (optV o' tt')) ∧
       led = [(here, oH'), (crD, creditObj w c1 c2 c3 clim cused c4 c5 (optV o' tt2')), (crI, instObj 86 crD)]) := by
  unfold Spec
  k_fill
  intro p loose mean mg mb gd cn cs fa ccd cll outer A₀ base h₀ L m R s Q E B F X N O hro T hcs hret
  (try dsimp only [List.cons_append, List.nil_append] at N)
  (try dsimp only [List.map] at O)
  dsimp only [optV] at hH N
  refine wpAny_call ?_
  k_dflt ktr_enter
  (rename Fr _ _ _ _ => kFF)
  replace kFF : Fr _ _ _ (fun y => List.lookup y [(Str.ofString "goes_lost", .bool goes), (Str.ofString "here", .ref here)]) := kFF
  k_steps
  all_goals first
    | (exfalso; omega)
    | exact hret _ [_, _, _] _ _ (by assumption) (by assumption) (by k_all) ⟨_, none, 0, 0, rfl, by assumption, rfl⟩
    | exact hret _ [_, _, _] _ _ (by assumption) (by assumption) (by k_all) ⟨_, some clim, _, _, rfl, by assumption, rfl⟩
    | exact hret _ [_, _, _] _ _ (by assumption) (by assumption) (by k_all) ⟨_, some clim, _, _, rfl, by assumption, rfl⟩
theorem lines16 : True := by
  k_with "call ref" => ((k_here; (with_reducible show wpAny _ _ (call (Value.ref 307) _ _) _ _ _); (with_reducible rename Dis2 _ _ => kO9); k_dflt (refine' Spec.use (blockedN_spec _ _ _ _ _ _ _ _ _ _ _ _ _ _ _ _ _ _ _ _ _ _ _ _ _ _ _ _ _ ?yhH _ ?yhu) ?zA ?zf ?zd ?zu ?zB ?zF ?zX ?zN kO9 ?zs ?ze ?zr ?zT ?zk ?_; (case zA => exact rfl); (case zf => exact rfl); (case zd => exact Nat.le_of_ble_eq_true rfl); (case zu => exact Nat.le_of_ble_eq_true rfl); (case zF => k_asm); (case zB => k_asm); (case zX => k_asm); (case zN => k_asm); (case zT => k_asm); (case zk => first | exact rfl | assumption);  (case yhH => first | with_reducible assumption | assumption); (case zs => k_upd); (case ze => exact rfl); (case yhu => first | with_reducible assumption | omega | assumption); (case zr => exact fun _ h => nomatch h)); intro r' led' h' tk' F' N' O' hp'; (try clear kO9); rcases hp' with ⟨oH', o', tt', tt2', hq1', hH', hq2'⟩; all_goals ( (try subst hq1'); (try subst hq2'); (try dsimp only [List.cons_append, List.nil_append] at N'); (try dsimp only [List.map, List.cons_append, List.nil_append] at O'); (try k_sweep))))
  exact True.intro
theorem off26 : True := by
  w_top off
  exact True.intro
theorem blockedS_spec (w : World) (here crD crI wi fl li cl sv : Nat) (oH : Obj) (rest most lt many over : Int) (t1 t2 t3 t4 t5 : Tok) (c1 c2 c3 : Tok) (clim cused : Int) (c4 c5 : Tok) (x : Int) (tt tt2 : Tok) (hH : HereIs w oH (hereKvs crI wi fl li cl sv rest most lt many over t1 t2 t3 t4 t5 (optV (some x) tt))) (goes : Bool) (hu : cused ≤ clim) :
    Spec w 500 500 307 [.ref here, .bool goes] [(here, oH), (crD, creditObj w c1 c2 c3 clim cused c4 c5 (optV (some x) tt2)), (crI, instObj 86 crD)] []
     (fun r led => ∃ oH' o' tt' tt2', r = .bool true ∧ HereIs w oH' (hereKvs crI wi fl li cl sv rest most lt many over t1 t2 t3 t4 t5 (optV o' tt')) ∧
       led = [(here, oH'), (crD, creditObj w c1 c2 c3 clim cused c4 c5 (optV o' tt2')), (crI, instObj 86 crD)]) := by
  unfold Spec
  k_fill
  intro p loose mean mg mb gd cn cs fa ccd cll outer A₀ base h₀ L m R s Q E B F X N O hro T hcs hret
  (try dsimp only [List.cons_append, List.nil_append] at N)
  (try dsimp only [List.map] at O)
  dsimp only [optV] at hH N
  refine wpAny_call ?_
  k_dflt ktr_enter
  (rename Fr _ _ _ _ => kFF)
  replace kFF : Fr _ _ _ (fun y => List.lookup y [(Str.ofString "goes_lost", .bool goes), (Str.ofString "here", .ref here)]) := kFF
  k_steps
  all_goals first
    | (exfalso; omega)
    | exact hret _ [_, _, _] _ _ (by assumption) (by assumption) (by k_all) ⟨_, none, 0, 0, rfl, by assumption, rfl⟩
    | exact hret _ [_, _, _] _ _ (by assumption) (by assumption) (by k_all) ⟨_, some clim, _, _, rfl, by assumption, rfl⟩
    | exact hret _ [_, _, _] _ _ (by assumption) (by assumption) (by k_all) ⟨_, some x, _, _, rfl, by assumption, rfl⟩
theorem lines17 : True := by
  k_with "call ref" => ((k_here; (with_reducible show wpAny _ _ (call (Value.ref 307) _ _) _ _ _); (with_reducible rename Dis2 _ _ => kO9); k_dflt (refine' Spec.use (blockedS_spec _ _ _ _ _ _ _ _ _ _ _ _ _ _ _ _ _ _ _ _ _ _ _ _ _ _ _ _ _ _ ?yhH _ ?yhu) ?zA ?zf ?zd ?zu ?zB ?zF ?zX ?zN kO9 ?zs ?ze ?zr ?zT ?zk ?_; (case zA => exact rfl); (case zf => exact rfl); (case zd => exact Nat.le_of_ble_eq_true rfl); (case zu => exact Nat.le_of_ble_eq_true rfl); (case zF => k_asm); (case zB => k_asm); (case zX => k_asm); (case zN => k_asm); (case zT => k_asm); (case zk => first | exact rfl | assumption);  (case yhH => first | with_reducible assumption | assumption); (case zs => k_upd); (case ze => exact rfl); (case yhu => first | with_reducible assumption | omega | assumption); (case zr => exact fun _ h => nomatch h)); intro r' led' h' tk' F' N' O' hp'; (try clear kO9); rcases hp' with ⟨oH', o', tt', tt2', hq1', hH', hq2'⟩; all_goals ( (try subst hq1'); (try subst hq2'); (try dsimp only [List.cons_append, List.nil_append] at N'); (try dsimp only [List.map, List.cons_append, List.nil_append] at O'); (try k_sweep))))
  exact True.intro
theorem off27 : True := by
  w_top off
  exact True.intro
theorem blocked_spec (w : World) (here crD crI wi fl li cl sv : Nat) (oH : Obj) (rest most lt many over : Int) (t1 t2 t3 t4 t5 : Tok) (c1 c2 c3 : Tok) (clim cused : Int) (c4 c5 : Tok) (o : Option Int) (tt tt2 : Tok) (hH : HereIs w oH (hereKvs crI wi fl li cl sv rest most lt many over t1 t2 t3 t4 t5 (optV (o) tt))) (goes : Bool) (hu : cused ≤ clim) :
    Spec w 500 500 307 [.ref here, .bool goes] [(here, oH), (crD, creditObj w c1 c2 c3 clim cused c4 c5 (optV (o) tt2)), (crI, instObj 86 crD)] []
     (fun r led => ∃ oH' o' tt' tt2', r = .bool true ∧ HereIs w oH' (hereKvs crI wi fl li cl sv rest most lt many over t1 t2 t3 t4 t5 (optV o' tt')) ∧
       led = [(here, oH'), (crD, creditObj w c1 c2 c3 clim cused c4 c5 (optV o' tt2')), (crI, instObj 86 crD)]) := by
  cases o
  · exact blockedN_spec w here crD crI wi fl li cl sv oH rest most lt many over t1 t2 t3 t4 t5 c1 c2 c3 clim cused c4 c5 tt tt2 hH goes hu
  · exact blockedS_spec w here crD crI wi fl li cl sv oH rest most lt many over t1 t2 t3 t4 t5 c1 c2 c3 clim cused c4 c5 _ tt tt2 hH goes hu
theorem off28 : True := by
  w_top off
  exact True.intro
theorem opened_spec (w : World) (here crI wi fl li clD cl sv cOwn cPeer cOM cPM cTold cOwes svD sOwn sPeer sOM sPM sTold sOwes : Nat) (oH : Obj) (rest most lt many over : Int) (t1 t2 t3 t4 t5 : Tok) (told : Value) (hH : HereIs w oH (hereKvs crI wi fl li cl sv rest most lt many over t1 t2 t3 t4 t5 told)) (y1 y2 y3 y4 y5 y6 y7 yr : Tok) (g1 g2 g3 g4 g5 g6 g7 tr : Tok) (o0 o1 m0 m1 n0 n1 q0 q1 : Int) (v1 v2 v3 v4 v5 v6 v7 v8 : Tok) (e1 e2 e3 e4 : Nat) (ha : lt = o0) (hb : many = m0) (hc : n0 = m0) (hd : o0 ≤ q0) (he : 0 ≤ m0) (hf : m0 < 1000) :
    Spec w 500 500 314 [.ref here] [(here, oH), (clD, sidsObj w y1 y2 y3 y4 y5 y6 y7 (Str.ofString "client") yr cOwn cPeer cOM cPM cTold cOwes), (cl, instObj 240 clD), (cOwn, two o0 o1 v1 v2 e1), (cOM, two m0 m1 v3 v4 e2), (svD, sidsObj w g1 g2 g3 g4 g5 g6 g7 (Str.ofString "server") tr sOwn sPeer sOM sPM sTold sOwes), (sv, instObj 240 svD), (sPM, two n0 n1 v5 v6 e3), (sTold, two q0 q1 v7 v8 e4)] []
     (fun r led => ∃ oH' t4' m0' n0' v3' v5' e2' e3', r = .bool true ∧ (m0' = if m0 < o0 then m0 + 1 else m0) ∧ n0' = m0' ∧ HereIs w oH' (hereKvs crI wi fl li cl sv rest most lt m0' over t1 t2 t3 t4' t5 told) ∧
       led = [(here, oH'), (clD, sidsObj w y1 y2 y3 y4 y5 y6 y7 (Str.ofString "client") yr cOwn cPeer cOM cPM cTold cOwes), (cl, instObj 240 clD), (cOwn, two o0 o1 v1 v2 e1), (cOM, two m0' m1 v3' v4 e2'), (svD, sidsObj w g1 g2 g3 g4 g5 g6 g7 (Str.ofString "server") tr sOwn sPeer sOM sPM sTold sOwes), (sv, instObj 240 svD), (sPM, two n0' n1 v5' v6 e3'), (sTold, two q0 q1 v7 v8 e4)]) := by
  unfold Spec
  k_fill
  intro p loose mean mg mb gd cn cs fa ccd cll outer A₀ base h₀ L m R s Q E B F X N O hro T hcs hret
  (try dsimp only [List.cons_append, List.nil_append] at N)
  (try dsimp only [List.map] at O)
  refine wpAny_call ?_
  k_dflt ktr_enter
  (rename Fr _ _ _ _ => kFF)
  replace kFF : Fr _ _ _ (fun y => List.lookup y [(Str.ofString "here", .ref here)]) := kFF
  k_steps
  all_goals (repeat (with_reducible rename (_ ∧ _) => hcj; obtain ⟨hca, hcb⟩ := hcj))
  all_goals (
    (rename News _ _ _ _ => kN)
    (rename Fr _ _ _ _ => kFr)
    first
    | (exfalso; first | omega | ((rename ((_ != decide _) = _) => hbb); (by_cases hq : lt ≤ many) <;> (first | (simp [hq] at hbb; done) | omega)))
    | (refine' hret _ [_, _, _, _, _, _, _, _, _] _ _ kFr (News.subL kN ?kS) (by k_all) ⟨_, _, _, _, _, _, _, _, rfl, ?p1, ?p2, ?p3, rfl⟩
       (case kS => ((simp only [List.cons_append, List.nil_append]); k_updF))
       (case p1 => (rw [if_neg (by assumption)]; assumption))
       (case p2 => omega)
       (case p3 => ((refine' ohere ?pe ?ph); (case ph => assumption); (case pe => omega))))
    | (refine ret_true (by rw [decide_eq_true_eq, List.cons.injEq]; exact ⟨by omega, rfl⟩) ?_
       refine' hret _ [_, _, _, _, _, _, _, _, _] _ _ kFr (News.subL kN ?kS) (by k_all) ⟨_, _, _, _, _, _, _, _, rfl, ?p1, ?p2, ?p3, rfl⟩
       (case kS => ((simp only [List.cons_append, List.nil_append]); k_updF))
       (case p1 => (rw [if_pos (by assumption)]; assumption))
       (case p2 => omega)
       (case p3 => ((refine' ohere ?pe ?ph); (case ph => assumption); (case pe => omega)))))
/-- what holds between the law's turns: i bounds the turns so far -/
structure Good (i size rest clim cused wlim got wused : Int) (owes : Bool) (ns : List Int) (ls : List (Bool × Int)) (o0 m0 q0 p0 : Int) : Prop where
  rest0 : 0 ≤ rest
  total : rest + cused ≤ 25
  room : cused ≤ clim
  told : clim ≤ wlim
  flew : got + ns.sum = cused
  pos : ∀ v ∈ ns, 0 ≤ v
  wu0 : 0 ≤ wused
  wug : wused ≤ got
  size1 : 1 ≤ size
  known : wlim = clim ∨ owes = true ∨ (true, wlim) ∈ ls
  data : ∀ k, (true, k) ∈ ls → k ≤ wlim
  strm : ∀ k, (false, k) ∈ ls → k ≤ q0
  oq : o0 ≤ q0
  qp : q0 ≤ p0
  m00 : 0 ≤ m0
  mi : m0 ≤ i
  nsl : (ns.length : Int) ≤ i
  lsl : (ls.length : Int) ≤ 2 * i
theorem sum_cut : ∀ (ns : List Int) (k : Nat) (v : Int), ns[k]? = some v → (ns.take k ++ ns.drop (k + 1)).sum + v = ns.sum
  | [], _, _, h => nomatch h
  | a :: r, 0, v, h => by
    have : a = v := by simpa using h
    subst this
    simp only [List.take_zero, List.nil_append, List.drop_succ_cons, List.drop_zero, List.sum_cons]
    omega
  | a :: r, k + 1, v, h => by
    have := sum_cut r k v (by simpa using h)
    simp only [List.take_succ_cons, List.cons_append, List.drop_succ_cons, List.sum_cons]
    omega
theorem mem_cut {α : Type} {ns : List α} {k : Nat} {v : α} (h : v ∈ ns.take k ++ ns.drop (k + 1)) : v ∈ ns :=
  (List.mem_append.mp h).elim List.mem_of_mem_take List.mem_of_mem_drop
theorem mem_cut_or {α : Type} : ∀ {ns : List α} {k : Nat} {v w : α}, ns[k]? = some w → v ∈ ns → v = w ∨ v ∈ ns.take k ++ ns.drop (k + 1)
  | [], _, _, _, h, _ => nomatch h
  | a :: r, 0, v, w, h, hm => by
    have e : a = w := by simpa using h
    rcases List.mem_cons.mp hm with hm | hm
    · exact .inl (hm.trans e)
    · exact .inr (by simpa using hm)
  | a :: r, k + 1, v, w, h, hm => by
    rcases List.mem_cons.mp hm with hm | hm
    · exact .inr (by simp [hm])
    · rcases mem_cut_or (k := k) (by simpa using h) hm with e | e
      · exact .inl e
      · exact .inr (by simpa using Or.inr e)
theorem len_cut {α : Type} (ns : List α) (k : Nat) : (ns.take k ++ ns.drop (k + 1)).length ≤ ns.length := by
  rw [List.length_append, List.length_take, List.length_drop]; omega
theorem len_cut_lt {α : Type} (ns : List α) (k : Nat) (h : k < ns.length) : (ns.take k ++ ns.drop (k + 1)).length + 1 = ns.length := by
  rw [List.length_append, List.length_take, List.length_drop]; omega
theorem sum_nonneg' : ∀ {ns : List Int}, (∀ v ∈ ns, 0 ≤ v) → 0 ≤ ns.sum
  | [], _ => by simp
  | a :: r, h => by
    have h1 := h a (.head _)
    have h2 := sum_nonneg' (ns := r) fun v hv => h v (.tail _ hv)
    rw [List.sum_cons]; omega
section
variable {i size rest clim cused wlim got wused : Int} {owes : Bool} {ns : List Int} {ls : List (Bool × Int)} {o0 m0 q0 p0 : Int}
theorem Good.mono {i' : Int} (G : Good i size rest clim cused wlim got wused owes ns ls o0 m0 q0 p0) (h : i ≤ i') : Good i' size rest clim cused wlim got wused owes ns ls o0 m0 q0 p0 :=
  { G with mi := Int.le_trans G.mi h, nsl := Int.le_trans G.nsl h, lsl := by have := G.lsl; omega }
theorem Good.sent {j k : Int} {ns' : List Int} (G : Good i size rest clim cused wlim got wused owes ns ls o0 m0 q0 p0) (hk : 0 ≤ k) (hj : j = min k (min (clim - cused) rest)) (hns : ns' = if 0 < j then ns ++ [j] else ns) :
    Good (i + 1) size (rest - j) clim (cused + j) wlim got wused owes ns' ls o0 m0 q0 p0 := by
  obtain ⟨a1, a2, a3, a4, a5, a6, a7, a8, a9, a10, a11, a12, a13, a14, a15, a16, a17, a18⟩ := G
  by_cases h : 0 < j
  · rw [if_pos h] at hns
    subst hns
    exact ⟨by omega, by omega, by omega, a4, by simp; omega, fun v hv => (List.mem_append.mp hv).elim (a6 v) (fun hv => by rw [List.mem_singleton.mp hv]; omega), a7, a8, a9, a10, a11, a12, a13, a14, a15, by omega, by simp; omega, by omega⟩
  · rw [if_neg h] at hns
    subst hns
    exact ⟨by omega, by omega, by omega, a4, by omega, a6, a7, a8, a9, a10, a11, a12, a13, a14, a15, by omega, by omega, by omega⟩
theorem Good.came_ok {at_ v : Int} (G : Good i size rest clim cused wlim got wused owes ns ls o0 m0 q0 p0) (hv : ns[at_.toNat]? = some v) : got + v ≤ wlim := by
  have h1 := sum_cut ns _ v hv
  have h2 := sum_nonneg' (ns := ns.take at_.toNat ++ ns.drop (at_.toNat + 1)) fun v hv => G.pos v (mem_cut hv)
  have := G.flew
  have := G.room
  have := G.told
  omega
theorem Good.came {at_ v : Int} (G : Good i size rest clim cused wlim got wused owes ns ls o0 m0 q0 p0) (hv : ns[at_.toNat]? = some v) :
    Good i size rest clim cused wlim (got + v) wused owes (ns.take at_.toNat ++ ns.drop (at_.toNat + 1)) ls o0 m0 q0 p0 := by
  have h1 := sum_cut ns _ v hv
  have h3 := G.pos v (List.mem_of_getElem? hv)
  have h4 := len_cut ns at_.toNat
  obtain ⟨a1, a2, a3, a4, a5, a6, a7, a8, a9, a10, a11, a12, a13, a14, a15, a16, a17, a18⟩ := G
  exact ⟨a1, a2, a3, a4, by omega, fun v hv => a6 v (mem_cut hv), a7, by omega, a9, a10, a11, a12, a13, a14, a15, by omega, by omega, by omega⟩
theorem Good.read {j k : Int} (G : Good i size rest clim cused wlim got wused owes ns ls o0 m0 q0 p0) (hk : 0 ≤ k) (hj : j = min k (got - wused)) :
    Good i size rest clim cused wlim got (wused + j) owes ns ls o0 m0 q0 p0 := by
  obtain ⟨a1, a2, a3, a4, a5, a6, a7, a8, a9, a10, a11, a12, a13, a14, a15, a16, a17, a18⟩ := G
  exact ⟨a1, a2, a3, a4, a5, a6, by omega, by omega, a9, a10, a11, a12, a13, a14, a15, by omega, by omega, by omega⟩
theorem Good.closed {p0' : Int} (G : Good i size rest clim cused wlim got wused owes ns ls o0 m0 q0 p0) (hp : p0' = p0 + 1) :
    Good i size rest clim cused wlim got wused owes ns ls o0 m0 q0 p0' :=
  { G with qp := by have := G.qp; omega }
theorem Good.told' {wlim' q0' : Int} {owes' b0 b0' : Bool} {d g : List (Bool × Int)} (G : Good i size rest clim cused wlim got wused owes ns ls o0 m0 q0 p0)
    (hn : NextLimit size wlim wused owes wlim' owes' d) (hg : NextGrant q0 p0 b0 q0' b0' g) :
    Good (i + 1) size rest clim cused wlim' got wused owes' ns (ls ++ (d ++ g)) o0 m0 q0' p0 := by
  obtain ⟨a1, a2, a3, a4, a5, a6, a7, a8, a9, a10, a11, a12, a13, a14, a15, a16, a17, a18⟩ := G
  have hq : q0 ≤ q0' ∧ q0' ≤ p0 ∧ (∀ k, (true, k) ∉ g) ∧ (∀ k, (false, k) ∈ g → k ≤ q0') ∧ g.length ≤ 1 := by
    rcases hg with ⟨_, _, e, _, rfl⟩ | ⟨_, e, _, rfl⟩
    · exact ⟨by omega, by omega, (fun k h => nomatch h), (fun k h => nomatch h), by simp⟩
    · refine ⟨by omega, by omega, fun k h => ?_, fun k h => ?_, by simp⟩
      · simp at h
      · simp at h; omega
  have hw : wlim ≤ wlim' ∧ (wlim' = clim ∨ owes' = true ∨ (true, wlim') ∈ ls ++ (d ++ g)) ∧ (∀ k, (false, k) ∉ d) ∧ (∀ k, (true, k) ∈ d → k ≤ wlim') ∧ d.length ≤ 1 := by
    rcases hn with ⟨h1, h2, e, h3, rfl⟩ | ⟨_, e, h3, rfl⟩
    · refine ⟨by omega, ?_, (fun k h => nomatch h), (fun k h => nomatch h), by simp⟩
      rcases a10 with h | h | h
      · exact .inl (by omega)
      · rw [h] at h1; cases h1
      · exact .inr (.inr (by rw [e]; exact List.mem_append.mpr (.inl h)))
    · refine ⟨?_, .inr (.inr (by simp)), fun k h => ?_, fun k h => ?_, by simp⟩
      · split at h3 <;> omega
      · simp at h
      · simp at h; omega
  obtain ⟨q1, q2, q3, q4, q5⟩ := hq
  obtain ⟨w1, w2, w3, w4, w5⟩ := hw
  refine ⟨a1, a2, a3, by omega, a5, a6, a7, a8, a9, w2, fun k h => ?_, fun k h => ?_, by omega, by omega, a15, by omega, by omega, ?_⟩
  · rcases List.mem_append.mp h with h | h
    · have := a11 k h; omega
    · rcases List.mem_append.mp h with h | h
      · exact w4 k h
      · exact absurd h (q3 k)
  · rcases List.mem_append.mp h with h | h
    · have := a12 k h; omega
    · rcases List.mem_append.mp h with h | h
      · exact absurd h (w3 k)
      · exact q4 k h
  · rw [List.length_append, List.length_append]; omega
theorem Good.heard {at_ k clim' o0' : Int} {b kept : Bool} {ls' : List (Bool × Int)} (G : Good i size rest clim cused wlim got wused owes ns ls o0 m0 q0 p0) (hv : ls[at_.toNat]? = some (b, k))
    (hc : clim' = if b = true then max clim k else clim) (ho : o0' = if b = true then o0 else max o0 k) (hl : ls' = if kept = true then ls else ls.take at_.toNat ++ ls.drop (at_.toNat + 1)) :
    Good i size rest clim' cused wlim got wused owes ns ls' o0' m0 q0 p0 := by
  obtain ⟨a1, a2, a3, a4, a5, a6, a7, a8, a9, a10, a11, a12, a13, a14, a15, a16, a17, a18⟩ := G
  have hm := List.mem_of_getElem? hv
  have hsub : ∀ x, x ∈ ls' → x ∈ ls := fun x h => by
    cases kept with
    | true => rw [hl, if_pos rfl] at h; exact h
    | false => rw [hl, if_neg (by decide)] at h; exact mem_cut h
  have hlen : ls'.length ≤ ls.length := by
    cases kept with
    | true => rw [hl, if_pos rfl]; exact Nat.le_refl _
    | false => rw [hl, if_neg (by decide)]; exact len_cut _ _
  have hor : ∀ x, x ∈ ls → x = (b, k) ∨ x ∈ ls' := fun x h => by
    cases kept with
    | true => rw [hl, if_pos rfl]; exact .inr h
    | false => rw [hl, if_neg (by decide)]; exact mem_cut_or hv h
  have hcc : clim ≤ clim' ∧ clim' ≤ wlim ∧ (b = true → k ≤ clim') := by
    cases b with
    | true => have := a11 k hm; rw [if_pos rfl] at hc; exact ⟨by omega, by omega, fun _ => by omega⟩
    | false => rw [if_neg (by decide)] at hc; exact ⟨by omega, by omega, fun h => nomatch h⟩
  have hoo : o0' ≤ q0 := by
    cases b with
    | true => rw [if_pos rfl] at ho; omega
    | false => have := a12 k hm; rw [if_neg (by decide)] at ho; omega
  obtain ⟨c1, c2, c3⟩ := hcc
  refine ⟨a1, a2, by omega, c2, a5, a6, a7, a8, a9, ?_, fun k h => a11 k (hsub _ h), fun k h => a12 k (hsub _ h), hoo, a14, a15, by omega, by omega, by omega⟩
  rcases a10 with h | h | h
  · exact .inl (by omega)
  · exact .inr (.inl h)
  · rcases hor _ h with e | e
    · injection e with e1 e2
      have := c3 e1.symm
      exact .inl (by omega)
    · exact .inr (.inr e)
theorem Good.lost {at_ k : Int} {b owes' : Bool} (G : Good i size rest clim cused wlim got wused owes ns ls o0 m0 q0 p0) (hv : ls[at_.toNat]? = some (b, k)) (ho : owes' = if b = true ∧ k = wlim then true else owes) :
    Good i size rest clim cused wlim got wused owes' ns (ls.take at_.toNat ++ ls.drop (at_.toNat + 1)) o0 m0 q0 p0 := by
  have hlen := len_cut ls at_.toNat
  obtain ⟨a1, a2, a3, a4, a5, a6, a7, a8, a9, a10, a11, a12, a13, a14, a15, a16, a17, a18⟩ := G
  refine ⟨a1, a2, a3, a4, a5, a6, a7, a8, a9, ?_, fun k h => a11 k (mem_cut h), fun k h => a12 k (mem_cut h), a13, a14, a15, by omega, by omega, by omega⟩
  by_cases hc : b = true ∧ k = wlim
  · rw [if_pos hc] at ho; exact .inr (.inl ho)
  · rw [if_neg hc] at ho
    rcases a10 with h | h | h
    · exact .inl h
    · exact .inr (.inl (ho.trans h))
    · rcases mem_cut_or hv h with e | e
      · injection e with e1 e2
        exact absurd ⟨e1.symm, e2.symm⟩ hc
      · exact .inr (.inr e)
theorem Good.opened {m0' : Int} (G : Good i size rest clim cused wlim got wused owes ns ls o0 m0 q0 p0) (hm : m0' = if m0 < o0 then m0 + 1 else m0) :
    Good (i + 1) size rest clim cused wlim got wused owes ns ls o0 m0' q0 p0 := by
  have h : m0 ≤ m0' ∧ m0' ≤ m0 + 1 := by split at hm <;> omega
  obtain ⟨a1, a2, a3, a4, a5, a6, a7, a8, a9, a10, a11, a12, a13, a14, a15, a16, a17, a18⟩ := G
  exact ⟨a1, a2, a3, a4, a5, a6, a7, a8, a9, a10, a11, a12, a13, a14, by omega, by omega, by omega, by omega⟩
end
theorem LimsAre.len {vs : List Value} {T : Led} {ls : List (Bool × Int)} (h : LimsAre vs T ls) : vs.length = ls.length := by
  induction h with
  | nil => rfl
  | cons _ _ _ _ _ _ ih => simp [ih]
theorem LimsAre.app {vs vs' : List Value} {T T' : Led} {ls ls' : List (Bool × Int)} (h : LimsAre vs T ls) (h' : LimsAre vs' T' ls') : LimsAre (vs ++ vs') (T ++ T') (ls ++ ls') := by
  induction h with
  | nil => exact h'
  | cons a b k tk tl _ ih => exact .cons a b k tk tl ih
theorem LimsAre.at {vs : List Value} {T : Led} {ls : List (Bool × Int)} (h : LimsAre vs T ls) : ∀ (k : Nat), k < vs.length →
    ∃ a b x tk tl T', vs[k]? = some (.ref a) ∧ ls[k]? = some (b, x) ∧ (a, tupObj (kindStr b) x tk tl) ∈ T ∧ SubL T' T ∧ LimsAre (vs.take k ++ vs.drop (k + 1)) T' (ls.take k ++ ls.drop (k + 1)) := by
  induction h with
  | nil => intro k h; exact absurd h (Nat.not_lt_zero _)
  | @cons vs T ls a b x tk tl r ih =>
    intro k h
    cases k with
    | zero => exact ⟨a, b, x, tk, tl, T, rfl, rfl, .head _, SubL.skip SubL.refl, by simpa using r⟩
    | succ k =>
      obtain ⟨a', b', x', tk', tl', T', h1, h2, h3, h4, h5⟩ := ih k (by simpa using h)
      exact ⟨a', b', x', tk', tl', (a, tupObj (kindStr b) x tk tl) :: T', by simpa using h1, by simpa using h2, .tail _ h3, SubL.cons (.head _) (SubL.skip h4), by simpa using LimsAre.cons a b x tk tl h5⟩
def limD (p : Bool × Int) : PyData := .tuple [.str (kindStr p.1), .int p.2]
theorem LimsAre.reads {h : Heap} {vs : List Value} {T : Led} {ls : List (Bool × Int)} (hL : LimsAre vs T ls) (hT : ∀ q ∈ T, h.get? q.1 = some q.2) : ReadsAll h vs (ls.map limD) [] := by
  induction hL with
  | nil => exact .nil
  | cons a b k tk tl _ ih =>
    exact ReadsAll.cons (reads_tuple_at (hT _ (.head _)) rfl rfl (ReadsAll.cons (Reads.str _ _) (ReadsAll.cons (Reads.int _ _) .nil))) (ih fun q hq => hT q (.tail _ hq))
theorem lim_lay : ∀ ls : List (Bool × Int), PyData.canLayAll0 (ls.map limD) = true
  | [] => rfl
  | ⟨b, k⟩ :: r => by
    have h : PyData.canLay0 (limD (b, k)) = true := by
      have e : ∀ x : Str, PyData.canLay0 (limD (b, k)) = PyData.strOk (kindStr b) := fun _ => by simp [limD, PyData.canLay0, PyData.canLayAll0]
      rw [e (kindStr b)]
      cases b <;> decide +kernel
    rw [List.map_cons, PyData.canLayAll0, h, lim_lay r]
    rfl
theorem lim_depth : ∀ ls : List (Bool × Int), PyData.depthAll (ls.map limD) ≤ 1
  | [] => by simp [PyData.depthAll]
  | ⟨b, k⟩ :: r => by
    have := lim_depth r
    have h : PyData.depth (limD (b, k)) = 1 := by simp [limD, PyData.depth, PyData.depthAll]
    rw [List.map_cons, PyData.depthAll, h]
    omega
theorem lim_shaped (ls : List (Bool × Int)) : SeqAt.shaped (.list (ls.map limD)) = true := by
  have := lim_depth ls
  rw [SeqAt.shaped, PyData.canLay0, lim_lay, PyData.depth]
  simp only [Bool.true_and, decide_eq_true_eq]
  omega
theorem lim_eqv (ls : List (Bool × Int)) : PyData.eqv (.list (ls.map limD)) (.list []) = decide (ls = []) := by
  cases ls with
  | nil => rfl
  | cons a r => simp [PyData.eqv, PyData.eqvAll]
theorem ne_lims {prog : Program} {w : World} {A : Around} {E : Value → Shared → Prop} {s : Shared} {h₀ : Heap} {L li l2 : Addr} {news T : Led} {vs : List Value} {ls : List (Bool × Int)} {e n : Nat} {Q : Value → Shared → Prop}
    (N : News h₀ L s.heap news) (hm : (li, listOf vs.toArray e) ∈ news) (hL : LimsAre vs T ls) (hT : SubL T news) (h2 : (l2, listOf #[] n) ∈ news) (hu : A.units + 64 < cLine)
    (h : Q (.bool (!decide (ls = []))) s) : wpAny (model prog w) A (compareOp .NotEq (.ref li) (.ref l2)) Q E s := by
  refine ne_dataH (reads_list_at (N _ hm).1 rfl rfl (hL.reads fun q hq => (N _ (hT q hq)).1)) (reads_list_at (N _ h2).1 rfl rfl ReadsAll.nil) (lim_shaped _) rfl hu ?_
  rw [lim_eqv]
  exact h
section
variable {prog : Program} {w : World} {A : Around} {E : Value → Shared → Prop} {s : Shared} {h₀ : Heap} {L li l2 : Addr} {news T : Led} {vs : List Value} {ns : List Int} {ls : List (Bool × Int)} {e n : Nat} {Q : Value → Shared → Prop}
theorem ne_ints_len (N : News h₀ L s.heap news) (hm : (li, listOf vs.toArray e) ∈ news) (hi : IntsAre vs ns) (h2 : (l2, listOf #[] n) ∈ news) (hu : A.units + 64 < cLine)
    (h : Q (.bool (decide (0 < (vs.length : Int)))) s) : wpAny (model prog w) A (compareOp .NotEq (.ref li) (.ref l2)) Q E s := by
  refine ke_ne_ints (isL_n N hm) (isL_n (vs := []) N h2) hi .nil hu ?_
  have e : (!decide (ns = [])) = decide (0 < (vs.length : Int)) := by
    rw [hi.length]
    cases ns with
    | nil => rfl
    | cons a r =>
      rw [decide_eq_false (fun h => nomatch h), decide_eq_true (by simp only [List.length_cons]; omega)]
      rfl
  rw [e]
  exact h
theorem ne_lims_len (N : News h₀ L s.heap news) (hm : (li, listOf vs.toArray e) ∈ news) (hL : LimsAre vs T ls) (hT : SubL T news) (h2 : (l2, listOf #[] n) ∈ news) (hu : A.units + 64 < cLine)
    (h : Q (.bool (decide (0 < (vs.length : Int)))) s) : wpAny (model prog w) A (compareOp .NotEq (.ref li) (.ref l2)) Q E s := by
  refine ne_lims N hm hL hT h2 hu ?_
  have e : (!decide (ls = [])) = decide (0 < (vs.length : Int)) := by
    rw [hL.len]
    cases ls with
    | nil => rfl
    | cons a r =>
      rw [decide_eq_false (fun h => nomatch h), decide_eq_true (by simp only [List.length_cons]; omega)]
      rfl
  rw [e]
  exact h
theorem mod_n {a b : Int} {t u : Tok} (hb : 0 < b) (h : ∀ j tj tk, 0 ≤ j → j < b → Q (.int j tj) { s with toks := tk }) : wpAny (model prog w) A (binaryOp .Mod (.int a t) (.int b u)) Q E s :=
  mod_int' (by omega) (h _ _ _ (fmod_lo _ hb) (fmod_hi _ hb))
theorem with_lim {R : Led} {f x : Value} {at_ : Int} {ta : Tok} {rs : List Value} (hL : LimsAre vs T ls) (hT : ∀ q ∈ T, q ∈ R) (h0 : 0 ≤ at_) (h1 : at_ < (vs.length : Int))
    (h : ∀ a b k tk tl T', vs[at_.toNat]? = some (.ref a) → ls[at_.toNat]? = some (b, k) → (a, tupObj (kindStr b) k tk tl) ∈ R → SubL T' T → LimsAre (vs.take at_.toNat ++ vs.drop (at_.toNat + 1)) T' (ls.take at_.toNat ++ ls.drop (at_.toNat + 1)) →
      wpAny (model prog w) A (call f (x :: .int at_ ta :: rs)) Q E s) : wpAny (model prog w) A (call f (x :: .int at_ ta :: rs)) Q E s := by
  obtain ⟨a, b, k, tk, tl, T', a1, a2, a3, a4, a5⟩ := hL.at at_.toNat (by omega)
  exact h a b k tk tl T' a1 a2 (hT _ a3) a4 a5
end
theorem at_i {vs : List Value} {ns : List Int} {at_ : Int} (hi : IntsAre vs ns) (h0 : 0 ≤ at_) (h1 : at_ < (vs.length : Int)) : ns[at_.toNat]? = some (ns.getD at_.toNat 0) := by
  have := hi.length
  have h : at_.toNat < ns.length := by omega
  rw [List.getElem?_eq_getElem h, List.getD_eq_getElem?_getD, List.getElem?_eq_getElem h]
  rfl
theorem Good.reset {i size rest clim cused wlim got wused : Int} {owes : Bool} {o0 m0 q0 p0 : Int} {i' : Int} (G : Good i size rest clim cused wlim got wused owes [] [] o0 m0 q0 p0) (h : m0 ≤ i') (h0 : 0 ≤ i') :
    Good i' size rest clim cused wlim got wused owes [] [] o0 m0 q0 p0 :=
  { G with mi := h, nsl := h0, lsl := by simp only [List.length_nil]; omega }
/-- an entry is taken out of the ledger -/
inductive RemL (p : Addr × Obj) : Led → Led → Prop
  | head {r} : RemL p (p :: r) r
  | tail {q r r'} : RemL p r r' → RemL p (q :: r) (q :: r')
  | app {t r r'} : RemL p r r' → RemL p (t ++ r) (t ++ r')
theorem RemL.perm {p : Addr × Obj} {l l' : Led} (h : RemL p l l') : l.Perm (p :: l') := by
  induction h with
  | head => exact .refl _
  | tail _ ih => exact (ih.cons _).trans (.swap _ _ _)
  | app _ ih => exact (ih.append_left _).trans List.perm_middle
inductive SplitL : Led → Led → Led → Prop
  | nil {l} : SplitL [] l l
  | cons {p pre l l₁ R} : RemL p l l₁ → SplitL pre l₁ R → SplitL (p :: pre) l R
theorem SplitL.perm {pre l R : Led} (h : SplitL pre l R) : l.Perm (pre ++ R) := by
  induction h with
  | nil => exact .refl _
  | cons r _ ih => exact r.perm.trans (ih.cons _)
theorem SplitL.mem {pre l R : Led} (h : SplitL pre l R) : ∀ q ∈ R, q ∈ l := fun _ hq => h.perm.mem_iff.mpr (List.mem_append.mpr (.inr hq))
/-- what a call does to a part of a ledger it does to the ledger -/
theorem Spec.part {w : World} {dp un : Nat} {f : Addr} {args : List Value} {pre ro G nx : Led} {post post' : Value → Led → Prop} (S : Spec w dp un f args pre ro post)
    (hs : SplitL pre nx G) (hro : ∀ q ∈ ro, q ∈ G) (hpost : ∀ r led, post r led → ∃ led', post' r led' ∧ (led ++ G).Perm led') : Spec w dp un f args nx [] post' := by
  intro p loose mean mg mb gd cn cs a ccd cl outer A₀ base h₀ L m R s Q E B F X N O _ T hk h
  have hp := hs.perm
  have hn := (hp.map (·.1)).nodup_iff.mp O.1
  rw [List.map_append] at hn
  have hn' := List.nodup_append.mp hn
  refine S p loose mean mg mb gd cn cs a ccd cl outer A₀ base h₀ L m (G ++ R) s Q E B F X ?_ ⟨hn'.1, ?_⟩ ?_ T hk ?_
  · intro q hq
    rcases List.mem_append.mp hq with hq | hq
    · exact N q (List.mem_append.mpr (.inl (hp.mem_iff.mpr (List.mem_append.mpr (.inl hq)))))
    · rcases List.mem_append.mp hq with hq | hq
      · exact N q (List.mem_append.mpr (.inl (hp.mem_iff.mpr (List.mem_append.mpr (.inr hq)))))
      · exact N q (List.mem_append.mpr (.inr hq))
  · intro q hq b hb
    rcases List.mem_append.mp hq with hq | hq
    · exact fun e => hn'.2.2 b hb q.1 (List.mem_map.mpr ⟨q, hq, rfl⟩) e.symm
    · exact O.2 q hq b ((hp.map (·.1)).mem_iff.mpr (by rw [List.map_append]; exact List.mem_append.mpr (.inl hb)))
  · exact fun q hq => List.mem_append.mpr (.inl (hro q hq))
  · intro r led h' tk' F' N' O' hpo
    obtain ⟨led', hp', pm⟩ := hpost r led hpo
    refine h r led' h' tk' F' ?_ ⟨?_, ?_⟩ hp'
    · intro q hq
      rcases List.mem_append.mp hq with hq | hq
      · rcases List.mem_append.mp (pm.mem_iff.mpr hq) with hq | hq
        · exact N' q (List.mem_append.mpr (.inl hq))
        · exact N' q (List.mem_append.mpr (.inr (List.mem_append.mpr (.inl hq))))
      · exact N' q (List.mem_append.mpr (.inr (List.mem_append.mpr (.inr hq))))
    · refine (pm.map (·.1)).nodup_iff.mp ?_
      rw [List.map_append]
      refine List.nodup_append.mpr ⟨O'.1, hn'.2.1, fun x hx b hb e => ?_⟩
      obtain ⟨q, hq, e'⟩ := List.mem_map.mp hb
      exact O'.2 q (List.mem_append.mpr (.inl hq)) x hx (e'.trans e.symm)
    · intro q hq b hb
      have hb' := (pm.map (·.1)).mem_iff.mpr hb
      rw [List.map_append] at hb'
      rcases List.mem_append.mp hb' with hb' | hb'
      · exact O'.2 q (List.mem_append.mpr (.inr hq)) b hb'
      · refine O.2 q hq b ((hp.map (·.1)).mem_iff.mpr ?_)
        rw [List.map_append]
        exact List.mem_append.mpr (.inr hb')
/-- the addresses of what the law makes, and the size that it draws -/
structure Ad where
  box : Nat
  items : Nat
  here : Nat
  crD : Nat
  crI : Nat
  wiD : Nat
  wi : Nat
  fl : Nat
  li : Nat
  clD : Nat
  cl : Nat
  cOwn : Nat
  cPeer : Nat
  cOM : Nat
  cPM : Nat
  cTold : Nat
  cOwes : Nat
  svD : Nat
  sv : Nat
  sOwn : Nat
  sPeer : Nat
  sOM : Nat
  sPM : Nat
  sTold : Nat
  sOwes : Nat
  size : Int
abbrev PT := Int → Int → Int → Int → Int → Int → Bool → List Int → List (Bool × Int) → Prop
/-- what the ledger is between the deeds: i bounds the turns so far, P is what a loop says besides -/
inductive Inv (w : World) (a : Ad) (i : Int) (P : PT) : Led → Prop
  | mk (bvs : List Value) (bns : List Int) (sd : Int) (bt : Tok) (be be2 : Nat) (hbi : IntsAre bvs bns) (hbl : bvs.length ≤ 40) (hbs : 0 ≤ sd ∧ sd < 2147483647) (oH : Obj) (rest clim o0 m0 over : Int) (t1 t2 t3 t4 t5 : Tok) (o : Option Int) (tt tt2 : Tok) (hH : HereIs w oH (hereKvs a.crI a.wi a.fl a.li a.cl a.sv rest clim o0 m0 over t1 t2 t3 t4 t5 (optV o tt))) (c1 c2 c3 : Tok) (cused : Int) (c4 c5 : Tok) (k1 k2 k3 k4 k5 : Tok) (wlim got wused : Int) (u1 u2 u3 u4 : Tok) (owes : Bool) (fvs : List Value) (ns : List Int) (fe : Nat) (hfi : IntsAre fvs ns) (vs : List Value) (TL : Led) (ls : List (Bool × Int)) (le : Nat) (hL : LimsAre vs TL ls) (y1 y2 y3 y4 y5 y6 y7 yr : Tok) (g1 g2 g3 g4 g5 g6 g7 tr : Tok) (o1 m1 p0 p1 n1 q0 q1 : Int) (v1 v2 v3 v4 v5 v6 v7 v8 v9 v10 : Tok) (e1 e2 e3 e4 e5 e6 : Nat) (b0 b1 : Bool) (G : Good i a.size rest clim cused wlim got wused owes ns ls o0 m0 q0 p0) (hP : P rest clim cused wlim wused m0 owes ns ls) (U : Led) (hTU : SubL TL U) :
    Inv w a i P ((a.box, listOf #[.ref a.items, .int sd bt] be) :: (a.items, listOf bvs.toArray be2) :: (a.here, oH) :: (a.crD, creditObj w c1 c2 c3 clim cused c4 c5 (optV o tt2)) :: (a.crI, instObj 86 a.crD) :: (a.wiD, windowObj w k1 k2 k3 k4 k5 a.size wlim got wused u1 u2 u3 u4 owes) :: (a.wi, instObj 135 a.wiD) :: (a.fl, listOf fvs.toArray fe) :: (a.li, listOf vs.toArray le) :: (a.clD, sidsObj w y1 y2 y3 y4 y5 y6 y7 (Str.ofString "client") yr a.cOwn a.cPeer a.cOM a.cPM a.cTold a.cOwes) :: (a.cl, instObj 240 a.clD) :: (a.cOwn, two o0 o1 v1 v2 e1) :: (a.cOM, two m0 m1 v3 v4 e2) :: (a.svD, sidsObj w g1 g2 g3 g4 g5 g6 g7 (Str.ofString "server") tr a.sOwn a.sPeer a.sOM a.sPM a.sTold a.sOwes) :: (a.sv, instObj 240 a.svD) :: (a.sPeer, two p0 p1 v5 v6 e3) :: (a.sPM, two m0 n1 v7 v8 e4) :: (a.sTold, two q0 q1 v9 v10 e5) :: (a.sOwes, twoB b0 b1 e6) :: U)
theorem subl_swap {α : Type} {a b c : List α} (h : SubL a b) : SubL (a ++ c) (c ++ b) := fun q hq => (List.mem_append.mp hq).elim (fun hq => List.mem_append.mpr (.inr (h q hq))) fun hq => List.mem_append.mpr (.inl hq)
theorem SubL.trans {α : Type} {a b c : List α} (h : SubL a b) (h' : SubL b c) : SubL a c := fun q hq => h' q (h q hq)
theorem SplitL.perm19 {e1 e2 e3 e4 e5 e6 e7 e8 e9 e10 e11 e12 e13 e14 e15 e16 e17 e18 e19 : Addr × Obj} {l R : Led} (h : SplitL [e1, e2, e3, e4, e5, e6, e7, e8, e9, e10, e11, e12, e13, e14, e15, e16, e17, e18, e19] l R) : l.Perm (e1 :: e2 :: e3 :: e4 :: e5 :: e6 :: e7 :: e8 :: e9 :: e10 :: e11 :: e12 :: e13 :: e14 :: e15 :: e16 :: e17 :: e18 :: e19 :: R) := h.perm
local macro_rules | `(tactic| k_mem) => `(tactic| ((with_reducible show RemL _ _ _); first | with_reducible exact RemL.head | (with_reducible refine' RemL.tail ?c; (case c => k_mem)) | (with_reducible refine' RemL.app ?c; (case c => k_mem))))
local macro_rules | `(tactic| k_upd) => `(tactic| ((with_reducible show SplitL _ _ _); first | with_reducible exact SplitL.nil | (refine' SplitL.cons ?a ?b; (case a => k_mem); (case b => k_upd))))
theorem sentI (w : World) (a : Ad) (i : Int) (P P' : PT) (nx : Led) (hI : Inv w a i P nx) (hi1 : i ≤ 60) (k : Int) (tk : Tok) (hk : 0 ≤ k)
    (hPP : ∀ rest clim cused wlim got wused owes ns ls o0 m0 q0 p0 j ns', Good i a.size rest clim cused wlim got wused owes ns ls o0 m0 q0 p0 → P rest clim cused wlim wused m0 owes ns ls → j = min k (min (clim - cused) rest) → ns' = (if 0 < j then ns ++ [j] else ns) → P' (rest - j) clim (cused + j) wlim wused m0 owes ns' ls) :
    Spec w 500 500 265 [.ref a.here, .int k tk] nx [] (fun r led => r = .none ∧ Inv w a (i + 1) P' led) := by
  cases hI with
  | mk bvs bns sd bt be be2 hbi hbl hbs oH rest clim o0 m0 over t1 t2 t3 t4 t5 o tt tt2 hH c1 c2 c3 cused c4 c5 k1 k2 k3 k4 k5 wlim got wused u1 u2 u3 u4 owes fvs ns fe hfi vs TL ls le hL y1 y2 y3 y4 y5 y6 y7 yr g1 g2 g3 g4 g5 g6 g7 tr o1 m1 p0 p1 n1 q0 q1 v1 v2 v3 v4 v5 v6 v7 v8 v9 v10 e1 e2 e3 e4 e5 e6 b0 b1 G hP U hTU =>
    have ee1 := hfi.length
    have ee2 := hL.len
    have ee3 := G.nsl
    have ee4 := G.lsl
    refine Spec.part (sent_spec w a.here a.crD a.crI a.wi a.fl a.li a.cl a.sv oH rest clim o0 m0 over t1 t2 t3 t4 t5 (optV o tt) hH c1 c2 c3 clim cused c4 c5 (optV o tt2) fvs ns fe hfi (by omega) k tk hk G.rest0 G.room) (by k_upd) (fun _ h => nomatch h) ?_
    rintro r' led' ⟨j', oH', t1', c5', fvs', ns', fe', rfl, hj', hH', hfi', hns', rfl⟩
    refine ⟨_, ⟨rfl, Inv.mk bvs bns sd bt be be2 hbi hbl hbs oH' (rest - j') clim o0 m0 over t1' t2 t3 t4 t5 o tt tt2 hH' c1 c2 c3 (cused + j') c4 c5' k1 k2 k3 k4 k5 wlim got wused u1 u2 u3 u4 owes fvs' ns' fe' hfi' vs TL ls le hL y1 y2 y3 y4 y5 y6 y7 yr g1 g2 g3 g4 g5 g6 g7 tr o1 m1 p0 p1 n1 q0 q1 v1 v2 v3 v4 v5 v6 v7 v8 v9 v10 e1 e2 e3 e4 e5 e6 b0 b1 (Good.sent G hk hj' hns') (hPP _ _ _ _ _ _ _ _ _ _ _ _ _ _ _ G hP hj' hns') U hTU⟩, SplitL.perm19 (by (dsimp only [List.cons_append, List.nil_append]; k_upd))⟩
theorem cameI (w : World) (a : Ad) (i : Int) (P P' : PT) (nx : Led) (hI : Inv w a i P nx) (hi1 : i ≤ 60) (at_ : Int) (ta : Tok) (ha : 0 ≤ at_)
    (hlen : ∀ rest clim cused wlim wused m0 owes ns ls, P rest clim cused wlim wused m0 owes ns ls → at_ < (ns.length : Int)) (hPP : ∀ rest clim cused wlim wused m0 owes ns ls, P rest clim cused wlim wused m0 owes ns ls → P' rest clim cused wlim wused m0 owes (ns.take at_.toNat ++ ns.drop (at_.toNat + 1)) ls) :
    Spec w 500 500 272 [.ref a.here, .int at_ ta] nx [] (fun r led => r = .none ∧ Inv w a i P' led) := by
  cases hI with
  | mk bvs bns sd bt be be2 hbi hbl hbs oH rest clim o0 m0 over t1 t2 t3 t4 t5 o tt tt2 hH c1 c2 c3 cused c4 c5 k1 k2 k3 k4 k5 wlim got wused u1 u2 u3 u4 owes fvs ns fe hfi vs TL ls le hL y1 y2 y3 y4 y5 y6 y7 yr g1 g2 g3 g4 g5 g6 g7 tr o1 m1 p0 p1 n1 q0 q1 v1 v2 v3 v4 v5 v6 v7 v8 v9 v10 e1 e2 e3 e4 e5 e6 b0 b1 G hP U hTU =>
    have ee1 := hfi.length
    have ee2 := hL.len
    have ee3 := G.nsl
    have ee4 := G.lsl
    have hl9 := hlen _ _ _ _ _ _ _ _ _ hP
    obtain ⟨v, hv⟩ : ∃ v, ns[at_.toNat]? = some v := ⟨_, List.getElem?_eq_getElem (by omega)⟩
    refine Spec.part (came_spec w a.here a.crI a.wiD a.wi a.fl a.li a.cl a.sv oH rest clim o0 m0 over t1 t2 t3 t4 t5 (optV o tt) hH k1 k2 k3 k4 k5 a.size wlim got wused u1 u2 u3 u4 owes fvs ns fe hfi (by omega) at_ v ta ha hv (Good.came_ok G hv)) (by k_upd) (fun _ h => nomatch h) ?_
    rintro r' led' ⟨u3', fvs', fe', rfl, hfi', rfl⟩
    refine ⟨_, ⟨rfl, Inv.mk bvs bns sd bt be be2 hbi hbl hbs oH rest clim o0 m0 over t1 t2 t3 t4 t5 o tt tt2 hH c1 c2 c3 cused c4 c5 k1 k2 k3 k4 k5 wlim (got + v) wused u1 u2 u3' u4 owes fvs' (ns.take at_.toNat ++ ns.drop (at_.toNat + 1)) fe' hfi' vs TL ls le hL y1 y2 y3 y4 y5 y6 y7 yr g1 g2 g3 g4 g5 g6 g7 tr o1 m1 p0 p1 n1 q0 q1 v1 v2 v3 v4 v5 v6 v7 v8 v9 v10 e1 e2 e3 e4 e5 e6 b0 b1 (Good.came G hv) (hPP _ _ _ _ _ _ _ _ _ hP) U hTU⟩, SplitL.perm19 (by (dsimp only [List.cons_append, List.nil_append]; k_upd))⟩
theorem readI (w : World) (a : Ad) (i : Int) (P P' : PT) (nx : Led) (hI : Inv w a i P nx) (hi1 : i ≤ 60) (k : Int) (tk : Tok) (hk : 0 ≤ k)
    (hPP : ∀ rest clim cused wlim got wused owes ns ls o0 m0 q0 p0 j, Good i a.size rest clim cused wlim got wused owes ns ls o0 m0 q0 p0 → P rest clim cused wlim wused m0 owes ns ls → j = min k (got - wused) → P' rest clim cused wlim (wused + j) m0 owes ns ls) :
    Spec w 500 500 279 [.ref a.here, .int k tk] nx [] (fun r led => r = .none ∧ Inv w a i P' led) := by
  cases hI with
  | mk bvs bns sd bt be be2 hbi hbl hbs oH rest clim o0 m0 over t1 t2 t3 t4 t5 o tt tt2 hH c1 c2 c3 cused c4 c5 k1 k2 k3 k4 k5 wlim got wused u1 u2 u3 u4 owes fvs ns fe hfi vs TL ls le hL y1 y2 y3 y4 y5 y6 y7 yr g1 g2 g3 g4 g5 g6 g7 tr o1 m1 p0 p1 n1 q0 q1 v1 v2 v3 v4 v5 v6 v7 v8 v9 v10 e1 e2 e3 e4 e5 e6 b0 b1 G hP U hTU =>
    have ee1 := hfi.length
    have ee2 := hL.len
    have ee3 := G.nsl
    have ee4 := G.lsl
    refine Spec.part (read_spec w a.here a.crI a.wiD a.wi a.fl a.li a.cl a.sv oH rest clim o0 m0 over t1 t2 t3 t4 t5 (optV o tt) hH k1 k2 k3 k4 k5 a.size wlim got wused u1 u2 u3 u4 owes k tk) (by k_upd) (fun _ h => nomatch h) ?_
    rintro r' led' ⟨j', u4', rfl, hj', rfl⟩
    refine ⟨_, ⟨rfl, Inv.mk bvs bns sd bt be be2 hbi hbl hbs oH rest clim o0 m0 over t1 t2 t3 t4 t5 o tt tt2 hH c1 c2 c3 cused c4 c5 k1 k2 k3 k4 k5 wlim got (wused + j') u1 u2 u3 u4' owes fvs ns fe hfi vs TL ls le hL y1 y2 y3 y4 y5 y6 y7 yr g1 g2 g3 g4 g5 g6 g7 tr o1 m1 p0 p1 n1 q0 q1 v1 v2 v3 v4 v5 v6 v7 v8 v9 v10 e1 e2 e3 e4 e5 e6 b0 b1 (Good.read G hk hj') (hPP _ _ _ _ _ _ _ _ _ _ _ _ _ _ G hP hj') U hTU⟩, SplitL.perm19 (by (dsimp only [List.cons_append, List.nil_append]; k_upd))⟩
theorem toldI (w : World) (a : Ad) (i : Int) (P P' : PT) (nx : Led) (hI : Inv w a i P nx) (hi1 : i ≤ 60) 
    (hPP : ∀ rest clim cused wlim got wused owes ns ls o0 m0 q0 p0 wlim' owes' d g, Good i a.size rest clim cused wlim got wused owes ns ls o0 m0 q0 p0 → P rest clim cused wlim wused m0 owes ns ls → NextLimit a.size wlim wused owes wlim' owes' d → P' rest clim cused wlim' wused m0 owes' ns (ls ++ (d ++ g))) :
    Spec w 500 500 286 [.ref a.here] nx [] (fun r led => r = .none ∧ Inv w a (i + 1) P' led) := by
  cases hI with
  | mk bvs bns sd bt be be2 hbi hbl hbs oH rest clim o0 m0 over t1 t2 t3 t4 t5 o tt tt2 hH c1 c2 c3 cused c4 c5 k1 k2 k3 k4 k5 wlim got wused u1 u2 u3 u4 owes fvs ns fe hfi vs TL ls le hL y1 y2 y3 y4 y5 y6 y7 yr g1 g2 g3 g4 g5 g6 g7 tr o1 m1 p0 p1 n1 q0 q1 v1 v2 v3 v4 v5 v6 v7 v8 v9 v10 e1 e2 e3 e4 e5 e6 b0 b1 G hP U hTU =>
    have ee1 := hfi.length
    have ee2 := hL.len
    have ee3 := G.nsl
    have ee4 := G.lsl
    refine Spec.part (told_spec w a.here a.crI a.wiD a.wi a.fl a.li a.cl a.svD a.sv a.sOwn a.sPeer a.sOM a.sPM a.sTold a.sOwes oH rest clim o0 m0 over t1 t2 t3 t4 t5 (optV o tt) hH k1 k2 k3 k4 k5 a.size wlim got wused u1 u2 u3 u4 owes vs le (by omega) g1 g2 g3 g4 g5 g6 g7 tr p0 p1 q0 q1 v5 v6 v9 v10 b0 b1 e3 e5 e6) (by k_upd) (fun _ h => nomatch h) ?_
    rintro r' led' ⟨wlim', owes', q0', b0', d', g', vs', tups', u2', v9', le', e5', e6', rfl, hn1', hn2', hL', rfl⟩
    refine ⟨_, ⟨rfl, Inv.mk bvs bns sd bt be be2 hbi hbl hbs oH rest clim o0 m0 over t1 t2 t3 t4 t5 o tt tt2 hH c1 c2 c3 cused c4 c5 k1 k2 k3 k4 k5 wlim' got wused u1 u2' u3 u4 owes' fvs ns fe hfi (vs ++ vs') (TL ++ tups') (ls ++ (d' ++ g')) le' (LimsAre.app hL hL') y1 y2 y3 y4 y5 y6 y7 yr g1 g2 g3 g4 g5 g6 g7 tr o1 m1 p0 p1 n1 q0' q1 v1 v2 v3 v4 v5 v6 v7 v8 v9' v10 e1 e2 e3 e4 e5' e6' b0' b1 (Good.told' G hn1' hn2') (hPP _ _ _ _ _ _ _ _ _ _ _ _ _ _ _ _ _ G hP hn1') (tups' ++ U) (subl_swap hTU)⟩, SplitL.perm19 (by (dsimp only [List.cons_append, List.nil_append]; k_upd))⟩
theorem closedI (w : World) (a : Ad) (i : Int) (P P' : PT) (nx : Led) (hI : Inv w a i P nx) (hi1 : i ≤ 60) (sid : Int) (t0 : Tok) (hs : sid % 4 = 0)
    (hPP : ∀ rest clim cused wlim wused m0 owes ns ls, P rest clim cused wlim wused m0 owes ns ls → P' rest clim cused wlim wused m0 owes ns ls) :
    Spec w 700 700 223 [.ref a.sv, .int sid t0] nx [] (fun r led => r = .none ∧ Inv w a i P' led) := by
  cases hI with
  | mk bvs bns sd bt be be2 hbi hbl hbs oH rest clim o0 m0 over t1 t2 t3 t4 t5 o tt tt2 hH c1 c2 c3 cused c4 c5 k1 k2 k3 k4 k5 wlim got wused u1 u2 u3 u4 owes fvs ns fe hfi vs TL ls le hL y1 y2 y3 y4 y5 y6 y7 yr g1 g2 g3 g4 g5 g6 g7 tr o1 m1 p0 p1 n1 q0 q1 v1 v2 v3 v4 v5 v6 v7 v8 v9 v10 e1 e2 e3 e4 e5 e6 b0 b1 G hP U hTU =>
    have ee1 := hfi.length
    have ee2 := hL.len
    have ee3 := G.nsl
    have ee4 := G.lsl
    refine Spec.part (onClosed_spec w a.svD a.sv a.sOwn a.sPeer a.sOM a.sPM a.sTold a.sOwes g1 g2 g3 g4 g5 g6 g7 tr p0 p1 v5 v6 e3 sid t0 hs) (by k_upd) (fun _ h => nomatch h) ?_
    rintro r' led' ⟨p0', v5', e3', rfl, hp', rfl⟩
    refine ⟨_, ⟨rfl, Inv.mk bvs bns sd bt be be2 hbi hbl hbs oH rest clim o0 m0 over t1 t2 t3 t4 t5 o tt tt2 hH c1 c2 c3 cused c4 c5 k1 k2 k3 k4 k5 wlim got wused u1 u2 u3 u4 owes fvs ns fe hfi vs TL ls le hL y1 y2 y3 y4 y5 y6 y7 yr g1 g2 g3 g4 g5 g6 g7 tr o1 m1 p0' p1 n1 q0 q1 v1 v2 v3 v4 v5' v6 v7 v8 v9 v10 e1 e2 e3' e4 e5 e6 b0 b1 (Good.closed G hp') (hPP _ _ _ _ _ _ _ _ _ hP) U hTU⟩, SplitL.perm19 (by (dsimp only [List.cons_append, List.nil_append]; k_upd))⟩
theorem takeI (w : World) (a : Ad) (i : Int) (P P' : PT) (nx : Led) (hI : Inv w a i P nx) (hi1 : i ≤ 60) (wide : Int) (tw : Tok) (hw : 0 < wide) (hw2 : wide < 100)
    (hPP : ∀ rest clim cused wlim wused m0 owes ns ls, P rest clim cused wlim wused m0 owes ns ls → P' rest clim cused wlim wused m0 owes ns ls) :
    Spec w 500 500 258 [.ref a.box, .int wide tw] nx [] (fun r led => (∃ v t, r = .int v t ∧ 0 ≤ v ∧ v < wide) ∧ Inv w a i P' led) := by
  cases hI with
  | mk bvs bns sd bt be be2 hbi hbl hbs oH rest clim o0 m0 over t1 t2 t3 t4 t5 o tt tt2 hH c1 c2 c3 cused c4 c5 k1 k2 k3 k4 k5 wlim got wused u1 u2 u3 u4 owes fvs ns fe hfi vs TL ls le hL y1 y2 y3 y4 y5 y6 y7 yr g1 g2 g3 g4 g5 g6 g7 tr o1 m1 p0 p1 n1 q0 q1 v1 v2 v3 v4 v5 v6 v7 v8 v9 v10 e1 e2 e3 e4 e5 e6 b0 b1 G hP U hTU =>
    have ee1 := hfi.length
    have ee2 := hL.len
    have ee3 := G.nsl
    have ee4 := G.lsl
    refine Spec.part (take_spec w a.box a.items bvs bns sd wide bt tw be be2 hbi hw hw2 hbl hbs) (by k_upd) (fun _ h => nomatch h) ?_
    rintro r' led' ⟨rv', rt', bvs', bns', sd', bt', be', be2', rfl, lo', hi', s1', s2', hbi', hbl', rfl⟩
    refine ⟨_, ⟨⟨_, _, rfl, lo', hi'⟩, Inv.mk bvs' bns' sd' bt' be' be2' hbi' hbl' ⟨s1', s2'⟩ oH rest clim o0 m0 over t1 t2 t3 t4 t5 o tt tt2 hH c1 c2 c3 cused c4 c5 k1 k2 k3 k4 k5 wlim got wused u1 u2 u3 u4 owes fvs ns fe hfi vs TL ls le hL y1 y2 y3 y4 y5 y6 y7 yr g1 g2 g3 g4 g5 g6 g7 tr o1 m1 p0 p1 n1 q0 q1 v1 v2 v3 v4 v5 v6 v7 v8 v9 v10 e1 e2 e3 e4 e5 e6 b0 b1 G (hPP _ _ _ _ _ _ _ _ _ hP) U hTU⟩, SplitL.perm19 (by (dsimp only [List.cons_append, List.nil_append]; k_upd))⟩
theorem blockedI (w : World) (a : Ad) (i : Int) (P P' : PT) (nx : Led) (hI : Inv w a i P nx) (hi1 : i ≤ 60) (goes : Bool)
    (hPP : ∀ rest clim cused wlim wused m0 owes ns ls, P rest clim cused wlim wused m0 owes ns ls → P' rest clim cused wlim wused m0 owes ns ls) :
    Spec w 500 500 307 [.ref a.here, .bool goes] nx [] (fun r led => r = .bool true ∧ Inv w a i P' led) := by
  cases hI with
  | mk bvs bns sd bt be be2 hbi hbl hbs oH rest clim o0 m0 over t1 t2 t3 t4 t5 o tt tt2 hH c1 c2 c3 cused c4 c5 k1 k2 k3 k4 k5 wlim got wused u1 u2 u3 u4 owes fvs ns fe hfi vs TL ls le hL y1 y2 y3 y4 y5 y6 y7 yr g1 g2 g3 g4 g5 g6 g7 tr o1 m1 p0 p1 n1 q0 q1 v1 v2 v3 v4 v5 v6 v7 v8 v9 v10 e1 e2 e3 e4 e5 e6 b0 b1 G hP U hTU =>
    have ee1 := hfi.length
    have ee2 := hL.len
    have ee3 := G.nsl
    have ee4 := G.lsl
    refine Spec.part (blocked_spec w a.here a.crD a.crI a.wi a.fl a.li a.cl a.sv oH rest clim o0 m0 over t1 t2 t3 t4 t5 c1 c2 c3 clim cused c4 c5 o tt tt2 hH goes G.room) (by k_upd) (fun _ h => nomatch h) ?_
    rintro r' led' ⟨oH', o', tt', tt2', rfl, hH', rfl⟩
    refine ⟨_, ⟨rfl, Inv.mk bvs bns sd bt be be2 hbi hbl hbs oH' rest clim o0 m0 over t1 t2 t3 t4 t5 o' tt' tt2' hH' c1 c2 c3 cused c4 c5 k1 k2 k3 k4 k5 wlim got wused u1 u2 u3 u4 owes fvs ns fe hfi vs TL ls le hL y1 y2 y3 y4 y5 y6 y7 yr g1 g2 g3 g4 g5 g6 g7 tr o1 m1 p0 p1 n1 q0 q1 v1 v2 v3 v4 v5 v6 v7 v8 v9 v10 e1 e2 e3 e4 e5 e6 b0 b1 G (hPP _ _ _ _ _ _ _ _ _ hP) U hTU⟩, SplitL.perm19 (by (dsimp only [List.cons_append, List.nil_append]; k_upd))⟩
theorem openedI (w : World) (a : Ad) (i : Int) (P P' : PT) (nx : Led) (hI : Inv w a i P nx) (hi1 : i ≤ 60) 
    (hPP : ∀ rest clim cused wlim wused m0 owes ns ls m0', P rest clim cused wlim wused m0 owes ns ls → P' rest clim cused wlim wused m0' owes ns ls) :
    Spec w 500 500 314 [.ref a.here] nx [] (fun r led => r = .bool true ∧ Inv w a (i + 1) P' led) := by
  cases hI with
  | mk bvs bns sd bt be be2 hbi hbl hbs oH rest clim o0 m0 over t1 t2 t3 t4 t5 o tt tt2 hH c1 c2 c3 cused c4 c5 k1 k2 k3 k4 k5 wlim got wused u1 u2 u3 u4 owes fvs ns fe hfi vs TL ls le hL y1 y2 y3 y4 y5 y6 y7 yr g1 g2 g3 g4 g5 g6 g7 tr o1 m1 p0 p1 n1 q0 q1 v1 v2 v3 v4 v5 v6 v7 v8 v9 v10 e1 e2 e3 e4 e5 e6 b0 b1 G hP U hTU =>
    have ee1 := hfi.length
    have ee2 := hL.len
    have ee3 := G.nsl
    have ee4 := G.lsl
    refine Spec.part (opened_spec w a.here a.crI a.wi a.fl a.li a.clD a.cl a.sv a.cOwn a.cPeer a.cOM a.cPM a.cTold a.cOwes a.svD a.sOwn a.sPeer a.sOM a.sPM a.sTold a.sOwes oH rest clim o0 m0 over t1 t2 t3 t4 t5 (optV o tt) hH y1 y2 y3 y4 y5 y6 y7 yr g1 g2 g3 g4 g5 g6 g7 tr o0 o1 m0 m1 m0 n1 q0 q1 v1 v2 v3 v4 v7 v8 v9 v10 e1 e2 e4 e5 rfl rfl rfl G.oq G.m00 (by have := G.mi; omega)) (by k_upd) (fun _ h => nomatch h) ?_
    rintro r' led' ⟨oH', t4', m0', n0', v3', v5', e2', e3', rfl, hm', hn', hH', rfl⟩
    subst hn'
    refine ⟨_, ⟨rfl, Inv.mk bvs bns sd bt be be2 hbi hbl hbs oH' rest clim o0 n0' over t1 t2 t3 t4' t5 o tt tt2 hH' c1 c2 c3 cused c4 c5 k1 k2 k3 k4 k5 wlim got wused u1 u2 u3 u4 owes fvs ns fe hfi vs TL ls le hL y1 y2 y3 y4 y5 y6 y7 yr g1 g2 g3 g4 g5 g6 g7 tr o1 m1 p0 p1 n1 q0 q1 v1 v2 v3' v4 v5 v6 v5' v8 v9 v10 e1 e2' e3 e3' e5 e6 b0 b1 (Good.opened G hm') (hPP _ _ _ _ _ _ _ _ _ _ hP) U hTU⟩, SplitL.perm19 (by (dsimp only [List.cons_append, List.nil_append]; k_upd))⟩
theorem lostI (w : World) (a : Ad) (i : Int) (P P' : PT) (nx : Led) (hI : Inv w a i P nx) (hi1 : i ≤ 60) (at_ : Int) (ta : Tok) (ha : 0 ≤ at_)
    (hlen : ∀ rest clim cused wlim wused m0 owes ns ls, P rest clim cused wlim wused m0 owes ns ls → at_ < (ls.length : Int)) (hPP : ∀ rest clim cused wlim wused m0 owes ns ls owes' ls', P rest clim cused wlim wused m0 owes ns ls → P' rest clim cused wlim wused m0 owes' ns ls') :
    Spec w 500 500 300 [.ref a.here, .int at_ ta] nx [] (fun r led => r = .none ∧ Inv w a i P' led) := by
  cases hI with
  | mk bvs bns sd bt be be2 hbi hbl hbs oH rest clim o0 m0 over t1 t2 t3 t4 t5 o tt tt2 hH c1 c2 c3 cused c4 c5 k1 k2 k3 k4 k5 wlim got wused u1 u2 u3 u4 owes fvs ns fe hfi vs TL ls le hL y1 y2 y3 y4 y5 y6 y7 yr g1 g2 g3 g4 g5 g6 g7 tr o1 m1 p0 p1 n1 q0 q1 v1 v2 v3 v4 v5 v6 v7 v8 v9 v10 e1 e2 e3 e4 e5 e6 b0 b1 G hP U hTU =>
    have ee1 := hfi.length
    have ee2 := hL.len
    have ee3 := G.nsl
    have ee4 := G.lsl
    have hl9 := hlen _ _ _ _ _ _ _ _ _ hP
    obtain ⟨ad, b, x, tk, tl, T', hv1, hv2, hmem, hsub, hL'⟩ := LimsAre.at hL at_.toNat (by omega)
    refine Spec.part (lost_spec w b a.here a.crI a.wiD a.wi a.fl a.li a.cl a.svD a.sv a.sOwn a.sPeer a.sOM a.sPM a.sTold a.sOwes ad oH rest clim o0 m0 over t1 t2 t3 t4 t5 (optV o tt) hH k1 k2 k3 k4 k5 a.size wlim got wused u1 u2 u3 u4 owes vs le (by omega) g1 g2 g3 g4 g5 g6 g7 tr q0 q1 v9 v10 b0 b1 e5 e6 at_ ta x tk tl ha hv1) (by k_upd) (by (intro q hq; rw [List.mem_singleton.mp hq]; (repeat (first | exact hTU _ hmem | refine List.mem_cons_of_mem _ ?_)))) ?_
    rintro r' led' ⟨owes', b0', le', e6', rfl, ho', hb', rfl⟩
    refine ⟨_, ⟨rfl, Inv.mk bvs bns sd bt be be2 hbi hbl hbs oH rest clim o0 m0 over t1 t2 t3 t4 t5 o tt tt2 hH c1 c2 c3 cused c4 c5 k1 k2 k3 k4 k5 wlim got wused u1 u2 u3 u4 owes' fvs ns fe hfi (vs.take at_.toNat ++ vs.drop (at_.toNat + 1)) T' (ls.take at_.toNat ++ ls.drop (at_.toNat + 1)) le' hL' y1 y2 y3 y4 y5 y6 y7 yr g1 g2 g3 g4 g5 g6 g7 tr o1 m1 p0 p1 n1 q0 q1 v1 v2 v3 v4 v5 v6 v7 v8 v9 v10 e1 e2 e3 e4 e5 e6' b0' b1 (Good.lost G hv2 ho') (hPP _ _ _ _ _ _ _ _ _ _ _ hP) U (SubL.trans hsub hTU)⟩, SplitL.perm19 (by (dsimp only [List.cons_append, List.nil_append]; k_upd))⟩
theorem heardI (w : World) (a : Ad) (i : Int) (P P' : PT) (nx : Led) (hI : Inv w a i P nx) (hi1 : i ≤ 60) (at_ : Int) (ta : Tok) (ha : 0 ≤ at_)
    (hlen : ∀ rest clim cused wlim wused m0 owes ns ls, P rest clim cused wlim wused m0 owes ns ls → at_ < (ls.length : Int)) (hPP : ∀ rest clim cused wlim got wused owes ns ls o0 m0 q0 p0 b x clim', Good i a.size rest clim cused wlim got wused owes ns ls o0 m0 q0 p0 → P rest clim cused wlim wused m0 owes ns ls → ls[at_.toNat]? = some (b, x) → clim' = (if b = true then max clim x else clim) → P' rest clim' cused wlim wused m0 owes ns (ls.take at_.toNat ++ ls.drop (at_.toNat + 1))) :
    Spec w 500 500 293 [.ref a.here, .int at_ ta, .bool false] nx [] (fun r led => r = .bool true ∧ Inv w a i P' led) := by
  cases hI with
  | mk bvs bns sd bt be be2 hbi hbl hbs oH rest clim o0 m0 over t1 t2 t3 t4 t5 o tt tt2 hH c1 c2 c3 cused c4 c5 k1 k2 k3 k4 k5 wlim got wused u1 u2 u3 u4 owes fvs ns fe hfi vs TL ls le hL y1 y2 y3 y4 y5 y6 y7 yr g1 g2 g3 g4 g5 g6 g7 tr o1 m1 p0 p1 n1 q0 q1 v1 v2 v3 v4 v5 v6 v7 v8 v9 v10 e1 e2 e3 e4 e5 e6 b0 b1 G hP U hTU =>
    have ee1 := hfi.length
    have ee2 := hL.len
    have ee3 := G.nsl
    have ee4 := G.lsl
    have hl9 := hlen _ _ _ _ _ _ _ _ _ hP
    obtain ⟨ad, b, x, tk, tl, T', hv1, hv2, hmem, hsub, hL'⟩ := LimsAre.at hL at_.toNat (by omega)
    refine Spec.part (heard_spec w b a.here a.crD a.crI a.wi a.fl a.li a.clD a.cl a.sv a.cOwn a.cPeer a.cOM a.cPM a.cTold a.cOwes ad oH rest clim o0 m0 over t1 t2 t3 t4 t5 (optV o tt) hH c1 c2 c3 clim cused c4 c5 (optV o tt2) vs le (by omega) y1 y2 y3 y4 y5 y6 y7 yr o0 o1 v1 v2 e1 at_ ta false x tk tl ha hv1 rfl rfl) (by k_upd) (by (intro q hq; rw [List.mem_singleton.mp hq]; (repeat (first | exact hTU _ hmem | refine List.mem_cons_of_mem _ ?_)))) ?_
    rintro r' led' ⟨oH', clim', c4', most', t2', o0', v1', e1', lt', t3', vs', le', rfl, hc', hm', ho', hlt', hH', hvs', rfl⟩
    subst hm' hlt'
    refine ⟨_, ⟨rfl, Inv.mk bvs bns sd bt be be2 hbi hbl hbs oH' rest most' lt' m0 over t1 t2' t3' t4 t5 o tt tt2 hH' c1 c2 c3 cused c4' c5 k1 k2 k3 k4 k5 wlim got wused u1 u2 u3 u4 owes fvs ns fe hfi vs' T' (ls.take at_.toNat ++ ls.drop (at_.toNat + 1)) le' (by rw [hvs'.trans (if_neg (by decide))]; exact hL') y1 y2 y3 y4 y5 y6 y7 yr g1 g2 g3 g4 g5 g6 g7 tr o1 m1 p0 p1 n1 q0 q1 v1' v2 v3 v4 v5 v6 v7 v8 v9 v10 e1' e2 e3 e4 e5 e6 b0 b1 (Good.heard (kept := false) G hv2 hc' ho' (if_neg (by decide)).symm) (hPP _ _ _ _ _ _ _ _ _ _ _ _ _ _ _ _ G hP hv2 hc') U (SubL.trans hsub hTU)⟩, SplitL.perm19 (by (dsimp only [List.cons_append, List.nil_append]; k_upd))⟩
theorem heardKI (w : World) (a : Ad) (i : Int) (P P' : PT) (nx : Led) (hI : Inv w a i P nx) (hi1 : i ≤ 60) (at_ : Int) (ta : Tok) (ha : 0 ≤ at_)
    (hlen : ∀ rest clim cused wlim wused m0 owes ns ls, P rest clim cused wlim wused m0 owes ns ls → at_ < (ls.length : Int)) (hPP : ∀ rest clim cused wlim got wused owes ns ls o0 m0 q0 p0 b x clim', Good i a.size rest clim cused wlim got wused owes ns ls o0 m0 q0 p0 → P rest clim cused wlim wused m0 owes ns ls → ls[at_.toNat]? = some (b, x) → clim' = (if b = true then max clim x else clim) → P' rest clim' cused wlim wused m0 owes ns ls) :
    Spec w 500 500 293 [.ref a.here, .int at_ ta, .bool true] nx [] (fun r led => r = .bool true ∧ Inv w a i P' led) := by
  cases hI with
  | mk bvs bns sd bt be be2 hbi hbl hbs oH rest clim o0 m0 over t1 t2 t3 t4 t5 o tt tt2 hH c1 c2 c3 cused c4 c5 k1 k2 k3 k4 k5 wlim got wused u1 u2 u3 u4 owes fvs ns fe hfi vs TL ls le hL y1 y2 y3 y4 y5 y6 y7 yr g1 g2 g3 g4 g5 g6 g7 tr o1 m1 p0 p1 n1 q0 q1 v1 v2 v3 v4 v5 v6 v7 v8 v9 v10 e1 e2 e3 e4 e5 e6 b0 b1 G hP U hTU =>
    have ee1 := hfi.length
    have ee2 := hL.len
    have ee3 := G.nsl
    have ee4 := G.lsl
    have hl9 := hlen _ _ _ _ _ _ _ _ _ hP
    obtain ⟨ad, b, x, tk, tl, T', hv1, hv2, hmem, hsub, hL'⟩ := LimsAre.at hL at_.toNat (by omega)
    refine Spec.part (heard_spec w b a.here a.crD a.crI a.wi a.fl a.li a.clD a.cl a.sv a.cOwn a.cPeer a.cOM a.cPM a.cTold a.cOwes ad oH rest clim o0 m0 over t1 t2 t3 t4 t5 (optV o tt) hH c1 c2 c3 clim cused c4 c5 (optV o tt2) vs le (by omega) y1 y2 y3 y4 y5 y6 y7 yr o0 o1 v1 v2 e1 at_ ta true x tk tl ha hv1 rfl rfl) (by k_upd) (by (intro q hq; rw [List.mem_singleton.mp hq]; (repeat (first | exact hTU _ hmem | refine List.mem_cons_of_mem _ ?_)))) ?_
    rintro r' led' ⟨oH', clim', c4', most', t2', o0', v1', e1', lt', t3', vs', le', rfl, hc', hm', ho', hlt', hH', hvs', rfl⟩
    subst hm' hlt'
    refine ⟨_, ⟨rfl, Inv.mk bvs bns sd bt be be2 hbi hbl hbs oH' rest most' lt' m0 over t1 t2' t3' t4 t5 o tt tt2 hH' c1 c2 c3 cused c4' c5 k1 k2 k3 k4 k5 wlim got wused u1 u2 u3 u4 owes fvs ns fe hfi vs' TL ls le' (by rw [hvs'.trans (if_pos rfl)]; exact hL) y1 y2 y3 y4 y5 y6 y7 yr g1 g2 g3 g4 g5 g6 g7 tr o1 m1 p0 p1 n1 q0 q1 v1' v2 v3 v4 v5 v6 v7 v8 v9 v10 e1' e2 e3 e4 e5 e6 b0 b1 (Good.heard (kept := true) G hv2 hc' ho' (if_pos rfl).symm) (hPP _ _ _ _ _ _ _ _ _ _ _ _ _ _ _ _ G hP hv2 hc') U hTU⟩, SplitL.perm19 (by (dsimp only [List.cons_append, List.nil_append]; k_upd))⟩
theorem Inv.len {w : World} {a : Ad} {i : Int} {P : PT} {nx : Led} (h : Inv w a i P nx) : ∃ n m : Nat, (n : Int) ≤ i ∧ (m : Int) ≤ 2 * i ∧ Inv w a i (fun r c u wl wu m0 ow ns ls => P r c u wl wu m0 ow ns ls ∧ ns.length = n ∧ ls.length = m) nx := by
  cases h with
  | mk bvs bns sd bt be be2 hbi hbl hbs oH rest clim o0 m0 over t1 t2 t3 t4 t5 o tt tt2 hH c1 c2 c3 cused c4 c5 k1 k2 k3 k4 k5 wlim got wused u1 u2 u3 u4 owes fvs ns fe hfi vs TL ls le hL y1 y2 y3 y4 y5 y6 y7 yr g1 g2 g3 g4 g5 g6 g7 tr o1 m1 p0 p1 n1 q0 q1 v1 v2 v3 v4 v5 v6 v7 v8 v9 v10 e1 e2 e3 e4 e5 e6 b0 b1 G hP U hTU => exact ⟨ns.length, ls.length, G.nsl, G.lsl, Inv.mk bvs bns sd bt be be2 hbi hbl hbs oH rest clim o0 m0 over t1 t2 t3 t4 t5 o tt tt2 hH c1 c2 c3 cused c4 c5 k1 k2 k3 k4 k5 wlim got wused u1 u2 u3 u4 owes fvs ns fe hfi vs TL ls le hL y1 y2 y3 y4 y5 y6 y7 yr g1 g2 g3 g4 g5 g6 g7 tr o1 m1 p0 p1 n1 q0 q1 v1 v2 v3 v4 v5 v6 v7 v8 v9 v10 e1 e2 e3 e4 e5 e6 b0 b1 G ⟨hP, rfl, rfl⟩ U hTU⟩
theorem Inv.mono {w : World} {a : Ad} {i i' : Int} {P P' : PT} {nx : Led} (h : Inv w a i P nx) (hi : i ≤ i') (hP' : ∀ r c u wl wu m0 ow ns ls, P r c u wl wu m0 ow ns ls → P' r c u wl wu m0 ow ns ls) : Inv w a i' P' nx := by
  cases h with
  | mk bvs bns sd bt be be2 hbi hbl hbs oH rest clim o0 m0 over t1 t2 t3 t4 t5 o tt tt2 hH c1 c2 c3 cused c4 c5 k1 k2 k3 k4 k5 wlim got wused u1 u2 u3 u4 owes fvs ns fe hfi vs TL ls le hL y1 y2 y3 y4 y5 y6 y7 yr g1 g2 g3 g4 g5 g6 g7 tr o1 m1 p0 p1 n1 q0 q1 v1 v2 v3 v4 v5 v6 v7 v8 v9 v10 e1 e2 e3 e4 e5 e6 b0 b1 G hP U hTU => exact Inv.mk bvs bns sd bt be be2 hbi hbl hbs oH rest clim o0 m0 over t1 t2 t3 t4 t5 o tt tt2 hH c1 c2 c3 cused c4 c5 k1 k2 k3 k4 k5 wlim got wused u1 u2 u3 u4 owes fvs ns fe hfi vs TL ls le hL y1 y2 y3 y4 y5 y6 y7 yr g1 g2 g3 g4 g5 g6 g7 tr o1 m1 p0 p1 n1 q0 q1 v1 v2 v3 v4 v5 v6 v7 v8 v9 v10 e1 e2 e3 e4 e5 e6 b0 b1 (G.mono hi) (hP' _ _ _ _ _ _ _ _ _ hP) U hTU
theorem Inv.hereD {w : World} {a : Ad} {i : Int} {P : PT} {nx : Led} (h : Inv w a i P nx) : ∃ oH rest clim o0 m0 over t1 t2 t3 t4 t5 tv, (a.here, oH) ∈ nx ∧ HereIs w oH (hereKvs a.crI a.wi a.fl a.li a.cl a.sv rest clim o0 m0 over t1 t2 t3 t4 t5 tv) := by
  cases h with
  | mk bvs bns sd bt be be2 hbi hbl hbs oH rest clim o0 m0 over t1 t2 t3 t4 t5 o tt tt2 hH c1 c2 c3 cused c4 c5 k1 k2 k3 k4 k5 wlim got wused u1 u2 u3 u4 owes fvs ns fe hfi vs TL ls le hL y1 y2 y3 y4 y5 y6 y7 yr g1 g2 g3 g4 g5 g6 g7 tr o1 m1 p0 p1 n1 q0 q1 v1 v2 v3 v4 v5 v6 v7 v8 v9 v10 e1 e2 e3 e4 e5 e6 b0 b1 G hP U hTU => exact ⟨_, _, _, _, _, _, _, _, _, _, _, _, .tail _ (.tail _ (.head _)), hH⟩
theorem Inv.flying {w : World} {a : Ad} {i : Int} {P : PT} {nx : Led} {n : Nat} (h : Inv w a i P nx) (hn : ∀ r c u wl wu m0 ow ns ls, P r c u wl wu m0 ow ns ls → ns.length = n) : ∃ vs ns e, (a.fl, listOf vs.toArray e) ∈ nx ∧ IntsAre vs ns ∧ vs.length = n := by
  cases h with
  | mk bvs bns sd bt be be2 hbi hbl hbs oH rest clim o0 m0 over t1 t2 t3 t4 t5 o tt tt2 hH c1 c2 c3 cused c4 c5 k1 k2 k3 k4 k5 wlim got wused u1 u2 u3 u4 owes fvs ns fe hfi vs TL ls le hL y1 y2 y3 y4 y5 y6 y7 yr g1 g2 g3 g4 g5 g6 g7 tr o1 m1 p0 p1 n1 q0 q1 v1 v2 v3 v4 v5 v6 v7 v8 v9 v10 e1 e2 e3 e4 e5 e6 b0 b1 G hP U hTU => exact ⟨_, _, _, .tail _ (.tail _ (.tail _ (.tail _ (.tail _ (.tail _ (.tail _ (.head _))))))), hfi, hfi.length.trans (hn _ _ _ _ _ _ _ _ _ hP)⟩
theorem Inv.limits {w : World} {a : Ad} {i : Int} {P : PT} {nx : Led} {m : Nat} (h : Inv w a i P nx) (hn : ∀ r c u wl wu m0 ow ns ls, P r c u wl wu m0 ow ns ls → ls.length = m) : ∃ vs TL ls e, (a.li, listOf vs.toArray e) ∈ nx ∧ LimsAre vs TL ls ∧ SubL TL nx ∧ vs.length = m := by
  cases h with
  | mk bvs bns sd bt be be2 hbi hbl hbs oH rest clim o0 m0 over t1 t2 t3 t4 t5 o tt tt2 hH c1 c2 c3 cused c4 c5 k1 k2 k3 k4 k5 wlim got wused u1 u2 u3 u4 owes fvs ns fe hfi vs TL ls le hL y1 y2 y3 y4 y5 y6 y7 yr g1 g2 g3 g4 g5 g6 g7 tr o1 m1 p0 p1 n1 q0 q1 v1 v2 v3 v4 v5 v6 v7 v8 v9 v10 e1 e2 e3 e4 e5 e6 b0 b1 G hP U hTU => exact ⟨_, _, _, _, .tail _ (.tail _ (.tail _ (.tail _ (.tail _ (.tail _ (.tail _ (.tail _ (.head _)))))))), hL, fun q hq => (by (repeat (first | exact hTU q hq | refine List.mem_cons_of_mem _ ?_))), hL.len.trans (hn _ _ _ _ _ _ _ _ _ hP)⟩
theorem Inv.serverD {w : World} {a : Ad} {i : Int} {P : PT} {nx : Led} (h : Inv w a i P nx) : ∃ g1 g2 g3 g4 g5 g6 g7 tr, (a.sv, instObj 240 a.svD) ∈ nx ∧ (a.svD, sidsObj w g1 g2 g3 g4 g5 g6 g7 (Str.ofString "server") tr a.sOwn a.sPeer a.sOM a.sPM a.sTold a.sOwes) ∈ nx := by
  cases h with
  | mk bvs bns sd bt be be2 hbi hbl hbs oH rest clim o0 m0 over t1 t2 t3 t4 t5 o tt tt2 hH c1 c2 c3 cused c4 c5 k1 k2 k3 k4 k5 wlim got wused u1 u2 u3 u4 owes fvs ns fe hfi vs TL ls le hL y1 y2 y3 y4 y5 y6 y7 yr g1 g2 g3 g4 g5 g6 g7 tr o1 m1 p0 p1 n1 q0 q1 v1 v2 v3 v4 v5 v6 v7 v8 v9 v10 e1 e2 e3 e4 e5 e6 b0 b1 G hP U hTU => exact ⟨g1, g2, g3, g4, g5, g6, g7, tr, (by (repeat (first | exact .head _ | refine List.mem_cons_of_mem _ ?_))), (by (repeat (first | exact .head _ | refine List.mem_cons_of_mem _ ?_)))⟩
section
variable {w : World} {A : Around} {E : Value → Shared → Prop} {s : Shared} {h₀ : Heap} {L : Addr} {m : Str → Option Value} {news nx R : Led} {a : Ad} {i : Int} {P : PT} {e1 e2 : PySem.Expr} {u : Tok} {Q : Value → Shared → Prop}
theorem rd_flying (N : News h₀ L s.heap news) (hI : Inv w a i P nx) (hs : SubL nx news) (h : Q (.ref a.fl) { s with toks := s.toks + 1 })
    (hs9 : subscripted e2 false (.ref a.here) (.str (Str.ofString "flying") u) = operate [.ref a.here, .str (Str.ofString "flying") u] (getItem (.ref a.here) (.str (Str.ofString "flying") u)) := by with_unfolding_all rfl) (hg9 : ∀ r, letTemporaryGo e1 (.ref a.here) r = pure () := by intro _; with_unfolding_all rfl) : wpAny (model PySem.Challenge.rw_nz0345_01.row.prog w) A (subscriptTail e1 e2 (.ref a.here) (.str (Str.ofString "flying") u)) Q E s := by
  obtain ⟨oH, rest, clim, o0, m0, over, t1, t2, t3, t4, t5, tv, hm, hH⟩ := hI.hereD
  exact kda_item (knd := PySem.strKind _ _) N (hs _ hm) hH (strKind_is _ _ _ _) (by rfl) h hs9 hg9
theorem rd_limits (N : News h₀ L s.heap news) (hI : Inv w a i P nx) (hs : SubL nx news) (h : Q (.ref a.li) { s with toks := s.toks + 1 })
    (hs9 : subscripted e2 false (.ref a.here) (.str (Str.ofString "limits") u) = operate [.ref a.here, .str (Str.ofString "limits") u] (getItem (.ref a.here) (.str (Str.ofString "limits") u)) := by with_unfolding_all rfl) (hg9 : ∀ r, letTemporaryGo e1 (.ref a.here) r = pure () := by intro _; with_unfolding_all rfl) : wpAny (model PySem.Challenge.rw_nz0345_01.row.prog w) A (subscriptTail e1 e2 (.ref a.here) (.str (Str.ofString "limits") u)) Q E s := by
  obtain ⟨oH, rest, clim, o0, m0, over, t1, t2, t3, t4, t5, tv, hm, hH⟩ := hI.hereD
  exact kda_item (knd := PySem.strKind _ _) N (hs _ hm) hH (strKind_is _ _ _ _) (by rfl) h hs9 hg9
theorem rd_server (N : News h₀ L s.heap news) (hI : Inv w a i P nx) (hs : SubL nx news) (h : Q (.ref a.sv) { s with toks := s.toks + 1 })
    (hs9 : subscripted e2 false (.ref a.here) (.str (Str.ofString "server") u) = operate [.ref a.here, .str (Str.ofString "server") u] (getItem (.ref a.here) (.str (Str.ofString "server") u)) := by with_unfolding_all rfl) (hg9 : ∀ r, letTemporaryGo e1 (.ref a.here) r = pure () := by intro _; with_unfolding_all rfl) : wpAny (model PySem.Challenge.rw_nz0345_01.row.prog w) A (subscriptTail e1 e2 (.ref a.here) (.str (Str.ofString "server") u)) Q E s := by
  obtain ⟨oH, rest, clim, o0, m0, over, t1, t2, t3, t4, t5, tv, hm, hH⟩ := hI.hereD
  exact kda_item (knd := PySem.strKind _ _) N (hs _ hm) hH (strKind_is _ _ _ _) (by rfl) h hs9 hg9
theorem rd_client (N : News h₀ L s.heap news) (hI : Inv w a i P nx) (hs : SubL nx news) (h : Q (.ref a.cl) { s with toks := s.toks + 1 })
    (hs9 : subscripted e2 false (.ref a.here) (.str (Str.ofString "client") u) = operate [.ref a.here, .str (Str.ofString "client") u] (getItem (.ref a.here) (.str (Str.ofString "client") u)) := by with_unfolding_all rfl) (hg9 : ∀ r, letTemporaryGo e1 (.ref a.here) r = pure () := by intro _; with_unfolding_all rfl) : wpAny (model PySem.Challenge.rw_nz0345_01.row.prog w) A (subscriptTail e1 e2 (.ref a.here) (.str (Str.ofString "client") u)) Q E s := by
  obtain ⟨oH, rest, clim, o0, m0, over, t1, t2, t3, t4, t5, tv, hm, hH⟩ := hI.hereD
  exact kda_item (knd := PySem.strKind _ _) N (hs _ hm) hH (strKind_is _ _ _ _) (by rfl) h hs9 hg9
theorem rd_window (N : News h₀ L s.heap news) (hI : Inv w a i P nx) (hs : SubL nx news) (h : Q (.ref a.wi) { s with toks := s.toks + 1 })
    (hs9 : subscripted e2 false (.ref a.here) (.str (Str.ofString "window") u) = operate [.ref a.here, .str (Str.ofString "window") u] (getItem (.ref a.here) (.str (Str.ofString "window") u)) := by with_unfolding_all rfl) (hg9 : ∀ r, letTemporaryGo e1 (.ref a.here) r = pure () := by intro _; with_unfolding_all rfl) : wpAny (model PySem.Challenge.rw_nz0345_01.row.prog w) A (subscriptTail e1 e2 (.ref a.here) (.str (Str.ofString "window") u)) Q E s := by
  obtain ⟨oH, rest, clim, o0, m0, over, t1, t2, t3, t4, t5, tv, hm, hH⟩ := hI.hereD
  exact kda_item (knd := PySem.strKind _ _) N (hs _ hm) hH (strKind_is _ _ _ _) (by rfl) h hs9 hg9
theorem rd_credit (N : News h₀ L s.heap news) (hI : Inv w a i P nx) (hs : SubL nx news) (h : Q (.ref a.crI) { s with toks := s.toks + 1 })
    (hs9 : subscripted e2 false (.ref a.here) (.str (Str.ofString "credit") u) = operate [.ref a.here, .str (Str.ofString "credit") u] (getItem (.ref a.here) (.str (Str.ofString "credit") u)) := by with_unfolding_all rfl) (hg9 : ∀ r, letTemporaryGo e1 (.ref a.here) r = pure () := by intro _; with_unfolding_all rfl) : wpAny (model PySem.Challenge.rw_nz0345_01.row.prog w) A (subscriptTail e1 e2 (.ref a.here) (.str (Str.ofString "credit") u)) Q E s := by
  obtain ⟨oH, rest, clim, o0, m0, over, t1, t2, t3, t4, t5, tv, hm, hH⟩ := hI.hereD
  exact kda_item (knd := PySem.strKind _ _) N (hs _ hm) hH (strKind_is _ _ _ _) (by rfl) h hs9 hg9
theorem rd_serverM (N : News h₀ L s.heap news) (hI : Inv w a i P nx) (hs : SubL nx news) (h : ∀ g1 g2 g3 g4 g5 g6 g7 tr, (a.sv, instObj 240 a.svD) ∈ news → (a.svD, sidsObj w g1 g2 g3 g4 g5 g6 g7 (Str.ofString "server") tr a.sOwn a.sPeer a.sOM a.sPM a.sTold a.sOwes) ∈ news → Q (.ref a.sv) { s with toks := s.toks + 1 })
    (hs9 : subscripted e2 false (.ref a.here) (.str (Str.ofString "server") u) = operate [.ref a.here, .str (Str.ofString "server") u] (getItem (.ref a.here) (.str (Str.ofString "server") u)) := by with_unfolding_all rfl) (hg9 : ∀ r, letTemporaryGo e1 (.ref a.here) r = pure () := by intro _; with_unfolding_all rfl) : wpAny (model PySem.Challenge.rw_nz0345_01.row.prog w) A (subscriptTail e1 e2 (.ref a.here) (.str (Str.ofString "server") u)) Q E s := by
  obtain ⟨g1, g2, g3, g4, g5, g6, g7, tr, k1, k2⟩ := hI.serverD
  exact rd_server N hI hs (h g1 g2 g3 g4 g5 g6 g7 tr (hs _ k1) (hs _ k2)) hs9 hg9
theorem rd_over (N : News h₀ L s.heap news) (hI : Inv w a i P nx) (hs : SubL nx news) (h : ∀ v t, Q (.int v t) { s with toks := s.toks + 1 })
    (hs9 : subscripted e2 false (.ref a.here) (.str (Str.ofString "over") u) = operate [.ref a.here, .str (Str.ofString "over") u] (getItem (.ref a.here) (.str (Str.ofString "over") u)) := by with_unfolding_all rfl) (hg9 : ∀ r, letTemporaryGo e1 (.ref a.here) r = pure () := by intro _; with_unfolding_all rfl) : wpAny (model PySem.Challenge.rw_nz0345_01.row.prog w) A (subscriptTail e1 e2 (.ref a.here) (.str (Str.ofString "over") u)) Q E s := by
  obtain ⟨oH, rest, clim, o0, m0, over, t1, t2, t3, t4, t5, tv, hm, hH⟩ := hI.hereD
  exact kda_item (knd := PySem.strKind _ _) N (hs _ hm) hH (strKind_is _ _ _ _) (by rfl) (h _ _) hs9 hg9
theorem rd_many (N : News h₀ L s.heap news) (hI : Inv w a i P nx) (hs : SubL nx news) (h : ∀ v t, Q (.int v t) { s with toks := s.toks + 1 })
    (hs9 : subscripted e2 false (.ref a.here) (.str (Str.ofString "many") u) = operate [.ref a.here, .str (Str.ofString "many") u] (getItem (.ref a.here) (.str (Str.ofString "many") u)) := by with_unfolding_all rfl) (hg9 : ∀ r, letTemporaryGo e1 (.ref a.here) r = pure () := by intro _; with_unfolding_all rfl) : wpAny (model PySem.Challenge.rw_nz0345_01.row.prog w) A (subscriptTail e1 e2 (.ref a.here) (.str (Str.ofString "many") u)) Q E s := by
  obtain ⟨oH, rest, clim, o0, m0, over, t1, t2, t3, t4, t5, tv, hm, hH⟩ := hI.hereD
  exact kda_item (knd := PySem.strKind _ _) N (hs _ hm) hH (strKind_is _ _ _ _) (by rfl) (h _ _) hs9 hg9
theorem rd_rest (N : News h₀ L s.heap news) (hI : Inv w a i P nx) (hs : SubL nx news) (h : ∀ v t, Q (.int v t) { s with toks := s.toks + 1 })
    (hs9 : subscripted e2 false (.ref a.here) (.str (Str.ofString "rest") u) = operate [.ref a.here, .str (Str.ofString "rest") u] (getItem (.ref a.here) (.str (Str.ofString "rest") u)) := by with_unfolding_all rfl) (hg9 : ∀ r, letTemporaryGo e1 (.ref a.here) r = pure () := by intro _; with_unfolding_all rfl) : wpAny (model PySem.Challenge.rw_nz0345_01.row.prog w) A (subscriptTail e1 e2 (.ref a.here) (.str (Str.ofString "rest") u)) Q E s := by
  obtain ⟨oH, rest, clim, o0, m0, over, t1, t2, t3, t4, t5, tv, hm, hH⟩ := hI.hereD
  exact kda_item (knd := PySem.strKind _ _) N (hs _ hm) hH (strKind_is _ _ _ _) (by rfl) (h _ _) hs9 hg9
theorem set_overI {v : Int} {t : Tok} {Q' : Unit → Shared → Prop} (F : Fr h₀ L s.heap m) (N : News h₀ L s.heap (nx ++ R)) (O : Dis2 (nx.map (·.1)) R) (hI : Inv w a i P nx)
    (h : ∀ h' nx', Fr h₀ L h' m → News h₀ L h' (nx' ++ R) → Dis2 (nx'.map (·.1)) R → Inv w a i P nx' → Q' () { s with heap := h', toks := s.toks + 1 }) : wpAny (model PySem.Challenge.rw_nz0345_01.row.prog w) A (setItem (.ref a.here) (.str (Str.ofString "over") u) (.int v t)) Q' E s := by
  cases hI with
  | mk bvs bns sd bt be be2 hbi hbl hbs oH rest clim o0 m0 over t1 t2 t3 t4 t5 o tt tt2 hH c1 c2 c3 cused c4 c5 k1 k2 k3 k4 k5 wlim got wused u1 u2 u3 u4 owes fvs ns fe hfi vs TL ls le hL y1 y2 y3 y4 y5 y6 y7 yr g1 g2 g3 g4 g5 g6 g7 tr o1 m1 p0 p1 n1 q0 q1 v1 v2 v3 v4 v5 v6 v7 v8 v9 v10 e1 e2 e3 e4 e5 e6 b0 b1 G hP U hTU =>
    refine kda_set (knd := PySem.strKind _ _) F N (AtF.upd O List.map_append (.tail (.tail .head))) hH (strKind_is _ _ _ _) (by rw [sizeLine_eq]; exact Nat.le_of_ble_eq_true (by with_unfolding_all rfl)) ?_
    intro h' o' F' N' hd'
    rw [st_over] at hd'
    refine h h' _ F' ?_ ?_ (Inv.mk bvs bns sd bt be be2 hbi hbl hbs o' rest clim o0 m0 v t1 t2 t3 t4 t o tt tt2 hd' c1 c2 c3 cused c4 c5 k1 k2 k3 k4 k5 wlim got wused u1 u2 u3 u4 owes fvs ns fe hfi vs TL ls le hL y1 y2 y3 y4 y5 y6 y7 yr g1 g2 g3 g4 g5 g6 g7 tr o1 m1 p0 p1 n1 q0 q1 v1 v2 v3 v4 v5 v6 v7 v8 v9 v10 e1 e2 e3 e4 e5 e6 b0 b1 G hP U hTU)
    · exact N'
    · exact O
end
theorem Spec.useI {w : World} {dp un : Nat} {f : Addr} {args : List Value} {nx : Led} {post : Value → Led → Prop} (S : Spec w dp un f args nx [] post)
    {A : Around} {p : Program} {loose : List Str} {mean : ExcName → Option Value} {mg mb : Str → Option Value} {cn : Str} {cs : Scope} {a : Addr} {ccd : Value} {cl : List (Str × Addr)} {outer : List Env} {A₀ : Around} {base h₀ : Heap} {L : Addr} {m : Str → Option Value} {news R : Led} {s : Shared} {Q E : Value → Shared → Prop}
    (hA : A.handled = none) (hf : A.frames = some (envX cn cs L a ccd cl :: outer)) (hd : A.depth ≤ dp) (hu : A.units ≤ un)
    (B : Below A₀ base outer h₀) (F : Fr h₀ L s.heap m) (X : (K9 w.params).In h₀) (N : News h₀ L s.heap news) (O : Dis2 (nx.map (·.1)) R) (hs : SubL (nx ++ R) news) (T : Top p loose mean mg mb h₀) (hk : cs.kind = .function)
    (h : ∀ r led h' tk', Fr h₀ L h' m → News h₀ L h' (led ++ R) → Dis2 (led.map (·.1)) R → post r led → Q r { s with heap := h', toks := tk' }) :
    wpAny (model PySem.Challenge.rw_nz0345_01.row.prog w) A (call (.ref f) args) Q E s :=
  wpAny_weaken (S p loose mean mg mb A.guards cn cs a ccd cl outer A₀ base h₀ L m R s Q E B F X (News.subL N hs) O (fun _ h => nomatch h) T hk h) hA hd hf rfl hu
section
variable {prog : Program} {w : World} {A : Around} {E : Value → Shared → Prop} {s : Shared} {h₀ : Heap} {L : Addr} {m : Str → Option Value} {news nx R : Led} {a : Ad} {i : Int} {P : PT} {Q : Value → Shared → Prop} {n : Nat} {l2 : Addr} {e : Nat}
theorem ne_flyI (N : News h₀ L s.heap news) (hI : Inv w a i P nx) (hn : ∀ r c u wl wu m0 ow ns ls, P r c u wl wu m0 ow ns ls → ns.length = n) (hs : SubL nx news) (h2 : (l2, listOf #[] e) ∈ news) (hu : A.units + 64 < cLine)
    (h : Q (.bool (decide (0 < (n : Int)))) s) : wpAny (model prog w) A (compareOp .NotEq (.ref a.fl) (.ref l2)) Q E s := by
  obtain ⟨vs, ns, e', hm, hi, rfl⟩ := hI.flying hn
  exact ne_ints_len N (hs _ hm) hi h2 hu h
theorem ne_limI (N : News h₀ L s.heap news) (hI : Inv w a i P nx) (hn : ∀ r c u wl wu m0 ow ns ls, P r c u wl wu m0 ow ns ls → ls.length = n) (hs : SubL nx news) (h2 : (l2, listOf #[] e) ∈ news) (hu : A.units + 64 < cLine)
    (h : Q (.bool (decide (0 < (n : Int)))) s) : wpAny (model prog w) A (compareOp .NotEq (.ref a.li) (.ref l2)) Q E s := by
  obtain ⟨vs, T, ls, e', hm, hi, hT, rfl⟩ := hI.limits hn
  exact ne_lims_len N (hs _ hm) hi (fun q hq => hs q (hT q hq)) h2 hu h
theorem len_flyI (N : News h₀ L s.heap news) (hI : Inv w a i P nx) (hn : ∀ r c u wl wu m0 ow ns ls, P r c u wl wu m0 ow ns ls → ns.length = n) (hs : SubL nx news) (hz : n ≤ 1000)
    (h : Q (.int (n : Int) (s.toks + 1)) { s with toks := s.toks + 1 + 1 }) : wpAny (model prog w) A (call (.builtin "len") [.ref a.fl]) Q E s := by
  obtain ⟨vs, ns, e', hm, hi, rfl⟩ := hI.flying hn
  exact len_n N (hs _ hm) hz h
theorem len_limI (N : News h₀ L s.heap news) (hI : Inv w a i P nx) (hn : ∀ r c u wl wu m0 ow ns ls, P r c u wl wu m0 ow ns ls → ls.length = n) (hs : SubL nx news) (hz : n ≤ 1000)
    (h : Q (.int (n : Int) (s.toks + 1)) { s with toks := s.toks + 1 + 1 }) : wpAny (model prog w) A (call (.builtin "len") [.ref a.li]) Q E s := by
  obtain ⟨vs, T, ls, e', hm, hi, hT, rfl⟩ := hI.limits hn
  exact len_n N (hs _ hm) hz h
end
abbrev PA : PT := fun _ _ _ _ _ _ _ _ _ => True
abbrev PL (n m : Nat) : PT := fun _ _ _ _ _ _ _ ns ls => True ∧ ns.length = n ∧ ls.length = m
theorem heardGI (w : World) (a : Ad) (i : Int) (P : PT) (nx : Led) (hI : Inv w a i P nx) (hi1 : i ≤ 60) (at_ : Int) (ta : Tok) (kept : Bool) (ha : 0 ≤ at_)
    (hlen : ∀ rest clim cused wlim wused m0 owes ns ls, P rest clim cused wlim wused m0 owes ns ls → at_ < (ls.length : Int)) :
    Spec w 500 500 293 [.ref a.here, .int at_ ta, .bool kept] nx [] (fun r led => r = .bool true ∧ Inv w a i PA led) := by
  cases kept with
  | false => exact heardI w a i P PA nx hI hi1 at_ ta ha hlen (fun _ _ _ _ _ _ _ _ _ _ _ _ _ _ _ _ _ _ _ _ => trivial)
  | true => exact heardKI w a i P PA nx hI hi1 at_ ta ha hlen (fun _ _ _ _ _ _ _ _ _ _ _ _ _ _ _ _ _ _ _ _ => trivial)
local macro_rules | `(tactic| k_updF) => `(tactic| ((with_reducible show SubL _ _); first | exact SubL.refl | exact fun _ h => List.mem_append.mpr (.inl h) | (refine SubL.skip ?_; k_updF)))
theorem lines18 : True := by
  k_with "call ref" => ((k_here; (with_reducible show wpAny _ _ (call (Value.ref 258) _ _) _ _ _); (with_reducible rename Inv _ _ _ _ _ => hI9); (with_reducible rename Dis2 _ _ => kO9); k_dflt (refine' Spec.useI (takeI _ _ _ _ _ _ hI9 ?i9 _ _ ?hw ?hw2 (fun _ _ _ _ _ _ _ _ _ h => h)) ?zA ?zf ?zd ?zu ?zB ?zF ?zX ?zN kO9 ?zs ?zT ?zk ?_; (case zA => exact rfl); (case zf => exact rfl); (case zd => exact Nat.le_of_ble_eq_true rfl); (case zu => exact Nat.le_of_ble_eq_true rfl); (case zF => k_asm); (case zB => k_asm); (case zX => k_asm); (case zN => k_asm); (case zT => k_asm); (case zk => first | exact rfl | assumption); (case zs => k_updF); (case i9 => omega); (case hw => decide); (case hw2 => decide); skip); intro r' led' h' tk' F' N' O' hp'; (try clear kO9 hI9); obtain ⟨⟨v', t', hr', hlo', hhi'⟩, hI'⟩ := hp'; subst hr'; (try k_sweep)))
  k_with "call ref" => ((k_here; (with_reducible show wpAny _ _ (call (Value.ref 265) _ _) _ _ _); (with_reducible rename Inv _ _ _ _ _ => hI9); (with_reducible rename Dis2 _ _ => kO9); k_dflt (refine' Spec.useI (sentI _ _ _ _ PA _ hI9 ?i9 _ _ ?hk (fun _ _ _ _ _ _ _ _ _ _ _ _ _ _ _ _ _ _ _ => trivial)) ?zA ?zf ?zd ?zu ?zB ?zF ?zX ?zN kO9 ?zs ?zT ?zk ?_; (case zA => exact rfl); (case zf => exact rfl); (case zd => exact Nat.le_of_ble_eq_true rfl); (case zu => exact Nat.le_of_ble_eq_true rfl); (case zF => k_asm); (case zB => k_asm); (case zX => k_asm); (case zN => k_asm); (case zT => k_asm); (case zk => first | exact rfl | assumption); (case zs => k_updF); (case i9 => omega); (case hk => omega); skip); intro r' led' h' tk' F' N' O' hp'; (try clear kO9 hI9); obtain ⟨hr', hI'⟩ := hp'; subst hr'; (try k_sweep)))
  k_with "call ref" => ((k_here; (with_reducible show wpAny _ _ (call (Value.ref 272) _ _) _ _ _); (with_reducible rename Inv _ _ _ _ _ => hI9); (with_reducible rename Dis2 _ _ => kO9); k_dflt (refine' Spec.useI (cameI _ _ _ _ PA _ hI9 ?i9 _ _ ?ha (fun _ _ _ _ _ _ _ _ _ h => ?hl) (fun _ _ _ _ _ _ _ _ _ _ => trivial)) ?zA ?zf ?zd ?zu ?zB ?zF ?zX ?zN kO9 ?zs ?zT ?zk ?_; (case zA => exact rfl); (case zf => exact rfl); (case zd => exact Nat.le_of_ble_eq_true rfl); (case zu => exact Nat.le_of_ble_eq_true rfl); (case zF => k_asm); (case zB => k_asm); (case zX => k_asm); (case zN => k_asm); (case zT => k_asm); (case zk => first | exact rfl | assumption); (case zs => k_updF); (case i9 => omega); (case ha => omega); (case hl => (have h1 := h.2.1; omega)); skip); intro r' led' h' tk' F' N' O' hp'; (try clear kO9 hI9); obtain ⟨hr', hI'⟩ := hp'; subst hr'; (try k_sweep)))
  k_with "call ref" => ((k_here; (with_reducible show wpAny _ _ (call (Value.ref 279) _ _) _ _ _); (with_reducible rename Inv _ _ _ _ _ => hI9); (with_reducible rename Dis2 _ _ => kO9); k_dflt (refine' Spec.useI (readI _ _ _ _ PA _ hI9 ?i9 _ _ ?hk (fun _ _ _ _ _ _ _ _ _ _ _ _ _ _ _ _ _ => trivial)) ?zA ?zf ?zd ?zu ?zB ?zF ?zX ?zN kO9 ?zs ?zT ?zk ?_; (case zA => exact rfl); (case zf => exact rfl); (case zd => exact Nat.le_of_ble_eq_true rfl); (case zu => exact Nat.le_of_ble_eq_true rfl); (case zF => k_asm); (case zB => k_asm); (case zX => k_asm); (case zN => k_asm); (case zT => k_asm); (case zk => first | exact rfl | assumption); (case zs => k_updF); (case i9 => omega); (case hk => omega); skip); intro r' led' h' tk' F' N' O' hp'; (try clear kO9 hI9); obtain ⟨hr', hI'⟩ := hp'; subst hr'; (try k_sweep)))
  k_with "call ref" => ((k_here; (with_reducible show wpAny _ _ (call (Value.ref 286) _ _) _ _ _); (with_reducible rename Inv _ _ _ _ _ => hI9); (with_reducible rename Dis2 _ _ => kO9); k_dflt (refine' Spec.useI (toldI _ _ _ _ PA _ hI9 ?i9 (fun _ _ _ _ _ _ _ _ _ _ _ _ _ _ _ _ _ _ _ _ => trivial)) ?zA ?zf ?zd ?zu ?zB ?zF ?zX ?zN kO9 ?zs ?zT ?zk ?_; (case zA => exact rfl); (case zf => exact rfl); (case zd => exact Nat.le_of_ble_eq_true rfl); (case zu => exact Nat.le_of_ble_eq_true rfl); (case zF => k_asm); (case zB => k_asm); (case zX => k_asm); (case zN => k_asm); (case zT => k_asm); (case zk => first | exact rfl | assumption); (case zs => k_updF); (case i9 => omega); skip); intro r' led' h' tk' F' N' O' hp'; (try clear kO9 hI9); obtain ⟨hr', hI'⟩ := hp'; subst hr'; (try k_sweep)))
  k_with "call ref" => ((k_here; (with_reducible show wpAny _ _ (call (Value.ref 223) _ _) _ _ _); (with_reducible rename Inv _ _ _ _ _ => hI9); (with_reducible rename Dis2 _ _ => kO9); k_dflt (refine' Spec.useI (closedI _ _ _ _ PA _ hI9 ?i9 _ _ ?hs (fun _ _ _ _ _ _ _ _ _ _ => trivial)) ?zA ?zf ?zd ?zu ?zB ?zF ?zX ?zN kO9 ?zs ?zT ?zk ?_; (case zA => exact rfl); (case zf => exact rfl); (case zd => exact Nat.le_of_ble_eq_true rfl); (case zu => exact Nat.le_of_ble_eq_true rfl); (case zF => k_asm); (case zB => k_asm); (case zX => k_asm); (case zN => k_asm); (case zT => k_asm); (case zk => first | exact rfl | assumption); (case zs => k_updF); (case i9 => omega); (case hs => omega); skip); intro r' led' h' tk' F' N' O' hp'; (try clear kO9 hI9); obtain ⟨hr', hI'⟩ := hp'; subst hr'; (try k_sweep)))
  k_with "call ref" => ((k_here; (with_reducible show wpAny _ _ (call (Value.ref 307) _ _) _ _ _); (with_reducible rename Inv _ _ _ _ _ => hI9); (with_reducible rename Dis2 _ _ => kO9); k_dflt (refine' Spec.useI (blockedI _ _ _ _ PA _ hI9 ?i9 _ (fun _ _ _ _ _ _ _ _ _ _ => trivial)) ?zA ?zf ?zd ?zu ?zB ?zF ?zX ?zN kO9 ?zs ?zT ?zk ?_; (case zA => exact rfl); (case zf => exact rfl); (case zd => exact Nat.le_of_ble_eq_true rfl); (case zu => exact Nat.le_of_ble_eq_true rfl); (case zF => k_asm); (case zB => k_asm); (case zX => k_asm); (case zN => k_asm); (case zT => k_asm); (case zk => first | exact rfl | assumption); (case zs => k_updF); (case i9 => omega); skip); intro r' led' h' tk' F' N' O' hp'; (try clear kO9 hI9); obtain ⟨hr', hI'⟩ := hp'; subst hr'; (try k_sweep)))
  k_with "call ref" => ((k_here; (with_reducible show wpAny _ _ (call (Value.ref 314) _ _) _ _ _); (with_reducible rename Inv _ _ _ _ _ => hI9); (with_reducible rename Dis2 _ _ => kO9); k_dflt (refine' Spec.useI (openedI _ _ _ _ PA _ hI9 ?i9 (fun _ _ _ _ _ _ _ _ _ _ _ => trivial)) ?zA ?zf ?zd ?zu ?zB ?zF ?zX ?zN kO9 ?zs ?zT ?zk ?_; (case zA => exact rfl); (case zf => exact rfl); (case zd => exact Nat.le_of_ble_eq_true rfl); (case zu => exact Nat.le_of_ble_eq_true rfl); (case zF => k_asm); (case zB => k_asm); (case zX => k_asm); (case zN => k_asm); (case zT => k_asm); (case zk => first | exact rfl | assumption); (case zs => k_updF); (case i9 => omega); skip); intro r' led' h' tk' F' N' O' hp'; (try clear kO9 hI9); obtain ⟨hr', hI'⟩ := hp'; subst hr'; (try k_sweep)))
  k_with "call ref" => ((k_here; (with_reducible show wpAny _ _ (call (Value.ref 300) _ _) _ _ _); (with_reducible rename Inv _ _ _ _ _ => hI9); (with_reducible rename Dis2 _ _ => kO9); k_dflt (refine' Spec.useI (lostI _ _ _ _ PA _ hI9 ?i9 _ _ ?ha (fun _ _ _ _ _ _ _ _ _ h => ?hl) (fun _ _ _ _ _ _ _ _ _ _ _ _ => trivial)) ?zA ?zf ?zd ?zu ?zB ?zF ?zX ?zN kO9 ?zs ?zT ?zk ?_; (case zA => exact rfl); (case zf => exact rfl); (case zd => exact Nat.le_of_ble_eq_true rfl); (case zu => exact Nat.le_of_ble_eq_true rfl); (case zF => k_asm); (case zB => k_asm); (case zX => k_asm); (case zN => k_asm); (case zT => k_asm); (case zk => first | exact rfl | assumption); (case zs => k_updF); (case i9 => omega); (case ha => omega); (case hl => (have h1 := h.2.2; omega)); skip); intro r' led' h' tk' F' N' O' hp'; (try clear kO9 hI9); obtain ⟨hr', hI'⟩ := hp'; subst hr'; (try k_sweep)))
  k_with "call ref" => ((k_here; (with_reducible show wpAny _ _ (call (Value.ref 293) _ _) _ _ _); (with_reducible rename Inv _ _ _ _ _ => hI9); (with_reducible rename Dis2 _ _ => kO9); k_dflt (refine' Spec.useI (heardGI _ _ _ _  _ hI9 ?i9 _ _ _ ?ha (fun _ _ _ _ _ _ _ _ _ h => ?hl)) ?zA ?zf ?zd ?zu ?zB ?zF ?zX ?zN kO9 ?zs ?zT ?zk ?_; (case zA => exact rfl); (case zf => exact rfl); (case zd => exact Nat.le_of_ble_eq_true rfl); (case zu => exact Nat.le_of_ble_eq_true rfl); (case zF => k_asm); (case zB => k_asm); (case zX => k_asm); (case zN => k_asm); (case zT => k_asm); (case zk => first | exact rfl | assumption); (case zs => k_updF); (case i9 => omega); (case ha => omega); (case hl => (have h1 := h.2.2; omega)); skip); intro r' led' h' tk' F' N' O' hp'; (try clear kO9 hI9); obtain ⟨hr', hI'⟩ := hp'; subst hr'; (try k_sweep)))
  k_with "subscriptTail" => ((k_here; (with_reducible show wpAny _ _ (subscriptTail _ _ (Value.ref _) (Value.str (Str.ofString "flying") _)) _ _ _); (with_reducible rename Inv _ _ _ _ _ => hI9); k_dflt (refine' rd_flying ?rN hI9 ?rs ?_; (case rN => k_asm); (case rs => k_updF)); (try k_sweep)))
  k_with "subscriptTail" => ((k_here; (with_reducible show wpAny _ _ (subscriptTail _ _ (Value.ref _) (Value.str (Str.ofString "limits") _)) _ _ _); (with_reducible rename Inv _ _ _ _ _ => hI9); k_dflt (refine' rd_limits ?rN hI9 ?rs ?_; (case rN => k_asm); (case rs => k_updF)); (try k_sweep)))
  k_with "subscriptTail" => ((k_here; (with_reducible show wpAny _ _ (subscriptTail _ _ (Value.ref _) (Value.str (Str.ofString "server") _)) _ _ _); (with_reducible rename Inv _ _ _ _ _ => hI9); k_dflt (refine' rd_server ?rN hI9 ?rs ?_; (case rN => k_asm); (case rs => k_updF)); (try k_sweep)))
  k_with "subscriptTail" => ((k_here; (with_reducible show wpAny _ _ (subscriptTail _ _ (Value.ref _) (Value.str (Str.ofString "client") _)) _ _ _); (with_reducible rename Inv _ _ _ _ _ => hI9); k_dflt (refine' rd_client ?rN hI9 ?rs ?_; (case rN => k_asm); (case rs => k_updF)); (try k_sweep)))
  k_with "subscriptTail" => ((k_here; (with_reducible show wpAny _ _ (subscriptTail _ _ (Value.ref _) (Value.str (Str.ofString "window") _)) _ _ _); (with_reducible rename Inv _ _ _ _ _ => hI9); k_dflt (refine' rd_window ?rN hI9 ?rs ?_; (case rN => k_asm); (case rs => k_updF)); (try k_sweep)))
  k_with "subscriptTail" => ((k_here; (with_reducible show wpAny _ _ (subscriptTail _ _ (Value.ref _) (Value.str (Str.ofString "credit") _)) _ _ _); (with_reducible rename Inv _ _ _ _ _ => hI9); k_dflt (refine' rd_credit ?rN hI9 ?rs ?_; (case rN => k_asm); (case rs => k_updF)); (try k_sweep)))
  k_with "subscriptTail" => ((k_here; (with_reducible show wpAny _ _ (subscriptTail _ _ (Value.ref _) (Value.str (Str.ofString "over") _)) _ _ _); (with_reducible rename Inv _ _ _ _ _ => hI9); k_dflt (refine' rd_over ?rN hI9 ?rs ?_; (case rN => k_asm); (case rs => k_updF)); intro v' t'; (try k_sweep)))
  k_with "subscriptTail" => ((k_here; (with_reducible show wpAny _ _ (subscriptTail _ _ (Value.ref _) (Value.str (Str.ofString "many") _)) _ _ _); (with_reducible rename Inv _ _ _ _ _ => hI9); k_dflt (refine' rd_many ?rN hI9 ?rs ?_; (case rN => k_asm); (case rs => k_updF)); intro v' t'; (try k_sweep)))
  k_with "subscriptTail" => ((k_here; (with_reducible show wpAny _ _ (subscriptTail _ _ (Value.ref _) (Value.str (Str.ofString "rest") _)) _ _ _); (with_reducible rename Inv _ _ _ _ _ => hI9); k_dflt (refine' rd_rest ?rN hI9 ?rs ?_; (case rN => k_asm); (case rs => k_updF)); intro v' t'; (try k_sweep)))
  k_with "subscriptTail" => ((k_here; (with_reducible show wpAny _ _ (subscriptTail _ _ (Value.ref _) (Value.str (Str.ofString "server") _)) _ _ _); (with_reducible rename Inv _ _ _ _ _ => hI9); k_dflt (refine' rd_serverM ?rN hI9 ?rs ?_; (case rN => k_asm); (case rs => k_updF)); intro g1' g2' g3' g4' g5' g6' g7' tr' hm1' hm2'; (try k_sweep)))
  k_with "setItem ref str" => ((k_here; (with_reducible rename Inv _ _ _ _ _ => hI9); (with_reducible rename Dis2 _ _ => kO9); k_dflt (refine' set_overI ?rF ?rN kO9 hI9 ?_; (case rF => k_asm); (case rN => k_asm)); intro h' nx' F' N' O' hI'; (try clear kO9 hI9); (try k_sweep)))
  k_with "compareOp NotEq ref ref" => ((k_here; (with_reducible rename Inv _ _ _ _ _ => hI9); k_dflt (first   | (refine' ne_flyI ?rN hI9 (fun _ _ _ _ _ _ _ _ _ h => h.2.1) ?rs ?r2 ?ru ?_; (case rN => k_asm); (case rs => k_updF); (case r2 => k_mem); (case ru => ke_room))   | (refine' ne_limI ?sN hI9 (fun _ _ _ _ _ _ _ _ _ h => h.2.2) ?ss ?s2 ?su ?_; (case sN => k_asm); (case ss => k_updF); (case s2 => k_mem); (case su => ke_room)))))
  k_with "call builtin:len" => ((k_here; (with_reducible rename Inv _ _ _ _ _ => hI9); k_dflt (first   | (refine' len_flyI ?rN hI9 (fun _ _ _ _ _ _ _ _ _ h => h.2.1) ?rs ?rz ?_; (case rN => k_asm); (case rs => k_updF); (case rz => omega))   | (refine' len_limI ?sN hI9 (fun _ _ _ _ _ _ _ _ _ h => h.2.2) ?ss ?sz ?_; (case sN => k_asm); (case ss => k_updF); (case sz => omega)))))
  k_with "binaryOp Mod int int" => ((k_here; (with_reducible rename Inv _ _ _ _ _ => hI9); k_dflt (refine' mod_n ?b ?_; (case b => first | decide | omega)); intro j' tj' tk' hlo' hhi'; (try k_sweep)))
  exact True.intro
theorem off29 : True := by
  w_top off
  exact True.intro
theorem stepI (w : World) (a : Ad) (i : Int) (nx : Led) (hI : Inv w a i PA nx) (hi0 : 0 ≤ i) (hi1 : i ≤ 50) :
    Spec w 400 400 321 [.ref a.box, .ref a.here] nx [] (fun r led => r = .bool true ∧ Inv w a (i + 1) PA led) := by
  obtain ⟨n, m, hn, hm, hI⟩ := hI.len
  have hn0 : (0 : Int) ≤ n := Int.natCast_nonneg n
  have hm0 : (0 : Int) ≤ m := Int.natCast_nonneg m
  unfold Spec
  k_fill
  intro p loose mean mg mb gd cn cs fa ccd cll outer A₀ base h₀ L m₀ R s Q E B F X N O hro T hcs hret
  refine wpAny_call ?_
  k_dflt ktr_enter
  (rename Fr _ _ _ _ => kFF)
  replace kFF : Fr _ _ _ (fun y => List.lookup y [(Str.ofString "here", .ref a.here), (Str.ofString "box", .ref a.box)]) := kFF
  k_steps
  all_goals (
    (with_reducible rename Inv _ _ _ _ _ => hI9)
    (with_reducible rename Dis2 _ _ => kO9)
    (rename News _ _ _ _ => kN)
    (rename Fr _ _ _ _ => kFr)
    (refine' hret _ _ _ _ kFr (News.subL kN ?s) kO9 ⟨rfl, Inv.mono hI9 ?i (fun _ _ _ _ _ _ _ _ _ _ => trivial)⟩)
    (case s => k_updF)
    (case i => omega))
section
variable {prog : Program} {w : World} {A : Around} {E : Value → Shared → Prop} {s : Shared} {env : Env} {h₀ : Heap} {x : Str} {body : List Stmt} {Q : Flow → Shared → Prop}
/-- the end of a loop's turn: the ledger's part that is the loop's says J, the rest stands -/
def EndI (h₀ : Heap) (L : Addr) (x : Str) (m₀ : Str → Option Value) (J : Led → Prop) (own : Led) (s₁ s₂ : Shared) : Prop :=
  ∃ h' tk m' nx, s₂ = { s₁ with heap := h', toks := tk } ∧ Fr h₀ L h' m' ∧ News h₀ L h' (nx ++ own) ∧ Dis2 (nx.map (·.1)) own ∧ J nx ∧ ∀ z, z ≠ x → m' z = m₀ z
def PostI (h₀ : Heap) (L : Addr) (x : Str) (m₀ : Str → Option Value) (J : Led → Prop) (own : Led) (s₁ : Shared) (Q : Flow → Shared → Prop) (f : Flow) (s₂ : Shared) : Prop :=
  match f with
  | .ret v => Q (.ret v) s₂
  | .brk => Q .next s₂
  | _ => EndI h₀ L x m₀ J own s₁ s₂
theorem EndI.intro {L : Addr} {m₀ m' : Str → Option Value} {J : Led → Prop} {own nx : Led} {s₁ : Shared} {h' : Heap} {tk : Nat} (F : Fr h₀ L h' m') (N : News h₀ L h' (nx ++ own)) (O : Dis2 (nx.map (·.1)) own) (hJ : J nx) (hm : ∀ z, z ≠ x → m' z = m₀ z) :
    EndI h₀ L x m₀ J own s₁ { s₁ with heap := h', toks := tk } := ⟨h', tk, m', nx, rfl, F, N, O, hJ, hm⟩
theorem iter_rangeI {r : Addr} {a₀ b₀ : Int} {t₀ u₀ v₀ : Tok} {n : Nat} {m₀ : Str → Option Value} {news : Led} (J : Nat → Led → Prop)
    (hh : A.handled = none) (hr : IsRange s.heap r a₀ b₀ 1 t₀ u₀ v₀) (hsmall : Builtin.Range.small a₀ b₀ 1 = true) (hn : Builtin.Range.rangeSize a₀ b₀ 1 = (n : Int)) (F : Fr h₀ env.locals s.heap m₀) (N : News h₀ env.locals s.heap news) (hD : (news.map (·.1)).Nodup) (hj : J 0 news)
    (turn : ∀ (i : Nat) v nx h tk own, i < n → Dis2 (nx.map (·.1)) own → J i nx → Fr h₀ env.locals h (fun z => if z = x then some v else m₀ z) → News h₀ env.locals h (nx ++ own) →
      wpAny (model prog w) A (execs body env) (PostI h₀ env.locals x m₀ (J (i + 1)) own { s with heap := h, toks := tk } Q) E { s with heap := h, toks := tk })
    (done : ∀ (u : Str → Option Value) nx h tk, (nx.map (·.1)).Nodup → J n nx → Fr h₀ env.locals h (fun z => if z = x then u z else m₀ z) → News h₀ env.locals h nx → Q .next { s with heap := h, toks := tk }) :
    wpAny (model prog w) A (pyIter (.ref r)) (fun it s₂ => LoopAtV prog w A h₀ env x body Q E it s₂) E s := by
  refine wpAny_pyIter_range hr hsmall ?_
  have W : Walks prog w A s.heap.objs.size [s.heap.objs.size] [s.heap.objs.size] n (fun i v => i < n ∧ ∃ t, v = .int (a₀ + i * 1) t)
      (fun i h => IsRangeIter h s.heap.objs.size (a₀ + (i : Nat) * 1) ((n : Int) - (i : Nat)) 1) := (Walks.range hh _ a₀ 1 n).bound
  refine ⟨_, _, _, n, _, _, m₀, news, fun i m nx => (J i nx ∧ (nx.map (·.1)).Nodup) ∧ ∀ z, z ≠ x → m z = m₀ z, rfl, W, ?_, ?_, ?_, ?_, F.push _, (fun p hp => ⟨Heap.get?_push_of_some _ (N p hp).1, (N p hp).2⟩), ⟨⟨hj, hD⟩, fun _ _ => rfl⟩, ?_, ?_⟩
  · intro hm
    exact absurd F.ns.lt ((List.mem_singleton.mp hm) ▸ Nat.lt_irrefl _)
  · intro b hb
    rw [List.mem_singleton.mp hb]
    exact next_is_new F
  · intro p hp hI
    exact absurd (Heap.lt_size (N p hp).1) ((List.mem_singleton.mp hI) ▸ Nat.lt_irrefl _)
  · show IsRangeIter _ _ _ _ _
    rw [hn]
    simpa using Heap.get?_push_size _ rfl
  · rintro i v m₁ news₁ s₁ own ⟨hh', tk', rfl⟩ hin hP ⟨⟨hJ, hDn⟩, hm⟩ hoff hown _ hall hst F₁ N₁
    have hsep : OwnOff own (news₁.map (·.1)) := by
      intro p hp b hb e
      obtain ⟨q, hq, rfl⟩ := List.mem_map.mp hb
      exact hoff q hq (e ▸ hown p hp)
    have N₂ : News h₀ env.locals hh' (news₁ ++ own) := fun p hp => N₁ p ((List.mem_append.mp hp).elim (fun h => List.mem_append.mpr (.inr h)) fun h => List.mem_append.mpr (.inl h))
    rw [map_none hm] at F₁
    refine wpAny_mono (turn i v news₁ hh' tk' own hin ⟨hDn, hsep⟩ hJ F₁ N₂) (fun f s₂ p => ?_) fun _ _ e => e
    have hin' : ∃ o, (s.heap.objs.size, o) ∈ own := ⟨_, hall _ (.head _) (next_is_new F) _ hst⟩
    have fin : EndI h₀ env.locals x m₀ (J (i + 1)) own { s with heap := hh', toks := tk' } s₂ → LoopStepU h₀ env.locals [s.heap.objs.size] own (fun m nx => (J (i + 1) nx ∧ (nx.map (·.1)).Nodup) ∧ ∀ z, z ≠ x → m z = m₀ z) { s with heap := hh', toks := tk' } .next s₂ := by
      rintro ⟨h', tk, m', nx, e, F', N', ho, hJ', hm'⟩
      refine ⟨rfl, h', tk, m', nx, e, F', fun p hp => N' p ((List.mem_append.mp hp).elim (fun h => List.mem_append.mpr (.inr h)) fun h => List.mem_append.mpr (.inl h)), fun p hp hq => ?_, ⟨hJ', ho.1⟩, hm'⟩
      obtain ⟨o, hio⟩ := hin'
      exact ho.2 _ hio p.1 (List.mem_map.mpr ⟨p, hp, rfl⟩) (List.mem_singleton.mp hq).symm
    cases f with
    | ret v => exact .ret p
    | brk => exact .brk p
    | next => exact .next (fin p)
    | cont => exact .cont (fin p)
  · rintro h' tk m' news' F' N' _ ⟨⟨hJ, hDn⟩, hm⟩
    refine done m' news' h' tk hDn hJ ?_ N'
    rw [done_none hm]; exact F'
/-- the end of a while's turn -/
def WEnd (h₀ : Heap) (L : Addr) (m₀ : Str → Option Value) (J : Nat → Led → Prop) (own : Led) (s : Shared) (n : Nat) (s₃ : Shared) : Prop :=
  ∃ h' tk nx n', s₃ = { s with heap := h', toks := tk } ∧ Fr h₀ L h' m₀ ∧ News h₀ L h' (nx ++ own) ∧ Dis2 (nx.map (·.1)) own ∧ n' < n ∧ J n' nx
def WPost (h₀ : Heap) (L : Addr) (m₀ : Str → Option Value) (J : Nat → Led → Prop) (own : Led) (s : Shared) (Q : Flow → Shared → Prop) (n : Nat) (f : Flow) (s₃ : Shared) : Prop :=
  match f with
  | .ret v => Q (.ret v) s₃
  | .brk => Q .next s₃
  | _ => WEnd h₀ L m₀ J own s n s₃
theorem WEnd.intro {L : Addr} {m₀ : Str → Option Value} {J : Nat → Led → Prop} {own nx : Led} {s : Shared} {n n' : Nat} {h' : Heap} {tk : Nat} (F : Fr h₀ L h' m₀) (N : News h₀ L h' (nx ++ own)) (O : Dis2 (nx.map (·.1)) own) (hn : n' < n) (hJ : J n' nx) :
    WEnd h₀ L m₀ J own s n { s with heap := h', toks := tk } := ⟨h', tk, nx, n', rfl, F, N, O, hn, hJ⟩
theorem while_I {test : PySem.Expr} {pos : PySem.Pos} {m₀ : Str → Option Value} {nx₀ own : Led} {L : Addr} (J : Nat → Led → Prop) (n₀ : Nat)
    (F : Fr h₀ L s.heap m₀) (N : News h₀ L s.heap (nx₀ ++ own)) (O : Dis2 (nx₀.map (·.1)) own) (hJ : J n₀ nx₀)
    (turn : ∀ n nx h tk, Dis2 (nx.map (·.1)) own → J n nx → Fr h₀ L h m₀ → News h₀ L h (nx ++ own) →
      wpAny (model prog w) A (isTrue test env (eval test env)) (fun b s₂ =>
        if b = true then wpAny (model prog w) A (execs body env) (WPost h₀ L m₀ J own s Q n) E s₂ else Q .next s₂) E { s with heap := h, toks := tk })
    (hE : PassesOwn (model prog w) A env E := by passes_own) :
    wpAny (model prog w) A (exec (.While test body [] pos) env) Q E s := by
  refine While_inv2 (fun n m nx => m = m₀ ∧ ∃ nx₁, nx = nx₁ ++ own ∧ Dis2 (nx₁.map (·.1)) own ∧ J n nx₁) F N ⟨rfl, nx₀, rfl, O, hJ⟩ ?_ hE
  rintro n m₁ nx h tk F₁ N₁ ⟨rfl, nx₁, rfl, O₁, J₁⟩
  refine wpAny_mono (turn n nx₁ h tk O₁ J₁ F₁ N₁) (fun b s₂ p => ?_) fun _ _ x => x
  cases b with
  | false => simpa using p
  | true =>
    simp only [if_true] at p ⊢
    refine wpAny_mono p (fun f s₃ q => ?_) fun _ _ x => x
    cases f with
    | ret v => exact q
    | brk => exact q
    | next =>
      obtain ⟨h', tk', nx', n', rfl, F', N', O', hn, hJ'⟩ := q
      exact ⟨h', tk', m₁, nx' ++ own, n', rfl, F', N', hn, rfl, nx', rfl, O', hJ'⟩
    | cont =>
      obtain ⟨h', tk', nx', n', rfl, F', N', O', hn, hJ'⟩ := q
      exact ⟨h', tk', m₁, nx' ++ own, n', rfl, F', N', hn, rfl, nx', rfl, O', hJ'⟩
end
def PF (rest clim cused wlim wused m0 : Int) (owes : Bool) (ns : List Int) (ls : List (Bool × Int)) : Prop := rest = 0 ∧ wused = cused
def P1 (r n : Nat) (rest clim cused wlim wused m0 : Int) (owes : Bool) (ns : List Int) (ls : List (Bool × Int)) : Prop := ns.length = n ∧ (rest = 0 ∨ rest + (r : Int) + 1 ≤ 26) ∧ m0 ≤ 40
def P2 (r n : Nat) (rest clim cused wlim wused m0 : Int) (owes : Bool) (ns : List Int) (ls : List (Bool × Int)) : Prop := ls.length = n ∧ (rest = 0 ∨ rest + (r : Int) + 1 ≤ 26) ∧ m0 ≤ 40 ∧ ns = [] ∧ wused = cused ∧ 1 ≤ wlim - wused ∧ owes = false
def PR (r : Nat) (rest clim cused wlim wused m0 : Int) (owes : Bool) (ns : List Int) (ls : List (Bool × Int)) : Prop := r = 0 ∨ (wused = cused ∧ 1 ≤ clim - cused ∧ (rest = 0 ∨ rest + (r : Int) ≤ 26))
section
variable {i size rest clim cused wlim got wused : Int} {owes : Bool} {ns : List Int} {ls : List (Bool × Int)} {o0 m0 q0 p0 : Int}
theorem p1_sent {r : Nat} {j : Int} {ns' : List Int} (G : Good 40 size rest clim cused wlim got wused owes ns ls o0 m0 q0 p0) (h : PR r rest clim cused wlim wused m0 owes ns ls) (hj : j = min 99 (min (clim - cused) rest)) :
    P1 r ns'.length (rest - j) clim (cused + j) wlim wused m0 owes ns' ls := by
  obtain ⟨a1, a2, a3, a4, a5, a6, a7, a8, a9, a10, a11, a12, a13, a14, a15, a16, a17, a18⟩ := G
  have := sum_nonneg' a6
  refine ⟨rfl, ?_, a16⟩
  rcases h with h | ⟨h1, h2, h3⟩
  · subst h
    exact .inr (by simp only [Int.natCast_zero]; omega)
  · rcases h3 with h | h
    · exact .inl (by omega)
    · by_cases h0 : rest = 0
      · exact .inl (by omega)
      · exact .inr (by omega)
theorem p1_came {r n : Nat} {ns' : List Int} (h : P1 r n rest clim cused wlim wused m0 owes ns ls) : P1 r ns'.length rest clim cused wlim wused m0 owes ns' ls := ⟨rfl, h.2.1, h.2.2⟩
theorem p2_told {r n : Nat} {j wlim' : Int} {owes' : Bool} {d g : List (Bool × Int)} (G : Good i size rest clim cused wlim got wused owes ns ls o0 m0 q0 p0) (h : P1 r n rest clim cused wlim wused m0 owes ns ls) (hn : ns = []) (hj : j = min 99 (got - wused))
    (hl : NextLimit size wlim (wused + j) owes wlim' owes' d) : P2 r (ls ++ (d ++ g)).length rest clim cused wlim' (wused + j) m0 owes' ns (ls ++ (d ++ g)) := by
  subst hn
  obtain ⟨a1, a2, a3, a4, a5, a6, a7, a8, a9, a10, a11, a12, a13, a14, a15, a16, a17, a18⟩ := G
  rw [List.sum_nil] at a5
  refine ⟨rfl, h.2.1, h.2.2, rfl, by omega, ?_, ?_⟩
  · rcases hl with ⟨h1, h2, h3, h4, _⟩ | ⟨h1, h2, h3, _⟩
    · omega
    · split at h3 <;> omega
  · rcases hl with ⟨h1, h2, h3, h4, _⟩ | ⟨h1, h2, h3, _⟩
    · rw [h4, h1]
    · exact h2
theorem p2_heard {r n : Nat} {clim' : Int} {ls' : List (Bool × Int)} (h : P2 r n rest clim cused wlim wused m0 owes ns ls) : P2 r ls'.length rest clim' cused wlim wused m0 owes ns ls' := ⟨rfl, h.2⟩
theorem pr_next {r n : Nat} (G : Good i size rest clim cused wlim got wused owes ns ls o0 m0 q0 p0) (h : P2 r n rest clim cused wlim wused m0 owes ns ls) (hl : ls = []) : PR (r + 1) rest clim cused wlim wused m0 owes ns ls := by
  subst hl
  obtain ⟨_, h1, _, _, h3, h4, h5⟩ := h
  have h6 : wlim = clim := by
    rcases G.known with h | h | h
    · exact h
    · rw [h5] at h; cases h
    · cases h
  exact .inr ⟨h3, by omega, by rcases h1 with h | h; exact .inl h; exact .inr (by simp only [Int.natCast_add]; omega)⟩
theorem Good.resetL {r n : Nat} (G : Good i size rest clim cused wlim got wused owes ns ls o0 m0 q0 p0) (h : P2 r n rest clim cused wlim wused m0 owes ns ls) (hl : ls = []) : Good 40 size rest clim cused wlim got wused owes ns ls o0 m0 q0 p0 := by
  obtain ⟨_, _, h2, h3, _⟩ := h
  subst hl h3
  exact G.reset h2 (by decide)
end
theorem len_nil {vs : List Value} {ns : List Int} (h : IntsAre vs ns) (h0 : ¬ 0 < (vs.length : Int)) : ns = [] := by
  have := h.length
  exact List.length_eq_zero_iff.mp (by omega)
theorem LimsAre.nil_of {vs : List Value} {T : Led} {ls : List (Bool × Int)} (h : LimsAre vs T ls) (h0 : ¬ 0 < (vs.length : Int)) : ls = [] := by
  have := h.len
  exact List.length_eq_zero_iff.mp (by omega)
theorem lt_cut {α : Type} {ns : List α} {k n : Nat} (h : ns.length = n) (hk : k < ns.length) : (ns.take k ++ ns.drop (k + 1)).length < n := by
  have := len_cut_lt ns k hk
  omega
theorem Good.start {size rest st : Int} (h0 : 0 ≤ rest) (h1 : rest ≤ 25) (h2 : 1 ≤ size) (h3 : 0 ≤ st) : Good 0 size rest size 0 size 0 0 false [] [] st 0 st st :=
  ⟨h0, by omega, by omega, by omega, by simp, (fun _ h => nomatch h), by omega, by omega, h2, .inl rfl, (fun _ h => nomatch h), (fun _ h => nomatch h), by omega, by omega, by omega, by omega, by simp, by simp⟩
theorem Inv.imp {w : World} {a : Ad} {i : Int} {P P' : PT} {nx : Led} (h : Inv w a i P nx) (hP' : ∀ {rest clim cused wlim got wused owes ns ls o0 m0 q0 p0}, Good i a.size rest clim cused wlim got wused owes ns ls o0 m0 q0 p0 → P rest clim cused wlim wused m0 owes ns ls → P' rest clim cused wlim wused m0 owes ns ls) : Inv w a i P' nx := by
  cases h with
  | mk bvs bns sd bt be be2 hbi hbl hbs oH rest clim o0 m0 over t1 t2 t3 t4 t5 o tt tt2 hH c1 c2 c3 cused c4 c5 k1 k2 k3 k4 k5 wlim got wused u1 u2 u3 u4 owes fvs ns fe hfi vs TL ls le hL y1 y2 y3 y4 y5 y6 y7 yr g1 g2 g3 g4 g5 g6 g7 tr o1 m1 p0 p1 n1 q0 q1 v1 v2 v3 v4 v5 v6 v7 v8 v9 v10 e1 e2 e3 e4 e5 e6 b0 b1 G hP U hTU => exact Inv.mk bvs bns sd bt be be2 hbi hbl hbs oH rest clim o0 m0 over t1 t2 t3 t4 t5 o tt tt2 hH c1 c2 c3 cused c4 c5 k1 k2 k3 k4 k5 wlim got wused u1 u2 u3 u4 owes fvs ns fe hfi vs TL ls le hL y1 y2 y3 y4 y5 y6 y7 yr g1 g2 g3 g4 g5 g6 g7 tr o1 m1 p0 p1 n1 q0 q1 v1 v2 v3 v4 v5 v6 v7 v8 v9 v10 e1 e2 e3 e4 e5 e6 b0 b1 G (hP' G hP) U hTU
theorem Inv.resetI {w : World} {a : Ad} {i : Int} {r n : Nat} {nx : Led} (h : Inv w a i (P2 r n) nx) (hn : n = 0) : Inv w a 40 (PR (r + 1)) nx := by
  cases h with
  | mk bvs bns sd bt be be2 hbi hbl hbs oH rest clim o0 m0 over t1 t2 t3 t4 t5 o tt tt2 hH c1 c2 c3 cused c4 c5 k1 k2 k3 k4 k5 wlim got wused u1 u2 u3 u4 owes fvs ns fe hfi vs TL ls le hL y1 y2 y3 y4 y5 y6 y7 yr g1 g2 g3 g4 g5 g6 g7 tr o1 m1 p0 p1 n1 q0 q1 v1 v2 v3 v4 v5 v6 v7 v8 v9 v10 e1 e2 e3 e4 e5 e6 b0 b1 G hP U hTU =>
    have hl : ls = [] := List.length_eq_zero_iff.mp (hP.1.trans hn)
    exact Inv.mk bvs bns sd bt be be2 hbi hbl hbs oH rest clim o0 m0 over t1 t2 t3 t4 t5 o tt tt2 hH c1 c2 c3 cused c4 c5 k1 k2 k3 k4 k5 wlim got wused u1 u2 u3 u4 owes fvs ns fe hfi vs TL ls le hL y1 y2 y3 y4 y5 y6 y7 yr g1 g2 g3 g4 g5 g6 g7 tr o1 m1 p0 p1 n1 q0 q1 v1 v2 v3 v4 v5 v6 v7 v8 v9 v10 e1 e2 e3 e4 e5 e6 b0 b1 (Good.resetL G hP hl) (pr_next G hP hl) U hTU
section
variable {prog : Program} {w : World} {A : Around} {E : Value → Shared → Prop} {s : Shared} {env : Env} {h₀ : Heap} {x : Str} {body : List Stmt} {Q : Flow → Shared → Prop}
variable {a : Ad}
theorem iterI1 {rr : Addr} {b₀ : Int} {t₀ u₀ v₀ : Tok} {m₀ : Str → Option Value} {nx₀ : Led}
    (hh : A.handled = none) (hr : IsRange s.heap rr 0 b₀ 1 t₀ u₀ v₀) (hb : b₀ ≤ 28) (hb0 : 0 ≤ b₀) (F : Fr h₀ env.locals s.heap m₀) (N : News h₀ env.locals s.heap nx₀) (hD : (nx₀.map (·.1)).Nodup) (hI : Inv w a 0 PA nx₀)
    (turn : ∀ (i : Int) v nx h tk own, 0 ≤ i → i ≤ 50 → Dis2 (nx.map (·.1)) own → Inv w a i PA nx → Fr h₀ env.locals h (fun z => if z = x then some v else m₀ z) → News h₀ env.locals h (nx ++ own) →
      wpAny (model prog w) A (execs body env) (PostI h₀ env.locals x m₀ (fun nx => Inv w a (i + 1) PA nx) own { s with heap := h, toks := tk } Q) E { s with heap := h, toks := tk })
    (done : ∀ (u : Str → Option Value) nx h tk, (nx.map (·.1)).Nodup → Inv w a 40 (PR 0) nx → Fr h₀ env.locals h (fun z => if z = x then u z else m₀ z) → News h₀ env.locals h nx → Q .next { s with heap := h, toks := tk }) :
    wpAny (model prog w) A (pyIter (.ref rr)) (fun it s₂ => LoopAtV prog w A h₀ env x body Q E it s₂) E s := by
  refine iter_rangeI (n := (b₀ - 0).toNat) (fun (i : Nat) nx => Inv w a (i : Int) PA nx) hh hr (small_one (by decide) (by decide) (by omega) (by omega)) (rangeSize_nat _ _) F N hD hI ?_ ?_
  · intro i v nx h tk own hi hO hJ F' N'
    exact turn (i : Int) v nx h tk own (by omega) (by omega) hO hJ F' N'
  · intro u nx h tk hDn hJ F' N'
    exact done u nx h tk hDn (hJ.mono (by omega) fun _ _ _ _ _ _ _ _ _ _ => .inl rfl) F' N'
theorem iterI2 {rr : Addr} {t₀ u₀ v₀ : Tok} {m₀ : Str → Option Value} {nx₀ : Led}
    (hh : A.handled = none) (hr : IsRange s.heap rr 0 30 1 t₀ u₀ v₀) (F : Fr h₀ env.locals s.heap m₀) (N : News h₀ env.locals s.heap nx₀) (hD : (nx₀.map (·.1)).Nodup) (hI : Inv w a 40 (PR 0) nx₀)
    (turn : ∀ (r : Nat) v nx h tk own, Dis2 (nx.map (·.1)) own → Inv w a 40 (PR r) nx → Fr h₀ env.locals h (fun z => if z = x then some v else m₀ z) → News h₀ env.locals h (nx ++ own) →
      wpAny (model prog w) A (execs body env) (PostI h₀ env.locals x m₀ (fun nx => Inv w a 40 (PR (r + 1)) nx) own { s with heap := h, toks := tk } Q) E { s with heap := h, toks := tk })
    (done : ∀ (u : Str → Option Value) nx h tk, (nx.map (·.1)).Nodup → Inv w a 40 PF nx → Fr h₀ env.locals h (fun z => if z = x then u z else m₀ z) → News h₀ env.locals h nx → Q .next { s with heap := h, toks := tk }) :
    wpAny (model prog w) A (pyIter (.ref rr)) (fun it s₂ => LoopAtV prog w A h₀ env x body Q E it s₂) E s := by
  refine iter_rangeI (n := 30) (fun (r : Nat) nx => Inv w a 40 (PR r) nx) hh hr (by decide) (by decide) F N hD hI ?_ ?_
  · intro r v nx h tk own hi hO hJ F' N'
    exact turn r v nx h tk own hO hJ F' N'
  · intro u nx h tk hDn hJ F' N'
    refine done u nx h tk hDn (hJ.imp fun G hP => ?_) F' N'
    have h0 := G.rest0
    rcases hP with h | ⟨h1, h2, h3⟩
    · omega
    · exact ⟨by omega, h1⟩
theorem whileI {test : PySem.Expr} {pos : PySem.Pos} {m₀ : Str → Option Value} {nx₀ own : Led} {L : Addr} {i : Int} (P : Nat → PT) (n₀ : Nat)
    (F : Fr h₀ L s.heap m₀) (N : News h₀ L s.heap (nx₀ ++ own)) (O : Dis2 (nx₀.map (·.1)) own) (hI : Inv w a i (P n₀) nx₀)
    (turn : ∀ n nx h tk, Dis2 (nx.map (·.1)) own → Inv w a i (P n) nx → Fr h₀ L h m₀ → News h₀ L h (nx ++ own) →
      wpAny (model prog w) A (isTrue test env (eval test env)) (fun b s₂ =>
        if b = true then wpAny (model prog w) A (execs body env) (WPost h₀ L m₀ (fun n nx => Inv w a i (P n) nx) own s Q n) E s₂ else Q .next s₂) E { s with heap := h, toks := tk })
    (hE : PassesOwn (model prog w) A env E := by passes_own) :
    wpAny (model prog w) A (exec (.While test body [] pos) env) Q E s :=
  while_I (fun n nx => Inv w a i (P n) nx) n₀ F N O hI turn hE
end
theorem Inv.start {w : World} {box items here crD crI wiD wi fl li clD cl cOwn cPeer cOM cPM cTold cOwes svD sv sOwn sPeer sOM sPM sTold sOwes : Nat} {size : Int} {bvs : List Value} {bns : List Int} {sd : Int} {bt : Tok} {be be2 : Nat} {oH : Obj} {rest st : Int} {t1 t2 t3 t4 t5 : Tok} {c1 c2 c3 c4 c5 k1 k2 k3 k4 k5 u1 u2 u3 u4 : Tok} {fe le : Nat} {y1 y2 y3 y4 y5 y6 y7 yr g1 g2 g3 g4 g5 g6 g7 tr v1 v2 v3 v4 v5 v6 v7 v8 v9 v10 : Tok} {e1 e2 e3 e4 e5 e6 : Nat}
    (hH : HereIs w oH (hereKvs crI wi fl li cl sv rest size st 0 0 t1 t2 t3 t4 t5 .none)) (hbi : IntsAre bvs bns) (hbl : bvs.length ≤ 40) (hbs : 0 ≤ sd ∧ sd < 2147483647) (hr0 : 0 ≤ rest) (hr1 : rest ≤ 25) (hsz : 1 ≤ size) (hst : 0 ≤ st) :
    Inv w ⟨box, items, here, crD, crI, wiD, wi, fl, li, clD, cl, cOwn, cPeer, cOM, cPM, cTold, cOwes, svD, sv, sOwn, sPeer, sOM, sPM, sTold, sOwes, size⟩ 0 PA
      [(box, listOf #[.ref items, .int sd bt] be), (items, listOf bvs.toArray be2), (here, oH), (crD, creditObj w c1 c2 c3 size 0 c4 c5 .none), (crI, instObj 86 crD), (wiD, windowObj w k1 k2 k3 k4 k5 size size 0 0 u1 u2 u3 u4 false), (wi, instObj 135 wiD), (fl, listOf #[] fe), (li, listOf #[] le), (clD, sidsObj w y1 y2 y3 y4 y5 y6 y7 (Str.ofString "client") yr cOwn cPeer cOM cPM cTold cOwes), (cl, instObj 240 clD), (cOwn, two st 0 v1 v2 e1), (cOM, two 0 0 v3 v4 e2), (svD, sidsObj w g1 g2 g3 g4 g5 g6 g7 (Str.ofString "server") tr sOwn sPeer sOM sPM sTold sOwes), (sv, instObj 240 svD), (sPeer, two st 0 v5 v6 e3), (sPM, two 0 0 v7 v8 e4), (sTold, two st 0 v9 v10 e5), (sOwes, twoB false false e6)] :=
  Inv.mk (a := ⟨box, items, here, crD, crI, wiD, wi, fl, li, clD, cl, cOwn, cPeer, cOM, cPM, cTold, cOwes, svD, sv, sOwn, sPeer, sOM, sPM, sTold, sOwes, size⟩) bvs bns sd bt be be2 hbi hbl hbs oH rest size st 0 0 t1 t2 t3 t4 t5 none 0 0 hH c1 c2 c3 0 c4 c5 k1 k2 k3 k4 k5 size 0 0 u1 u2 u3 u4 false [] [] fe .nil [] [] [] le .nil y1 y2 y3 y4 y5 y6 y7 yr g1 g2 g3 g4 g5 g6 g7 tr 0 0 st 0 0 st 0 v1 v2 v3 v4 v5 v6 v7 v8 v9 v10 e1 e2 e3 e4 e5 e6 false false (Good.start hr0 hr1 hsz hst) trivial [] SubL.nil
theorem Spec.imp {w : World} {dp un : Nat} {f : Addr} {args : List Value} {pre ro : Led} {post post' : Value → Led → Prop} (S : Spec w dp un f args pre ro post) (h : ∀ r led, post r led → post' r led) : Spec w dp un f args pre ro post' :=
  fun p loose mean mg mb gd cn cs a ccd cl outer A₀ base h₀ L m R s Q E B F X N O hro T hk hq => S p loose mean mg mb gd cn cs a ccd cl outer A₀ base h₀ L m R s Q E B F X N O hro T hk fun r led h' tk' F' N' O' hp => hq r led h' tk' F' N' O' (h r led hp)
theorem Inv.ex {w : World} {a : Ad} {i : Int} {P : Nat → PT} {nx : Led} {C : Nat → Prop} (h : Inv w a i (fun rest clim cused wlim wused m0 owes ns ls => ∃ n, C n ∧ P n rest clim cused wlim wused m0 owes ns ls) nx) : ∃ n, C n ∧ Inv w a i (P n) nx := by
  cases h with
  | mk bvs bns sd bt be be2 hbi hbl hbs oH rest clim o0 m0 over t1 t2 t3 t4 t5 o tt tt2 hH c1 c2 c3 cused c4 c5 k1 k2 k3 k4 k5 wlim got wused u1 u2 u3 u4 owes fvs ns fe hfi vs TL ls le hL y1 y2 y3 y4 y5 y6 y7 yr g1 g2 g3 g4 g5 g6 g7 tr o1 m1 p0 p1 n1 q0 q1 v1 v2 v3 v4 v5 v6 v7 v8 v9 v10 e1 e2 e3 e4 e5 e6 b0 b1 G hP U hTU =>
    obtain ⟨n, hc, hp⟩ := hP
    exact ⟨n, hc, Inv.mk bvs bns sd bt be be2 hbi hbl hbs oH rest clim o0 m0 over t1 t2 t3 t4 t5 o tt tt2 hH c1 c2 c3 cused c4 c5 k1 k2 k3 k4 k5 wlim got wused u1 u2 u3 u4 owes fvs ns fe hfi vs TL ls le hL y1 y2 y3 y4 y5 y6 y7 yr g1 g2 g3 g4 g5 g6 g7 tr o1 m1 p0 p1 n1 q0 q1 v1 v2 v3 v4 v5 v6 v7 v8 v9 v10 e1 e2 e3 e4 e5 e6 b0 b1 G hp U hTU⟩
def PQ (r : Nat) (rest clim cused wlim wused m0 : Int) (owes : Bool) (ns : List Int) (ls : List (Bool × Int)) : Prop := ns = [] ∧ (rest = 0 ∨ rest + (r : Int) + 1 ≤ 26) ∧ m0 ≤ 40 ∧ wused = cused
theorem sentR (w : World) (a : Ad) (r : Nat) (nx : Led) (hI : Inv w a 40 (PR r) nx) (tk : Tok) :
    Spec w 500 500 265 [.ref a.here, .int 99 tk] nx [] (fun v led => v = .none ∧ ∃ n, True ∧ Inv w a 41 (P1 r n) led) :=
  (sentI w a 40 (PR r) (fun rest clim cused wlim wused m0 owes ns ls => ∃ n, True ∧ P1 r n rest clim cused wlim wused m0 owes ns ls) nx hI (by decide) 99 tk (by decide)
    fun _ _ _ _ _ _ _ _ _ _ _ _ _ _ ns' G h hj _ => ⟨ns'.length, trivial, p1_sent G h hj⟩).imp fun _ _ h => ⟨h.1, h.2.ex⟩
theorem cameR (w : World) (a : Ad) (r n : Nat) (nx : Led) (hI : Inv w a 41 (P1 r n) nx) (h0 : 0 < (n : Int)) (ta : Tok) :
    Spec w 500 500 272 [.ref a.here, .int 0 ta] nx [] (fun v led => v = .none ∧ ∃ n', n' < n ∧ Inv w a 41 (P1 r n') led) :=
  (cameI w a 41 (P1 r n) (fun rest clim cused wlim wused m0 owes ns ls => ∃ n', n' < n ∧ P1 r n' rest clim cused wlim wused m0 owes ns ls) nx hI (by decide) 0 ta (by decide) (fun _ _ _ _ _ _ _ _ _ h => by have := h.1; omega)
    fun _ _ _ _ _ _ _ ns _ h => ⟨_, lt_cut h.1 (by have := h.1; simp only [Int.toNat_zero]; omega), p1_came h⟩).imp fun _ _ h => ⟨h.1, h.2.ex⟩
theorem readR (w : World) (a : Ad) (r n : Nat) (nx : Led) (hI : Inv w a 41 (P1 r n) nx) (h0 : ¬ 0 < (n : Int)) (tk : Tok) :
    Spec w 500 500 279 [.ref a.here, .int 99 tk] nx [] (fun v led => v = .none ∧ Inv w a 41 (PQ r) led) :=
  readI w a 41 (P1 r n) (PQ r) nx hI (by decide) 99 tk (by decide) fun rest clim cused wlim got wused owes ns ls o0 m0 q0 p0 j G h hj => by
    obtain ⟨h1, h2, h3⟩ := h
    have hn : ns = [] := List.length_eq_zero_iff.mp (by omega)
    subst hn
    have a1 := G.rest0
    have a2 := G.total
    have a5 := G.flew
    have a7 := G.wu0
    have a8 := G.wug
    rw [List.sum_nil] at a5
    exact ⟨rfl, h2, h3, by omega⟩
theorem toldR (w : World) (a : Ad) (r : Nat) (nx : Led) (hI : Inv w a 41 (PQ r) nx) :
    Spec w 500 500 286 [.ref a.here] nx [] (fun v led => v = .none ∧ ∃ n, True ∧ Inv w a 42 (P2 r n) led) :=
  (toldI w a 41 (PQ r) (fun rest clim cused wlim wused m0 owes ns ls => ∃ n, True ∧ P2 r n rest clim cused wlim wused m0 owes ns ls) nx hI (by decide)
    fun rest clim cused wlim got wused owes ns ls o0 m0 q0 p0 wlim' owes' d g G h hl => by
      obtain ⟨h1, h2, h3, h4⟩ := h
      have b3 := G.room
      have b4 := G.told
      have b9 := G.size1
      refine ⟨_, trivial, rfl, h2, h3, h1, h4, ?_, ?_⟩
      · rcases hl with ⟨h1, h2, h3, h4, _⟩ | ⟨h1, h2, h3, _⟩
        · omega
        · split at h3 <;> omega
      · rcases hl with ⟨h1, h2, h3, h4, _⟩ | ⟨h1, h2, h3, _⟩
        · rw [h4, h1]
        · exact h2).imp fun _ _ h => ⟨h.1, h.2.ex⟩
theorem heardR (w : World) (a : Ad) (r n : Nat) (nx : Led) (hI : Inv w a 42 (P2 r n) nx) (h0 : 0 < (n : Int)) (ta : Tok) :
    Spec w 500 500 293 [.ref a.here, .int ((n : Int) - 1) ta, .bool false] nx [] (fun v led => v = .bool true ∧ ∃ n', n' < n ∧ Inv w a 42 (P2 r n') led) :=
  (heardI w a 42 (P2 r n) (fun rest clim cused wlim wused m0 owes ns ls => ∃ n', n' < n ∧ P2 r n' rest clim cused wlim wused m0 owes ns ls) nx hI (by decide) _ ta (by omega) (fun _ _ _ _ _ _ _ _ _ h => by have := h.1; omega)
    fun _ _ _ _ _ _ _ _ ls _ _ _ _ _ _ _ _ h _ _ => ⟨_, lt_cut h.1 (by have := h.1; omega), p2_heard h⟩).imp fun _ _ h => ⟨h.1, h.2.ex⟩
theorem Inv.n2 {w : World} {a : Ad} {r n : Nat} {nx : Led} (h : Inv w a 42 (P2 r n) nx) : n ≤ 1000 := by
  cases h with
  | mk bvs bns sd bt be be2 hbi hbl hbs oH rest clim o0 m0 over t1 t2 t3 t4 t5 o tt tt2 hH c1 c2 c3 cused c4 c5 k1 k2 k3 k4 k5 wlim got wused u1 u2 u3 u4 owes fvs ns fe hfi vs TL ls le hL y1 y2 y3 y4 y5 y6 y7 yr g1 g2 g3 g4 g5 g6 g7 tr o1 m1 p0 p1 n1 q0 q1 v1 v2 v3 v4 v5 v6 v7 v8 v9 v10 e1 e2 e3 e4 e5 e6 b0 b1 G hP U hTU =>
    have h1 := G.lsl
    have h2 := hP.1
    omega
theorem Inv.fin {w : World} {a : Ad} {nx : Led} (h : Inv w a 40 PF nx) : ∃ oH clim o0 m0 over t1 t2 t3 t4 t5 tv used k1 k2 k3 k4 k5 wlim got u1 u2 u3 u4 owes c1 c2 c3 c4 c5 cb, (a.here, oH) ∈ nx ∧ HereIs w oH (hereKvs a.crI a.wi a.fl a.li a.cl a.sv 0 clim o0 m0 over t1 t2 t3 t4 t5 tv) ∧ (a.wi, instObj 135 a.wiD) ∈ nx ∧ (a.wiD, windowObj w k1 k2 k3 k4 k5 a.size wlim got used u1 u2 u3 u4 owes) ∈ nx ∧ (a.crI, instObj 86 a.crD) ∈ nx ∧ (a.crD, creditObj w c1 c2 c3 clim used c4 c5 cb) ∈ nx := by
  cases h with
  | mk bvs bns sd bt be be2 hbi hbl hbs oH rest clim o0 m0 over t1 t2 t3 t4 t5 o tt tt2 hH c1 c2 c3 cused c4 c5 k1 k2 k3 k4 k5 wlim got wused u1 u2 u3 u4 owes fvs ns fe hfi vs TL ls le hL y1 y2 y3 y4 y5 y6 y7 yr g1 g2 g3 g4 g5 g6 g7 tr o1 m1 p0 p1 n1 q0 q1 v1 v2 v3 v4 v5 v6 v7 v8 v9 v10 e1 e2 e3 e4 e5 e6 b0 b1 G hP U hTU =>
    obtain ⟨h1, h2⟩ := hP
    subst h1 h2
    refine ⟨oH, clim, o0, m0, over, t1, t2, t3, t4, t5, optV o tt, wused, k1, k2, k3, k4, k5, wlim, got, u1, u2, u3, u4, owes, c1, c2, c3, c4, c5, optV o tt2, ?_, hH, ?_, ?_, ?_, ?_⟩ <;> (repeat (first | exact .head _ | refine List.mem_cons_of_mem _ ?_))
theorem rd_rest0 {w : World} {A : Around} {E : Value → Shared → Prop} {s : Shared} {h₀ : Heap} {L : Addr} {news nx : Led} {a : Ad} {e1 e2 : PySem.Expr} {u : Tok} {Q : Value → Shared → Prop} (N : News h₀ L s.heap news) (hI : Inv w a 40 PF nx) (hs : SubL nx news) (h : ∀ t, Q (.int 0 t) { s with toks := s.toks + 1 })
    (hs9 : subscripted e2 false (.ref a.here) (.str (Str.ofString "rest") u) = operate [.ref a.here, .str (Str.ofString "rest") u] (getItem (.ref a.here) (.str (Str.ofString "rest") u)) := by with_unfolding_all rfl) (hg9 : ∀ r, letTemporaryGo e1 (.ref a.here) r = pure () := by intro _; with_unfolding_all rfl) : wpAny (model PySem.Challenge.rw_nz0345_01.row.prog w) A (subscriptTail e1 e2 (.ref a.here) (.str (Str.ofString "rest") u)) Q E s := by
  obtain ⟨oH, clim, o0, m0, over, t1, t2, t3, t4, t5, tv, used, k1, k2, k3, k4, k5, wlim, got, u1, u2, u3, u4, owes, c1, c2, c3, c4, c5, cb, hm, hH, _⟩ := hI.fin
  exact kda_item (knd := PySem.strKind _ _) N (hs _ hm) hH (strKind_is _ _ _ _) (by rfl) (h _) hs9 hg9
theorem P1.len {r n : Nat} {rest clim cused wlim wused m0 : Int} {owes : Bool} {ns : List Int} {ls : List (Bool × Int)} (h : P1 r n rest clim cused wlim wused m0 owes ns ls) : ns.length = n := h.1
theorem P2.len {r n : Nat} {rest clim cused wlim wused m0 : Int} {owes : Bool} {ns : List Int} {ls : List (Bool × Int)} (h : P2 r n rest clim cused wlim wused m0 owes ns ls) : ls.length = n := h.1
theorem SubL.nilR {α : Type} {l : List α} : SubL (l ++ []) l := fun q hq => by simpa using hq
theorem Dis2.ofNodup {as : List Addr} (h : as.Nodup) : Dis2 as [] := ⟨h, fun _ h => nomatch h⟩
theorem lines19 : True := by
  k_with "call ref" => ((k_here; (with_reducible show wpAny _ _ (call (Value.ref 258) _ _) _ _ _); (with_reducible rename Dis2 _ _ => kO9); k_dflt (refine' Spec.use (take_spec _ _ _ _ _ _ _ _ _ _ _ ?yi ?yw1 ?yw2 ?yl ?ys) ?zA ?zf ?zd ?zu ?zB ?zF ?zX ?zN kO9 ?zs ?ze ?zr ?zT ?zk ?_; (case zA => exact rfl); (case zf => exact rfl); (case zd => exact Nat.le_of_ble_eq_true rfl); (case zu => exact Nat.le_of_ble_eq_true rfl); (case zF => k_asm); (case zB => k_asm); (case zX => k_asm); (case zN => k_asm); (case zT => k_asm); (case zk => first | exact rfl | assumption);  (case zs => k_upd); (case yi => assumption); (case yw1 => decide); (case yw2 => decide); (case yl => first | with_reducible assumption | exact len40 (by assumption)); (case ys => first | with_reducible assumption | exact ⟨by assumption, by assumption⟩ | exact seed_ok _ _ (by decide));  (case ze => exact rfl); (case zr => exact fun _ h => nomatch h)); intro r' led' h' tk' F' N' O' hp'; (try clear kO9); rcases hp' with ⟨rv', rt', vs', ns', sd', t1', e0', e1', hr', hlo', hhi', hs1', hs2', hi', hl', hled'⟩; (try subst hr'); (try subst hled'); (try dsimp only [List.cons_append, List.nil_append] at N'); (try dsimp only [List.map, List.cons_append, List.nil_append] at O'); (try k_sweep)))
  k_with "call ref" => ((k_here; (with_reducible show wpAny _ _ (call (Value.ref 86) _ _) _ _ _); (with_reducible rename Dis2 _ _ => kO9); k_dflt (refine' Spec.use (mkCredit _ _ _) ?zA ?zf ?zd ?zu ?zB ?zF ?zX ?zN kO9 ?zs ?ze ?zr ?zT ?zk ?_; (case zA => exact rfl); (case zf => exact rfl); (case zd => exact Nat.le_of_ble_eq_true rfl); (case zu => exact Nat.le_of_ble_eq_true rfl); (case zF => k_asm); (case zB => k_asm); (case zX => k_asm); (case zN => k_asm); (case zT => k_asm); (case zk => first | exact rfl | assumption);  (case zs => k_upd);  (case ze => exact rfl); (case zr => exact fun _ h => nomatch h)); intro r' led' h' tk' F' N' O' hp'; (try clear kO9); rcases hp' with ⟨x', d', c1', c2', c3', c4', c5', hr', hled'⟩; (try subst hr'); (try subst hled'); (try dsimp only [List.cons_append, List.nil_append] at N'); (try dsimp only [List.map, List.cons_append, List.nil_append] at O'); (try k_sweep)))
  k_with "call ref" => ((k_here; (with_reducible show wpAny _ _ (call (Value.ref 135) _ _) _ _ _); (with_reducible rename Dis2 _ _ => kO9); k_dflt (refine' Spec.use (mkWindow _ _ _) ?zA ?zf ?zd ?zu ?zB ?zF ?zX ?zN kO9 ?zs ?ze ?zr ?zT ?zk ?_; (case zA => exact rfl); (case zf => exact rfl); (case zd => exact Nat.le_of_ble_eq_true rfl); (case zu => exact Nat.le_of_ble_eq_true rfl); (case zF => k_asm); (case zB => k_asm); (case zX => k_asm); (case zN => k_asm); (case zT => k_asm); (case zk => first | exact rfl | assumption);  (case zs => k_upd);  (case ze => exact rfl); (case zr => exact fun _ h => nomatch h)); intro r' led' h' tk' F' N' O' hp'; (try clear kO9); rcases hp' with ⟨x', d', k1', k2', k3', k4', k5', u1', u2', u3', u4', hr', hled'⟩; (try subst hr'); (try subst hled'); (try dsimp only [List.cons_append, List.nil_append] at N'); (try dsimp only [List.map, List.cons_append, List.nil_append] at O'); (try k_sweep)))
  k_with "call ref" => ((k_here; (with_reducible show wpAny _ _ (call (Value.ref 240) _ _) _ _ _); (with_reducible rename Dis2 _ _ => kO9); k_dflt (refine' Spec.use (mkSids _ _ _ _ _ _ _ _ _ _ _ _ _ _ _) ?zA ?zf ?zd ?zu ?zB ?zF ?zX ?zN kO9 ?zs ?ze ?zr ?zT ?zk ?_; (case zA => exact rfl); (case zf => exact rfl); (case zd => exact Nat.le_of_ble_eq_true rfl); (case zu => exact Nat.le_of_ble_eq_true rfl); (case zF => k_asm); (case zB => k_asm); (case zX => k_asm); (case zN => k_asm); (case zT => k_asm); (case zk => first | exact rfl | assumption);  (case zs => k_upd);  (case ze => exact rfl); (case zr => exact fun _ h => nomatch h)); intro r' led' h' tk' F' N' O' hp'; (try clear kO9); rcases hp' with ⟨x', d', l1', l2', l3', l4', l5', l6', k1', k2', k3', k4', k5', k6', k7', w1', w2', w3', w4', f1', f2', f3', f4', f5', f6', hr', hled'⟩; (try subst hr'); (try subst hled'); (try dsimp only [List.cons_append, List.nil_append] at N'); (try dsimp only [List.map, List.cons_append, List.nil_append] at O'); (try k_sweep)))
  exact True.intro
local macro_rules | `(tactic| k_updF) => `(tactic| ((with_reducible show SubL _ _); with_reducible exact SubL.nilR))
theorem lines20 : True := by
  k_with "execs cons" => (((with_reducible show wpAny _ _ (execs (Stmt.For _ _ _ _ _ :: _) _) _ _ _); (refine wpAny_execs_cons ?_)))
  k_with "PostI" => ((dsimp only [PostI]))
  k_with "WPost" => ((dsimp only [WPost]))
  k_with "ite" => (k_dflt (with_reducible rw [if_pos (beq_self_eq_true _)]))
  k_with "EndI" => (k_dflt ((rename Fr _ _ _ _ => lF'); (rename News _ _ _ _ => lN'); (with_reducible rename Inv _ _ _ _ _ => hI9); (with_reducible rename Dis2 _ _ => kO9); (refine' EndI.intro lF' (News.subL lN' ?kS) kO9 ?I ?m); (case kS => k_updF); (case I => first | with_reducible exact hI9 | exact Inv.resetI hI9 (by omega)); (case m => (intro z h1; first | exact if_neg h1 | (simp [h1]; done)))))
  k_with "WEnd" => (k_dflt ((rename Fr _ _ _ _ => lF'); (rename News _ _ _ _ => lN'); (with_reducible rename Inv _ _ _ _ _ => hI9); (with_reducible rename Dis2 _ _ => kO9); (refine' WEnd.intro lF' (News.subL lN' ?kS) kO9 ?lt ?I); (case kS => k_updF); (case I => with_reducible exact hI9); (case lt => with_reducible assumption)))
  k_with "pyIter ref" => (((with_reducible show wpAny _ _ (pyIter (Value.ref _)) (fun it s₂ => LoopAtV _ _ _ _ _ _ _ _ _ it s₂) _ _); (fail_if_success (with_reducible rename Inv _ _ _ _ _ => hI9)); (rename Fr _ _ _ _ => lF'); (rename News _ _ _ _ => lN'); (rename IsRange _ _ _ _ _ _ _ _ => rgX); (with_reducible rename Dis2 _ _ => kO9); k_dflt ((with_unfolding_all refine' iterI1 (by rfl) rgX ?hb ?hb0 lF' (News.subL lN' ?kS) ?kD (Inv.start ?hH ?hbi ?hbl ?hbs ?hr0 ?hr1 ?hsz ?hst) (fun i' v' nx' h' tk' own' hi0' hi1' O' hI' F' N' => ?_) (fun u' nx' h' tk' D' hI' F' N' => ?_)); (case hH => with_reducible assumption); (case kS => k_updF); (case kD => (refine (Dis2.pick kO9 ?_).1; (dsimp only [List.map]); k_upd)); (case hbi => with_reducible assumption); (case hbl => with_reducible assumption); (case hbs => omega); (case hr0 => omega); (case hr1 => omega); (case hsz => omega); (case hst => omega); (case hb => (try rw [Int.fdiv_eq_ediv_of_nonneg _ (by decide)]); omega); (case hb0 => (try rw [Int.fdiv_eq_ediv_of_nonneg _ (by decide)]); omega); (all_goals (clear lF' lN' kO9)); (all_goals (try k_fold)))))
  k_with "pyIter ref" => (((with_reducible show wpAny _ _ (pyIter (Value.ref _)) (fun it s₂ => LoopAtV _ _ _ _ _ _ _ _ _ it s₂) _ _); (with_reducible rename Inv _ _ 40 (PR 0) _ => hI9); (rename Fr _ _ _ _ => lF'); (rename News _ _ _ _ => lN'); (rename IsRange _ _ _ _ _ _ _ _ => rgX); (with_reducible rename List.Nodup _ => kD9); k_dflt ((with_unfolding_all refine' iterI2 (by rfl) rgX lF' (News.subL lN' ?kS) kD9 hI9 (fun r' v' nx' h' tk' own' O' hI' F' N' => ?_) (fun u' nx' h' tk' D' hI' F' N' => ?tb)); (case kS => k_updF); (case' tb => (obtain ⟨oH', clim', o0', m0', over', t1', t2', t3', t4', t5', tv', used', k1', k2', k3', k4', k5', wlim', got', u1', u2', u3', u4', owes', c1', c2', c3', c4', c5', cb', hm1', hm2', hm3', hm4', hm5', hm6'⟩ := hI'.fin; (have O9' := Dis2.ofNodup D'))); (all_goals (clear lF' lN' hI9 kD9)); (all_goals (try k_fold)))))
  k_with "exec While Compare cons nil" => ((k_here; k_dflt ((rename Fr _ _ _ _ => lF'); (rename News _ _ _ _ => lN'); (with_reducible rename Inv _ _ _ _ _ => hI9); (with_reducible rename Dis2 _ _ => kO9); (first | refine' whileI (P1 _) _ lF' (News.subL lN' ?kS) kO9 hI9 (fun n' nx' h' tk' O' hI' F' N' => ?_) | refine' whileI (P2 _) _ lF' (News.subL lN' ?kS) kO9 hI9 (fun n' nx' h' tk' O' hI' F' N' => ?_)); (case kS => k_updF); (clear lF' lN' hI9 kO9); (try k_fold))))
  k_with "compareOp NotEq ref ref" => ((k_here; (with_reducible rename Inv _ _ _ _ _ => hI9); k_dflt (first | (refine' ne_flyI ?rN hI9 (fun _ _ _ _ _ _ _ _ _ h => P1.len h) ?rs ?r2 ?ru ?_; (case rN => k_asm); (case rs => k_updF); (case r2 => k_mem); (case ru => ke_room)) | (refine' ne_limI ?sN hI9 (fun _ _ _ _ _ _ _ _ _ h => P2.len h) ?ss ?s2 ?su ?_; (case sN => k_asm); (case ss => k_updF); (case s2 => k_mem); (case su => ke_room)))))
  k_with "call builtin:len" => ((k_here; (with_reducible rename Inv _ _ 42 (P2 _ _) _ => hI9); k_dflt (refine' len_limI ?sN hI9 (fun _ _ _ _ _ _ _ _ _ h => P2.len h) ?ss hI9.n2 ?_; (case sN => k_asm); (case ss => k_updF))))
  k_with "call ref" => ((k_here; (with_reducible show wpAny _ _ (call (Value.ref 265) _ _) _ _ _); (with_reducible rename Inv _ _ _ _ _ => hI9); (with_reducible rename Dis2 _ _ => kO9); k_dflt (refine' Spec.useI (sentR _ _ _ _ hI9 _) ?zA ?zf ?zd ?zu ?zB ?zF ?zX ?zN kO9 ?zs ?zT ?zk ?_; (case zA => exact rfl); (case zf => exact rfl); (case zd => exact Nat.le_of_ble_eq_true rfl); (case zu => exact Nat.le_of_ble_eq_true rfl); (case zF => k_asm); (case zB => k_asm); (case zX => k_asm); (case zN => k_asm); (case zT => k_asm); (case zk => first | exact rfl | assumption); (case zs => k_updF); skip); intro r' led' h' tk' F' N' O' hp'; (try clear kO9 hI9); obtain ⟨hr', n', hn', hI'⟩ := hp'; subst hr'; (try k_sweep)))
  k_with "call ref" => ((k_here; (with_reducible show wpAny _ _ (call (Value.ref 272) _ _) _ _ _); (with_reducible rename Inv _ _ _ _ _ => hI9); (with_reducible rename Dis2 _ _ => kO9); k_dflt (refine' Spec.useI (cameR _ _ _ _ _ hI9 ?y0 _) ?zA ?zf ?zd ?zu ?zB ?zF ?zX ?zN kO9 ?zs ?zT ?zk ?_; (case zA => exact rfl); (case zf => exact rfl); (case zd => exact Nat.le_of_ble_eq_true rfl); (case zu => exact Nat.le_of_ble_eq_true rfl); (case zF => k_asm); (case zB => k_asm); (case zX => k_asm); (case zN => k_asm); (case zT => k_asm); (case zk => first | exact rfl | assumption); (case zs => k_updF); (case y0 => with_reducible assumption); skip); intro r' led' h' tk' F' N' O' hp'; (try clear kO9 hI9); obtain ⟨hr', n', hn', hI'⟩ := hp'; subst hr'; (try k_sweep)))
  k_with "call ref" => ((k_here; (with_reducible show wpAny _ _ (call (Value.ref 279) _ _) _ _ _); (with_reducible rename Inv _ _ _ _ _ => hI9); (with_reducible rename Dis2 _ _ => kO9); k_dflt (refine' Spec.useI (readR _ _ _ _ _ hI9 ?y0 _) ?zA ?zf ?zd ?zu ?zB ?zF ?zX ?zN kO9 ?zs ?zT ?zk ?_; (case zA => exact rfl); (case zf => exact rfl); (case zd => exact Nat.le_of_ble_eq_true rfl); (case zu => exact Nat.le_of_ble_eq_true rfl); (case zF => k_asm); (case zB => k_asm); (case zX => k_asm); (case zN => k_asm); (case zT => k_asm); (case zk => first | exact rfl | assumption); (case zs => k_updF); (case y0 => with_reducible assumption); skip); intro r' led' h' tk' F' N' O' hp'; (try clear kO9 hI9); obtain ⟨hr', hI'⟩ := hp'; subst hr'; (try k_sweep)))
  k_with "call ref" => ((k_here; (with_reducible show wpAny _ _ (call (Value.ref 286) _ _) _ _ _); (with_reducible rename Inv _ _ _ _ _ => hI9); (with_reducible rename Dis2 _ _ => kO9); k_dflt (refine' Spec.useI (toldR _ _ _ _ hI9) ?zA ?zf ?zd ?zu ?zB ?zF ?zX ?zN kO9 ?zs ?zT ?zk ?_; (case zA => exact rfl); (case zf => exact rfl); (case zd => exact Nat.le_of_ble_eq_true rfl); (case zu => exact Nat.le_of_ble_eq_true rfl); (case zF => k_asm); (case zB => k_asm); (case zX => k_asm); (case zN => k_asm); (case zT => k_asm); (case zk => first | exact rfl | assumption); (case zs => k_updF); skip); intro r' led' h' tk' F' N' O' hp'; (try clear kO9 hI9); obtain ⟨hr', n', hn', hI'⟩ := hp'; subst hr'; (try k_sweep)))
  k_with "call ref" => ((k_here; (with_reducible show wpAny _ _ (call (Value.ref 293) _ _) _ _ _); (with_reducible rename Inv _ _ _ _ _ => hI9); (with_reducible rename Dis2 _ _ => kO9); k_dflt (refine' Spec.useI (heardR _ _ _ _ _ hI9 ?y0 _) ?zA ?zf ?zd ?zu ?zB ?zF ?zX ?zN kO9 ?zs ?zT ?zk ?_; (case zA => exact rfl); (case zf => exact rfl); (case zd => exact Nat.le_of_ble_eq_true rfl); (case zu => exact Nat.le_of_ble_eq_true rfl); (case zF => k_asm); (case zB => k_asm); (case zX => k_asm); (case zN => k_asm); (case zT => k_asm); (case zk => first | exact rfl | assumption); (case zs => k_updF); (case y0 => with_reducible assumption); skip); intro r' led' h' tk' F' N' O' hp'; (try clear kO9 hI9); obtain ⟨hr', n', hn', hI'⟩ := hp'; subst hr'; (try k_sweep)))
  k_with "call ref" => ((k_here; (with_reducible show wpAny _ _ (call (Value.ref 314) _ _) _ _ _); (with_reducible rename Inv _ _ _ _ _ => hI9); (with_reducible rename Dis2 _ _ => kO9); k_dflt (refine' Spec.useI (openedI _ _ _ PF PA _ hI9 ?y0 (fun _ _ _ _ _ _ _ _ _ _ _ => trivial)) ?zA ?zf ?zd ?zu ?zB ?zF ?zX ?zN kO9 ?zs ?zT ?zk ?_; (case zA => exact rfl); (case zf => exact rfl); (case zd => exact Nat.le_of_ble_eq_true rfl); (case zu => exact Nat.le_of_ble_eq_true rfl); (case zF => k_asm); (case zB => k_asm); (case zX => k_asm); (case zN => k_asm); (case zT => k_asm); (case zk => first | exact rfl | assumption); (case zs => k_updF); (case y0 => decide); skip); intro r' led' h' tk' F' N' O' hp'; (try clear kO9 hI9); obtain ⟨hr', hI'⟩ := hp'; subst hr'; (try k_sweep)))
  k_with "call ref" => ((k_here; (with_reducible show wpAny _ _ (call (Value.ref 321) _ _) _ _ _); (with_reducible rename Inv _ _ _ _ _ => hI9); (with_reducible rename Dis2 _ _ => kO9); k_dflt (refine' Spec.useI (stepI _ _ _ _ hI9 ?y0 ?y1) ?zA ?zf ?zd ?zu ?zB ?zF ?zX ?zN kO9 ?zs ?zT ?zk ?_; (case zA => exact rfl); (case zf => exact rfl); (case zd => exact Nat.le_of_ble_eq_true rfl); (case zu => exact Nat.le_of_ble_eq_true rfl); (case zF => k_asm); (case zB => k_asm); (case zX => k_asm); (case zN => k_asm); (case zT => k_asm); (case zk => first | exact rfl | assumption); (case zs => k_updF); (case y0 => with_reducible assumption); (case y1 => with_reducible assumption); skip); intro r' led' h' tk' F' N' O' hp'; (try clear kO9 hI9); obtain ⟨hr', hI'⟩ := hp'; subst hr'; (try k_sweep)))
  k_with "subscriptTail" => ((k_here; (with_reducible show wpAny _ _ (subscriptTail _ _ (Value.ref _) (Value.str (Str.ofString "rest") _)) _ _ _); (with_reducible rename Inv _ _ 40 PF _ => hI9); k_dflt (refine' rd_rest0 ?rN hI9 ?rs ?_; (case rN => k_asm); (case rs => k_updF)); intro t'; (try k_sweep)))
  exact True.intro
theorem off30 : True := by
  w_top off
  exact True.intro
theorem law_all : PySem.Challenge.rw_nz0345_01.Holds := hd9 rfl rfl rfl (by
  clear law_all
  have _ : ∀ P h, (K9 P).In h → PySem.Challenge.rw_nz0345_01 = PySem.Challenge.rw_nz0345_01 := by
    k_fill
    intro P h _
    rfl
  (k_with "pyIter ref" => ((fail_if_success (with_reducible rename IsRange _ _ _ _ _ _ _ _ => rg9)); k_invariant "seed_here" (fun a => 0 ≤ a ∧ a < 2147483647)))
  w_strict (k_go0; (all_goals try k_fold); (all_goals (have kO9 := dis0 (R := ([] : Led)))); k_steps))
end Mine
theorem PySem.Challenge.cw_nz0345_01_holds : PySem.Challenge.rw_nz0345_01.Holds :=
  Mine.law_all
